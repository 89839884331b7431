import PyProof.Rows.All
import Wide.All
import OpenK.AllK
import Wide.FinOn
import HandS.ForMost
import HandS.Exc
import HandS.TryOnly
import HandS.Style
import HandS.ExcIs
import HandS.ExcField
import HandS.ExcInit
import HandS.ExcSuper
import HandS.TupAny
import HandS.Deep
import HandS.Wide
import HandS.Flow
import HandS.SortInts
import HandS.Conv
import HandS.IsInst
import HandS.TryMany
import HandS.CallSlots
import HandS.SortOrd
import HandS.SortRule
import PyProof.Rows.SortKeyStr
import HandS.WordsExc
import HandS.EndBits
import PySem.Challenge.RW_foldkinds_k05_arrows_of_kinds
set_option Elab.async false
set_option linter.all false
set_option maxRecDepth 100000
set_option maxHeartbeats 4000000
/-! PV0: what a Python value stands for (PyData), and who owns the lists that change. -/
namespace PV
open PySem PySem.Spec L2

abbrev D := PyData
abbrev Frag := PySem.W.Frag

def keyD : Key → D
  | .inl i => .int i
  | .inr x => .str x
def tkeyD (ks : List Key) : D := .tuple (ks.map keyD)
/-- lists and dicts -/
def isC : D → Bool
  | .list _ => true
  | .dict _ => true
  | _ => false

/-- a list that is read: tracked, frozen, or one of the module's own -/
def LsR (K : Frag) (G : Hp) (a : Addr) (xs : List V) : Prop :=
  Rd G a (.lst xs) ∨ ∃ (its : List Value) (n : Nat), K.lookup a = some { cls := .type "list", data := .seq its.toArray n } ∧ xs.length ≤ sizeLine ∧ Vals xs its
theorem LsR.of {K : Frag} {G : Hp} {a : Addr} {xs : List V} (h : G a = some (.lst xs)) : LsR K G a xs := .inl (.inl h)
theorem LsR.sq {K : Frag} {G : Hp} {a : Addr} {xs : List V} (h : LsR K G a xs) : SqL K G a xs := by
  rcases h with h | ⟨its, n, hk, hz, r⟩
  · exact .inl h
  · exact .inr ⟨_, its.toArray, n, hk, rfl, rfl, rfl, by rw [List.size_toArray, ← r.length]; exact hz, by simpa using r⟩

mutual
/-- v stands for d, all of it in the heap G, which does not change -/
inductive Rep (K : Frag) (G : Hp) : V → D → Prop
  | non : Rep K G .non .none
  | bl (b : Bool) : Rep K G (.bl b) (.bool b)
  | int (i : Int) : Rep K G (.int i) (.int i)
  | str (x : Str) : Rep K G (.str x) (.str x)
  | lst {a : Addr} {xs : List V} {ds : List D} : LsR K G a xs → RepAll K G xs ds → Rep K G (.ref a) (.list ds)
  | tup {a : Addr} {xs : List V} {ds : List D} : SqT K G a xs → RepAll K G xs ds → Rep K G (.ref a) (.tuple ds)
  | dic {a : Addr} {kvs : List (Key × V)} {ds : List (D × D)} : G a = some (.dK kvs) → RepKV K G kvs ds → Rep K G (.ref a) (.dict ds)
  | dicT {a : Addr} {kvs : List (List Key × V)} {ds : List (D × D)} : G a = some (.dT kvs) → RepKT K G kvs ds → Rep K G (.ref a) (.dict ds)
inductive RepAll (K : Frag) (G : Hp) : List V → List D → Prop
  | nil : RepAll K G [] []
  | cons {v : V} {vs : List V} {d : D} {ds : List D} : Rep K G v d → RepAll K G vs ds → RepAll K G (v :: vs) (d :: ds)
inductive RepKV (K : Frag) (G : Hp) : List (Key × V) → List (D × D) → Prop
  | nil : RepKV K G [] []
  | cons {k : Key} {v : V} {kvs : List (Key × V)} {d : D} {ds : List (D × D)} : Rep K G v d → RepKV K G kvs ds → RepKV K G ((k, v) :: kvs) ((keyD k, d) :: ds)
inductive RepKT (K : Frag) (G : Hp) : List (List Key × V) → List (D × D) → Prop
  | nil : RepKT K G [] []
  | cons {k : List Key} {v : V} {kvs : List (List Key × V)} {d : D} {ds : List (D × D)} : Rep K G v d → RepKT K G kvs ds → RepKT K G ((k, v) :: kvs) ((tkeyD k, d) :: ds)
end

theorem SqT.same {K : Frag} {G G' : Hp} {a : Addr} {xs : List V} (e : Same G G') (h : SqT K G a xs) : SqT K G' a xs := by
  rcases h with (h | ⟨o, h⟩) | h
  · exact .inl (.inl (e _ _ h))
  · exact .inl (.inr ⟨o, e _ _ h⟩)
  · exact .inr h
theorem Rd.same {G G' : Hp} {a : Addr} {u : HO} (e : Same G G') (h : Rd G a u) : Rd G' a u := by
  rcases h with h | ⟨o, h⟩
  · exact .inl (e _ _ h)
  · exact .inr ⟨o, e _ _ h⟩
theorem LsR.same {K : Frag} {G G' : Hp} {a : Addr} {xs : List V} (e : Same G G') (h : LsR K G a xs) : LsR K G' a xs := h.imp (Rd.same e) id

mutual
theorem Rep.same {K : Frag} {G G' : Hp} (e : Same G G') : ∀ {v : V} {d : D}, Rep K G v d → Rep K G' v d
  | _, _, .non => .non
  | _, _, .bl b => .bl b
  | _, _, .int i => .int i
  | _, _, .str x => .str x
  | _, _, .lst q r => .lst (LsR.same e q) (RepAll.same e r)
  | _, _, .tup q r => .tup (SqT.same e q) (RepAll.same e r)
  | _, _, .dic q r => .dic (e _ _ q) (RepKV.same e r)
  | _, _, .dicT q r => .dicT (e _ _ q) (RepKT.same e r)
theorem RepAll.same {K : Frag} {G G' : Hp} (e : Same G G') : ∀ {vs : List V} {ds : List D}, RepAll K G vs ds → RepAll K G' vs ds
  | _, _, .nil => .nil
  | _, _, .cons r t => .cons (Rep.same e r) (RepAll.same e t)
theorem RepKV.same {K : Frag} {G G' : Hp} (e : Same G G') : ∀ {vs : List (Key × V)} {ds : List (D × D)}, RepKV K G vs ds → RepKV K G' vs ds
  | _, _, .nil => .nil
  | _, _, .cons r t => .cons (Rep.same e r) (RepKV.same e t)
theorem RepKT.same {K : Frag} {G G' : Hp} (e : Same G G') : ∀ {vs : List (List Key × V)} {ds : List (D × D)}, RepKT K G vs ds → RepKT K G' vs ds
  | _, _, .nil => .nil
  | _, _, .cons r t => .cons (Rep.same e r) (RepKT.same e t)
end

mutual
/-- v stands for d; the lists of the upper k levels are owned: they stand in H at fp -/
inductive Own (K : Frag) (H G : Hp) : Nat → V → D → List Addr → Prop
  | frz {v : V} {d : D} : Rep K G v d → Own K H G 0 v d []
  | flat {k : Nat} {v : V} {d : D} : Rep K G v d → isC d = false → Own K H G (k + 1) v d []
  | lst {k : Nat} {a : Addr} {xs : List V} {ds : List D} {fp : List Addr} : H a = some (.lst xs) → OwnAll K H G k xs ds fp → Own K H G (k + 1) (.ref a) (.list ds) (a :: fp)
  | dic {k : Nat} {a : Addr} {kvs : List (Key × V)} {ds : List (D × D)} : H a = some (.dK kvs) → RepKV K G kvs ds → Own K H G (k + 1) (.ref a) (.dict ds) [a]
  | dicT {k : Nat} {a : Addr} {kvs : List (List Key × V)} {ds : List (D × D)} : H a = some (.dT kvs) → RepKT K G kvs ds → Own K H G (k + 1) (.ref a) (.dict ds) [a]
inductive OwnAll (K : Frag) (H G : Hp) : Nat → List V → List D → List Addr → Prop
  | nil {k : Nat} : OwnAll K H G k [] [] []
  | cons {k : Nat} {v : V} {vs : List V} {d : D} {ds : List D} {f1 f2 : List Addr} : Own K H G k v d f1 → OwnAll K H G k vs ds f2 → OwnAll K H G k (v :: vs) (d :: ds) (f1 ++ f2)
end

mutual
theorem Own.mono {K : Frag} {H H' G G' : Hp} (e : Same G G') : ∀ {k : Nat} {v : V} {d : D} {fp : List Addr}, Own K H G k v d fp → (∀ a ∈ fp, H' a = H a) → Own K H' G' k v d fp
  | _, _, _, _, .frz r, _ => .frz (r.same e)
  | _, _, _, _, .flat r c, _ => .flat (r.same e) c
  | _, _, _, _, .lst q r, h => .lst ((h _ List.mem_cons_self).trans q) (OwnAll.mono e r fun a m => h a (List.mem_cons_of_mem _ m))
  | _, _, _, _, .dic q r, h => .dic ((h _ List.mem_cons_self).trans q) (r.same e)
  | _, _, _, _, .dicT q r, h => .dicT ((h _ List.mem_cons_self).trans q) (r.same e)
theorem OwnAll.mono {K : Frag} {H H' G G' : Hp} (e : Same G G') : ∀ {k : Nat} {v : List V} {d : List D} {fp : List Addr}, OwnAll K H G k v d fp → (∀ a ∈ fp, H' a = H a) → OwnAll K H' G' k v d fp
  | _, _, _, _, .nil, _ => .nil
  | _, _, _, _, .cons r t, h => .cons (Own.mono e r fun a m => h a (List.mem_append_left _ m)) (OwnAll.mono e t fun a m => h a (List.mem_append_right _ m))
end
mutual
theorem Own.there {K : Frag} {H G : Hp} : ∀ {k : Nat} {v : V} {d : D} {fp : List Addr}, Own K H G k v d fp → ∀ a ∈ fp, ∃ o, H a = some o
  | _, _, _, _, .frz _, _, h => nomatch h
  | _, _, _, _, .flat _ _, _, h => nomatch h
  | _, _, _, _, .lst q r, a, h => by
    rcases List.mem_cons.mp h with e | h
    · exact ⟨_, e ▸ q⟩
    · exact OwnAll.there r a h
  | _, _, _, _, .dic q r, a, h => by
    rcases List.mem_cons.mp h with e | h
    · exact ⟨_, e ▸ q⟩
    · cases h
  | _, _, _, _, .dicT q r, a, h => by
    rcases List.mem_cons.mp h with e | h
    · exact ⟨_, e ▸ q⟩
    · cases h
theorem OwnAll.there {K : Frag} {H G : Hp} : ∀ {k : Nat} {v : List V} {d : List D} {fp : List Addr}, OwnAll K H G k v d fp → ∀ a ∈ fp, ∃ o, H a = some o
  | _, _, _, _, .nil, _, h => nomatch h
  | _, _, _, _, .cons r t, a, h => by
    rcases List.mem_append.mp h with h | h
    · exact Own.there r a h
    · exact OwnAll.there t a h
end
mutual
theorem Own.zero {K : Frag} {H G : Hp} : ∀ {v : V} {d : D} {fp : List Addr}, Own K H G 0 v d fp → fp = [] ∧ Rep K G v d
  | _, _, _, .frz r => ⟨rfl, r⟩
theorem OwnAll.zero {K : Frag} {H G : Hp} : ∀ {v : List V} {d : List D} {fp : List Addr}, OwnAll K H G 0 v d fp → fp = [] ∧ RepAll K G v d
  | _, _, _, .nil => ⟨rfl, .nil⟩
  | _, _, _, .cons r t => by
    obtain ⟨e1, r1⟩ := Own.zero r
    obtain ⟨e2, r2⟩ := OwnAll.zero t
    subst e1; subst e2
    exact ⟨rfl, .cons r1 r2⟩
end
theorem OwnAll.of_rep {K : Frag} {H G : Hp} : ∀ {v : List V} {d : List D}, RepAll K G v d → OwnAll K H G 0 v d []
  | _, _, .nil => .nil
  | _, _, .cons r t => .cons (f1 := []) (.frz r) (OwnAll.of_rep t)
theorem perm_mid {α : Type} {a b c d e f : List α} (h1 : a.Perm (b ++ c)) (h2 : d.Perm (e ++ f)) : (a ++ d).Perm ((b ++ e) ++ (c ++ f)) := by
  refine (h1.append h2).trans ?_
  rw [List.append_assoc, List.append_assoc]
  refine List.Perm.append_left _ ?_
  rw [← List.append_assoc, ← List.append_assoc]
  exact List.Perm.append_right _ List.perm_append_comm
mutual
/-- fewer levels are owned; the lists at f2 are let go -/
theorem Own.lower {K : Frag} {H G : Hp} : ∀ {k : Nat} {v : V} {d : D} {fp : List Addr}, Own K H G k v d fp → ∀ j, j ≤ k →
    ∃ f1 f2, fp.Perm (f1 ++ f2) ∧ ∀ G', Same G G' → (∀ a ∈ f2, G' a = H a) → Own K H G' j v d f1
  | _, _, _, _, .frz r, j, h => by
    obtain rfl : j = 0 := Nat.le_zero.mp h
    exact ⟨[], [], .nil, fun G' e _ => .frz (r.same e)⟩
  | _, _, _, _, .flat r c, j, h => by
    cases j with
    | zero => exact ⟨[], [], .nil, fun G' e _ => .frz (r.same e)⟩
    | succ j => exact ⟨[], [], .nil, fun G' e _ => .flat (r.same e) c⟩
  | _, _, _, _, .lst (a := a) q r, j, h => by
    cases j with
    | zero =>
      obtain ⟨f1, f2, p, m⟩ := OwnAll.lower r 0 (Nat.zero_le _)
      refine ⟨[], a :: (f1 ++ f2), .cons _ p, fun G' e z => .frz (.lst (LsR.of ((z a List.mem_cons_self).trans q)) ?_)⟩
      exact (m G' e fun b hb => z b (List.mem_cons_of_mem _ (List.mem_append_right _ hb))).zero.2
    | succ j =>
      obtain ⟨f1, f2, p, m⟩ := OwnAll.lower r j (Nat.le_of_succ_le_succ h)
      exact ⟨a :: f1, f2, .cons _ p, fun G' e z => .lst q (m G' e z)⟩
  | _, _, _, _, .dic (a := a) q r, j, h => by
    cases j with
    | zero => exact ⟨[], [a], .refl _, fun G' e z => .frz (.dic ((z a List.mem_cons_self).trans q) (r.same e))⟩
    | succ j => exact ⟨[a], [], .refl _, fun G' e z => .dic q (r.same e)⟩
  | _, _, _, _, .dicT (a := a) q r, j, h => by
    cases j with
    | zero => exact ⟨[], [a], .refl _, fun G' e z => .frz (.dicT ((z a List.mem_cons_self).trans q) (r.same e))⟩
    | succ j => exact ⟨[a], [], .refl _, fun G' e z => .dicT q (r.same e)⟩
theorem OwnAll.lower {K : Frag} {H G : Hp} : ∀ {k : Nat} {v : List V} {d : List D} {fp : List Addr}, OwnAll K H G k v d fp → ∀ j, j ≤ k →
    ∃ f1 f2, fp.Perm (f1 ++ f2) ∧ ∀ G', Same G G' → (∀ a ∈ f2, G' a = H a) → OwnAll K H G' j v d f1
  | _, _, _, _, .nil, j, h => ⟨[], [], .nil, fun G' e _ => .nil⟩
  | _, _, _, _, .cons r t, j, h => by
    obtain ⟨f1, f2, p, m⟩ := Own.lower r j h
    obtain ⟨g1, g2, q, n⟩ := OwnAll.lower t j h
    refine ⟨f1 ++ g1, f2 ++ g2, perm_mid p q, fun G' e z => .cons (m G' e fun b hb => z b (List.mem_append_left _ hb)) (n G' e fun b hb => z b (List.mem_append_right _ hb))⟩
end

/-- many values, each with what it owns -/
abbrev Root := V × Nat × D
inductive OwnT (K : Frag) (H G : Hp) : List Root → List Addr → Prop
  | nil : OwnT K H G [] []
  | cons {v : V} {k : Nat} {d : D} {T : List Root} {f1 f2 : List Addr} : Own K H G k v d f1 → OwnT K H G T f2 → OwnT K H G ((v, k, d) :: T) (f1 ++ f2)
theorem OwnT.mono {K : Frag} {H H' G G' : Hp} (e : Same G G') : ∀ {T : List Root} {fp : List Addr}, OwnT K H G T fp → (∀ a ∈ fp, H' a = H a) → OwnT K H' G' T fp
  | _, _, .nil, _ => .nil
  | _, _, .cons r t, h => .cons (r.mono e fun a m => h a (List.mem_append_left _ m)) (OwnT.mono e t fun a m => h a (List.mem_append_right _ m))
theorem OwnT.there {K : Frag} {H G : Hp} : ∀ {T : List Root} {fp : List Addr}, OwnT K H G T fp → ∀ a ∈ fp, ∃ o, H a = some o
  | _, _, .nil, _, h => nomatch h
  | _, _, .cons r t, a, h => (List.mem_append.mp h).elim (r.there a) (OwnT.there t a)
theorem OwnT.perm {K : Frag} {H G : Hp} {T T' : List Root} (p : T.Perm T') : ∀ {fp : List Addr}, OwnT K H G T fp → ∃ fp', fp.Perm fp' ∧ OwnT K H G T' fp' := by
  induction p with
  | nil => intro fp h; exact ⟨fp, .refl _, h⟩
  | cons x _ ih =>
    intro fp h
    cases h with
    | cons r t =>
      obtain ⟨f, p, q⟩ := ih t
      exact ⟨_, p.append_left _, .cons r q⟩
  | swap x y l =>
    intro fp h
    cases h with
    | cons r t =>
      cases t with
      | cons r' t' =>
        refine ⟨_, ?_, .cons r' (.cons r t')⟩
        rw [← List.append_assoc, ← List.append_assoc]
        exact List.perm_append_comm.append_right _
  | trans _ _ ih1 ih2 =>
    intro fp h
    obtain ⟨f, p, q⟩ := ih1 h
    obtain ⟨g, p', q'⟩ := ih2 q
    exact ⟨g, p.trans p', q'⟩
theorem OwnT.append {K : Frag} {H G : Hp} : ∀ {T U : List Root} {f g : List Addr}, OwnT K H G T f → OwnT K H G U g → OwnT K H G (T ++ U) (f ++ g)
  | _, _, _, _, .nil, h => h
  | _, _, _, _, .cons r t, h => by
    rw [List.append_assoc]
    exact .cons r (OwnT.append t h)
theorem OwnT.split {K : Frag} {H G : Hp} : ∀ {T U : List Root} {f : List Addr}, OwnT K H G (T ++ U) f → ∃ f1 f2, f = f1 ++ f2 ∧ OwnT K H G T f1 ∧ OwnT K H G U f2
  | [], _, f, h => ⟨[], f, rfl, .nil, h⟩
  | _ :: T, _, _, .cons r t => by
    obtain ⟨f1, f2, e, a, b⟩ := OwnT.split (T := T) t
    subst e
    exact ⟨_, f2, (List.append_assoc ..).symm, .cons r a, b⟩

/-- the heap H: F frozen (a part of G), B kept but not looked at, T the values at hand, their own lists at fp -/
structure RootsG (K : Frag) (F B H : Hp) (T : List Root) (G : Hp) (fp : List Addr) : Prop where
  fg : Same F G
  gh : Same G H
  bh : Same B H
  nd : fp.Nodup
  out : ∀ a ∈ fp, G a = none ∧ B a = none
  bg : ∀ a o, B a = some o → G a = none
  own : OwnT K H G T fp
def Roots (K : Frag) (F B H : Hp) (T : List Root) : Prop := ∃ G fp, RootsG K F B H T G fp

section
variable {K : Frag} {F B H H' G G' : Hp} {T T' : List Root} {fp : List Addr} {v : V} {k : Nat} {d : D}
theorem RootsG.perm (r : RootsG K F B H T G fp) (p : T.Perm T') : ∃ fp', RootsG K F B H T' G fp' := by
  obtain ⟨f, q, o⟩ := r.own.perm p
  exact ⟨f, r.fg, r.gh, r.bh, q.nodup_iff.mp r.nd, fun a h => r.out a (q.mem_iff.mpr h), r.bg, o⟩
theorem Roots.perm (r : Roots K F B H T) (p : T.Perm T') : Roots K F B H T' := by
  obtain ⟨G, fp, r⟩ := r
  obtain ⟨f, r⟩ := r.perm p
  exact ⟨G, f, r⟩
theorem Roots.drop (r : Roots K F B H ((v, k, d) :: T)) : Roots K F B H T := by
  obtain ⟨G, fp, r⟩ := r
  obtain ⟨fg, gh, bh, nd, out, bg, own⟩ := r
  cases own with
  | cons o t => exact ⟨G, _, fg, gh, bh, (List.nodup_append.mp nd).2.1, fun a h => out a (List.mem_append_right _ h), bg, t⟩
theorem Roots.dropL : ∀ {S : List Root}, Roots K F B H (S ++ T) → Roots K F B H T
  | [], r => r
  | _ :: S, r => Roots.dropL (S := S) (Roots.drop r)
theorem Roots.keepL {S : List Root} (r : Roots K F B H (S ++ T)) : Roots K F B H S := Roots.dropL (S := T) (r.perm List.perm_append_comm)
/-- what was let go is frozen from now on -/
def thaw (G H : Hp) (l : List Addr) : Hp := fun a => if a ∈ l then H a else G a
theorem thaw_in {l : List Addr} {a : Addr} (h : a ∈ l) : thaw G H l a = H a := if_pos h
theorem thaw_out {l : List Addr} {a : Addr} (h : a ∉ l) : thaw G H l a = G a := if_neg h
theorem thaw_same {l : List Addr} (gh : Same G H) : Same G (thaw G H l) := fun a o e => by
  by_cases h : a ∈ l
  · rw [thaw_in h]; exact gh a o e
  · rw [thaw_out h]; exact e
theorem thaw_sub {l : List Addr} (gh : Same G H) : Same (thaw G H l) H := fun a o e => by
  by_cases h : a ∈ l
  · rw [thaw_in h] at e; exact e
  · rw [thaw_out h] at e; exact gh a o e
theorem Roots.lower {j : Nat} (h : j ≤ k) (r : Roots K F B H ((v, k, d) :: T)) : Roots K F B H ((v, j, d) :: T) := by
  obtain ⟨G, fp, fg, gh, bh, nd, out, bg, own⟩ := r
  cases own with
  | cons o t =>
    rename_i f1 f2
    obtain ⟨g1, g2, p, m⟩ := o.lower j h
    have nd' : ((g1 ++ g2) ++ f2).Nodup := (p.append_right f2).nodup_iff.mp nd
    have hm : ∀ a, a ∈ (g1 ++ g2) ++ f2 → a ∈ f1 ++ f2 := fun a q => (p.append_right f2).mem_iff.mpr q
    obtain ⟨n1, n2, n3⟩ := List.nodup_append.mp nd'
    obtain ⟨n4, n5, n6⟩ := List.nodup_append.mp n1
    have d1 : ∀ a ∈ g1, a ∉ g2 := fun a q1 q2 => n6 a q1 a q2 rfl
    have d2 : ∀ a ∈ f2, a ∉ g2 := fun a q1 q2 => n3 a (List.mem_append_right _ q2) a q1 rfl
    refine ⟨thaw G H g2, g1 ++ f2, fun a o e => thaw_same gh a o (fg a o e), thaw_sub gh, bh, ?_, fun a q => ?_, fun a o e => ?_, .cons (m _ (thaw_same gh) fun a q => thaw_in q) (t.mono (thaw_same gh) fun a _ => rfl)⟩
    · refine List.nodup_append.mpr ⟨n4, n2, fun a q1 b q2 => n3 a (List.mem_append_left _ q1) b q2⟩
    · rcases List.mem_append.mp q with q | q
      · have z := out a (hm a (List.mem_append_left _ (List.mem_append_left _ q)))
        rw [thaw_out (d1 a q)]; exact z
      · have z := out a (hm a (List.mem_append_right _ q))
        rw [thaw_out (d2 a q)]; exact z
    · by_cases q : a ∈ g2
      · have z := (out a (hm a (List.mem_append_left _ (List.mem_append_right _ q)))).2
        rw [e] at z; cases z
      · rw [thaw_out q]; exact bg a o e
theorem Roots.freeze (r : Roots K F B H ((v, k, d) :: T)) : Roots K F B H ((v, 0, d) :: T) := r.lower (Nat.zero_le _)
theorem Roots.dup (r : Roots K F B H ((v, 0, d) :: T)) : Roots K F B H ((v, 0, d) :: (v, 0, d) :: T) := by
  obtain ⟨G, fp, fg, gh, bh, nd, out, bg, own⟩ := r
  cases own with
  | cons o t =>
    obtain ⟨e, r⟩ := o.zero
    subst e
    exact ⟨G, _, fg, gh, bh, nd, out, bg, .cons (f1 := []) (.frz r) (.cons (f1 := []) (.frz r) t)⟩
theorem Roots.rep (r : Roots K F B H ((v, 0, d) :: T)) : Rep K H v d := by
  obtain ⟨G, fp, fg, gh, bh, nd, out, bg, own⟩ := r
  cases own with
  | cons o t =>
    obtain ⟨e, r⟩ := o.zero
    exact r.same gh
/-- a value that needs no heap -/
theorem Roots.scal (r : Roots K F B H T) (s : ∀ G, Rep K G v d) : Roots K F B H ((v, 0, d) :: T) := by
  obtain ⟨G, fp, fg, gh, bh, nd, out, bg, own⟩ := r
  exact ⟨G, fp, fg, gh, bh, nd, out, bg, .cons (f1 := []) (.frz (s G)) own⟩
/-- new things: the heap has grown -/
structure Ext (G H G' H' : Hp) : Prop where
  g : Same G G'
  h : Same H H'
  gh : Same G' H'
  old : ∀ a o, H a = some o → G' a = G a
theorem Ext.refl (gh : Same G H) : Ext G H G H := ⟨.refl _, .refl _, gh, fun _ _ _ => rfl⟩
theorem Ext.trans {G1 H1 G2 H2 : Hp} (a : Ext G H G1 H1) (b : Ext G1 H1 G2 H2) : Ext G H G2 H2 :=
  ⟨a.g.trans b.g, a.h.trans b.h, b.gh, fun c o e => (b.old c o (a.h c o e)).trans (a.old c o e)⟩
/-- a frozen new object -/
theorem Ext.frozen {p : Addr} {o : HO} (gh : Same G H) (hp : H p = none) : Ext G H (upd G p o) (upd H p o) := by
  have gp : G p = none := Same.free gh hp
  refine ⟨fun a u e => ?_, fun a u e => ?_, fun a u e => ?_, fun a u e => ?_⟩
  · rw [upd_ne (ne_of_none e gp)]; exact e
  · rw [upd_ne (ne_of_none e hp)]; exact e
  · by_cases h : a = p
    · subst h; rw [upd_same] at e ⊢; exact e
    · rw [upd_ne h] at e ⊢; exact gh a u e
  · rw [upd_ne (ne_of_none e hp)]
/-- an owned new object -/
theorem Ext.owned {p : Addr} {o : HO} (gh : Same G H) (hp : H p = none) : Ext G H G (upd H p o) :=
  ⟨.refl _, fun a u e => by rw [upd_ne (ne_of_none e hp)]; exact e, fun a u e => by rw [upd_ne (ne_of_none (gh a u e) hp)]; exact gh a u e, fun a u e => rfl⟩
theorem RootsG.push {f1 : List Addr} (r : RootsG K F B H T G fp) (x : Ext G H G' H') (o : Own K H' G' k v d f1) (nd : f1.Nodup) (hf : ∀ a ∈ f1, H a = none ∧ G' a = none) : RootsG K F B H' ((v, k, d) :: T) G' (f1 ++ fp) where
  fg := r.fg.trans x.g
  gh := x.gh
  bh := r.bh.trans x.h
  nd := List.nodup_append.mpr ⟨nd, r.nd, fun a h1 b h2 e => by
    subst e
    obtain ⟨o, z⟩ := r.own.there a h2
    rw [(hf a h1).1] at z; cases z⟩
  out := fun a h => by
    rcases List.mem_append.mp h with h | h
    · refine ⟨(hf a h).2, ?_⟩
      cases e : B a with
      | none => rfl
      | some o => have z := r.bh a o e; rw [(hf a h).1] at z; cases z
    · obtain ⟨o, z⟩ := r.own.there a h
      rw [x.old a o z]; exact r.out a h
  bg := fun a o e => (x.old a o (r.bh a o e)).trans (r.bg a o e)
  own := .cons o (r.own.mono x.g fun a h => by
    obtain ⟨o, z⟩ := r.own.there a h
    rw [z]; exact x.h a o z)
theorem RootsG.ext (r : RootsG K F B H T G fp) (x : Ext G H G' H') : RootsG K F B H' T G' fp where
  fg := r.fg.trans x.g
  gh := x.gh
  bh := r.bh.trans x.h
  nd := r.nd
  out := fun a h => by
    obtain ⟨o, z⟩ := r.own.there a h
    rw [x.old a o z]; exact r.out a h
  bg := fun a o e => (x.old a o (r.bh a o e)).trans (r.bg a o e)
  own := r.own.mono x.g fun a h => by
    obtain ⟨o, z⟩ := r.own.there a h
    rw [z]; exact x.h a o z
end

/-! ### slots -/
abbrev SEnv := List (Option (Nat × D))
/-- the values of the slots that are known -/
def slotsT : St → SEnv → List Root
  | some v :: σ, some (k, d) :: ρ => (v, k, d) :: slotsT σ ρ
  | _ :: σ, _ :: ρ => slotsT σ ρ
  | _, _ => []
def Fits : St → SEnv → Prop
  | a :: σ, b :: ρ => (b.isSome = true → a.isSome = true) ∧ Fits σ ρ
  | [], [] => True
  | _, _ => False
theorem Fits.length : ∀ {σ : St} {ρ : SEnv}, Fits σ ρ → σ.length = ρ.length
  | [], [], _ => rfl
  | _ :: _, _ :: _, h => congrArg (· + 1) (Fits.length h.2)
theorem Fits.get : ∀ {σ : St} {ρ : SEnv} {i : Nat} {x : Nat × D}, Fits σ ρ → ρ[i]? = some (some x) → ∃ v, σ[i]? = some (some v)
  | [], [], _, _, _, e => by simp at e
  | a :: σ, b :: ρ, 0, x, h, e => by
    simp at e; subst e
    have := h.1 rfl
    cases a with
    | none => cases this
    | some v => exact ⟨v, rfl⟩
  | a :: σ, b :: ρ, i + 1, x, h, e => by
    obtain ⟨v, q⟩ := Fits.get (i := i) (x := x) h.2 (by simpa using e)
    exact ⟨v, by simpa using q⟩
theorem Fits.set : ∀ {σ : St} {ρ : SEnv} {a : Option V} {b : Option (Nat × D)} (i : Nat), Fits σ ρ → (b.isSome = true → a.isSome = true) → Fits (σ.set i a) (ρ.set i b)
  | [], [], _, _, _, h, _ => h
  | _ :: σ, _ :: ρ, _, _, 0, h, q => ⟨q, h.2⟩
  | _ :: σ, _ :: ρ, _, _, i + 1, h, q => ⟨h.1, Fits.set i h.2 q⟩
theorem Fits.setR : ∀ {σ : St} {ρ : SEnv} {b : Option (Nat × D)} {x : Nat × D} (i : Nat), Fits σ ρ → ρ[i]? = some (some x) → Fits σ (ρ.set i b)
  | [], [], _, _, _, h, _ => h
  | a :: σ, _ :: ρ, b, x, 0, h, q => ⟨fun _ => h.1 (by simp at q; rw [q]; rfl), h.2⟩
  | _ :: σ, _ :: ρ, b, x, i + 1, h, q => ⟨h.1, Fits.setR (x := x) i h.2 (by simpa using q)⟩
theorem Fits.setN : ∀ {σ : St} {ρ : SEnv} (i : Nat), Fits σ ρ → Fits σ (ρ.set i none)
  | [], [], _, h => h
  | a :: σ, _ :: ρ, 0, h => ⟨(fun z => nomatch z), h.2⟩
  | _ :: σ, _ :: ρ, i + 1, h => ⟨h.1, Fits.setN i h.2⟩
/-- a slot's value taken out -/
theorem slotsT_take : ∀ {σ : St} {ρ : SEnv} {i : Nat} {v : V} {k : Nat} {d : D}, σ[i]? = some (some v) → ρ[i]? = some (some (k, d)) → (slotsT σ ρ).Perm ((v, k, d) :: slotsT σ (ρ.set i none))
  | [], _, _, _, _, _, h, _ => by simp at h
  | _ :: _, [], _, _, _, _, _, h => by simp at h
  | a :: σ, b :: ρ, 0, v, k, d, h1, h2 => by
    simp at h1 h2; subst h1; subst h2
    simp [slotsT]
  | a :: σ, b :: ρ, i + 1, v, k, d, h1, h2 => by
    have ih := slotsT_take (σ := σ) (ρ := ρ) (i := i) (v := v) (k := k) (d := d) (by simpa using h1) (by simpa using h2)
    have skip : ∀ (x : Root), ((x :: slotsT σ ρ)).Perm ((v, k, d) :: x :: slotsT σ (ρ.set i none)) := fun x => (ih.cons x).trans (.swap _ _ _)
    cases a with
    | none => simpa [slotsT] using ih
    | some u =>
      cases b with
      | none => simpa [slotsT] using ih
      | some x => obtain ⟨j, e⟩ := x; simpa [slotsT] using skip (u, j, e)
/-- a slot without a value is given one -/
theorem slotsT_put : ∀ {σ : St} {ρ : SEnv} {i : Nat} {v : V} {k : Nat} {d : D}, i < σ.length → i < ρ.length → (slotsT (σ.set i (some v)) (ρ.set i (some (k, d)))).Perm ((v, k, d) :: slotsT σ (ρ.set i none))
  | [], _, _, _, _, _, h, _ => by simp at h
  | _ :: _, [], _, _, _, _, _, h => by simp at h
  | a :: σ, b :: ρ, 0, v, k, d, h1, h2 => by
    simp [slotsT]
  | a :: σ, b :: ρ, i + 1, v, k, d, h1, h2 => by
    have ih := slotsT_put (σ := σ) (ρ := ρ) (i := i) (v := v) (k := k) (d := d) (by simpa using h1) (by simpa using h2)
    have skip : ∀ (x : Root), ((x :: slotsT (σ.set i (some v)) (ρ.set i (some (k, d))))).Perm ((v, k, d) :: x :: slotsT σ (ρ.set i none)) := fun x => (ih.cons x).trans (.swap _ _ _)
    cases a with
    | none => simpa [slotsT] using ih
    | some u =>
      cases b with
      | none => simpa [slotsT] using ih
      | some x => obtain ⟨j, e⟩ := x; simpa [slotsT] using skip (u, j, e)
theorem slotsT_none : ∀ {σ : St} {ρ : SEnv} {i : Nat}, ρ[i]? = some none → slotsT σ (ρ.set i none) = slotsT σ ρ
  | [], [], _, _ => rfl
  | [], _ :: _, _, _ => by cases ‹Nat› <;> simp [slotsT]
  | _ :: _, [], _, _ => by simp [slotsT]
  | a :: σ, b :: ρ, 0, h => by simp at h; subst h; simp
  | a :: σ, b :: ρ, i + 1, h => by
    have ih := slotsT_none (σ := σ) (ρ := ρ) (i := i) (by simpa using h)
    cases a <;> cases b <;> simp [slotsT, ih]

/-- the state between statements and within expressions -/
structure StR (K : Frag) (F B H : Hp) (σ : St) (ρ : SEnv) (T : List Root) : Prop where
  fit : Fits σ ρ
  own : Roots K F B H (slotsT σ ρ ++ T)
end PV

/-! PV1: the core language and what it means, over PyData alone. -/
namespace PV
open PySem PySem.Spec L2

inductive BOp | add | sub | mul | fdiv | mod | pow | shl | shr | band | bor
inductive UOp | neg | inv
inductive COp | eq | ne | lt | le | gt | ge | isN | notN | inn | nin
inductive Ty | int | bool | str | tup | lst | dic | non
/-- built-ins that only look -/
inductive Blt | len | abs | int | str | tup | lst | sum | all | any | max1 | min1 | max2 | min2 | sorted | sortedSet | lenSet | rngL | rngL2 | join | split | index | count | partition

/-- an exception: its class (by number), its field -/
structure Ex where
  c : Nat
  v : Option D

mutual
inductive CE
  | lit (d : D)
  | glob (x : Str) (d : D)
  | var (i : Nat)
  | bin (op : BOp) (a b : CE)
  | un (op : UOp) (a : CE)
  | cmp (op : COp) (a b : CE)
  | chain (op op2 : COp) (a b c : CE)
  | and (a b : CE)
  | or (a b : CE)
  | not (a : CB)
  | ite (c : CB) (a b : CE)
  | tup (es : CEs)
  | lst (es : CEs)
  | idx (a b : CE)
  | sl (a : CE) (lo hi : CO)
  | rev (a : CE)
  | call (f : Nat) (es : CEs)
  | call0 (f : Nat)
  | pick (fs : List Nat) (e : CE) (es : CEs)
  | blt (b : Blt) (es : CEs)
  | meth (b : Blt) (o e : CE)
  | lstRg (es : CEs)
  | isi (a : CE) (ts : List Ty)
  | comp (own : List Nat) (t : CT) (it : CI) (c : CC) (g : CG)
  | pop (i : Nat) (e : CO)
/-- tests -/
inductive CB
  | and (a b : CB)
  | or (a b : CB)
  | not (a : CB)
  | ite (c a b : CB)
  | cmp (op : COp) (a b : CE)
  | chain (op op2 : COp) (a b c : CE)
  | val (e : CE)
inductive CC
  | none
  | some (b : CB)
inductive CEs
  | nil
  | cons (e : CE) (es : CEs)
inductive CO
  | none
  | some (e : CE)
/-- what is walked -/
inductive CI
  | seq (e : CE)
  | rng (es : CEs)
  | zip (es : CEs)
  | enum (es : CEs)
/-- targets -/
inductive CT
  | name (i : Nat)
  | tup (ts : CTs)
  | sub (i : Nat) (e : CE)
  | sub2 (i : Nat) (e1 e2 : CE)
inductive CTs
  | nil
  | cons (t : CT) (ts : CTs)
/-- the further clauses of a comprehension -/
inductive CG
  | done (e : CE)
  | gen (vs : List Nat) (t : CT) (it : CI) (c : CC) (g : CG)
end

/-- in an except suite -/
inductive HE
  | lit (d : D)
  | fld
  | cat (a b : HE)
  | tup2 (a b : HE)
  | isi (cs : List Nat)
  | and (a b : HE)
  | not (a : HE)
  | ite (c a b : HE)

mutual
inductive CS
  | expr (e : CE)
  | asg (t : CT) (e : CE)
  | par (is : List Nat) (es : CEs)
  | aug (i : Nat) (e : CE)
  | app (i : Nat) (e : CE)
  | ext (i : Nat) (e : CE)
  | ret (e : CE)
  | retN
  | ite (c : CB) (a b : CSs)
  | forr (t : CT) (it : CI) (b : CSs)
  | whil (c : CB) (b : CSs)
  | rais (c : Nat) (fld : Bool) (e : CE)
  | tryy (b : CSs) (hs : List (Nat × Option Nat × HE))
  | pass
  | cont
  | brk
inductive CSs
  | nil
  | cons (s : CS) (ss : CSs)
end

/-! ### results -/
inductive TV | pv (k : Nat) (d : D) | var (i : Nat)
inductive RE (α : Type) | ok (a : α) (ρ : SEnv) | ex (e : Ex) (ρ : SEnv) | no
inductive RS | nx (ρ : SEnv) | rt (k : Nat) (d : D) (ρ : SEnv) | bk (ρ : SEnv) | ct (ρ : SEnv) | ex (e : Ex) (ρ : SEnv) | no
inductive CRes | ret (k : Nat) (d : D) (ios : List (Nat × D)) | exc (e : Ex) (ios : List (Nat × D))
abbrev M (α : Type) := SEnv → RE α
abbrev MS := SEnv → RS
def M.pure {α : Type} (a : α) : M α := fun ρ => .ok a ρ
def M.no {α : Type} : M α := fun _ => .no
def M.bind {α β : Type} (m : M α) (f : α → M β) : M β := fun ρ => match m ρ with
  | .ok a ρ' => f a ρ'
  | .ex e ρ' => .ex e ρ'
  | .no => .no
def M.opt {α : Type} (o : Option α) : M α := fun ρ => match o with
  | some a => .ok a ρ
  | none => .no
def MS.of {α : Type} (m : M α) (f : α → MS) : MS := fun ρ => match m ρ with
  | .ok a ρ' => f a ρ'
  | .ex e ρ' => .ex e ρ'
  | .no => .no
def MS.seq (a b : MS) : MS := fun ρ => match a ρ with
  | .nx ρ' => b ρ'
  | r => r

/-- only when it ended well -/
def RE.well {α β : Type} (r : RE α) (f : α → SEnv → RE β) : RE β := match r with
  | .ok a ρ => f a ρ
  | _ => .no

/-! ### values -/
def kOf (k : Nat) (d : D) : Nat := if isC d then k else 9
def rd (i : Nat) : M TV := fun ρ => match ρ[i]? with
  | some (some (k, d)) => if isC d && k != 0 then .ok (.var i) ρ else .ok (.pv 0 d) ρ
  | _ => .no
/-- the value, from now on as it is -/
def frz (io : List Nat) : TV → M D
  | .pv _ d => M.pure d
  | .var i => fun ρ => match ρ[i]? with
    | some (some (_, d)) => if io.contains i then .no else .ok d (ρ.set i (some (0, d)))
    | _ => .no
/-- the value, looked at: at most its own list stays owned -/
def bor : TV → M D
  | .pv _ d => M.pure d
  | .var i => fun ρ => match ρ[i]? with
    | some (some (k, d)) => .ok d (ρ.set i (some (min k 1, d)))
    | _ => .no
/-- a value that no slot owns -/
def pvOf : TV → M D
  | .pv _ d => M.pure d
  | .var _ => M.no
def bors : List TV → M (List D)
  | [] => M.pure []
  | t :: ts => (bor t).bind fun d => (bors ts).bind fun ds => M.pure (d :: ds)
/-- to be an item of a new list, a result: what it owns goes with it -/
def item (io : List Nat) : TV → M (Nat × D)
  | .pv k d => M.pure (kOf k d, d)
  | .var i => (frz io (.var i)).bind fun d => M.pure (kOf 0 d, d)
def items (io : List Nat) : List TV → M (List (Nat × D))
  | [] => M.pure []
  | t :: ts => (item io t).bind fun d => (items io ts).bind fun ds => M.pure (d :: ds)
def frzs (io : List Nat) : List TV → M (List D)
  | [] => M.pure []
  | t :: ts => (frz io t).bind fun d => (frzs io ts).bind fun ds => M.pure (d :: ds)
def kMin (l : List (Nat × D)) : Nat := l.foldr (fun x k => min x.1 k) 8

/-! ### operations on data -/
def mulOk (i j : Int) : Bool := decide (i.natAbs.log2 + j.natAbs.log2 < 1000000)
def divOk (j : Int) : Bool := decide (j ≠ 0) && decide (j.natAbs.log2 < 9000)
def sizeOk (n : Nat) : Bool := decide (n ≤ sizeLine)
/-- a list made of things that stand still -/
def kList (ds : List D) : Nat := if ds.any isC then 1 else 9
def repD (n : Nat) (ds : List D) : List D := (List.replicate n ds).flatten

def binop : BOp → D → D → Option (Nat × D)
  | .add, .int i, .int j => some (0, .int (i + j))
  | .add, .str x, .str y => if sizeOk (x.length + y.length) then some (0, .str (x ++ y)) else none
  | .add, .list xs, .list ys => if sizeOk (xs.length + ys.length) then some (kList (xs ++ ys), .list (xs ++ ys)) else none
  | .add, .tuple xs, .tuple ys => if sizeOk (xs.length + ys.length) then some (0, .tuple (xs ++ ys)) else none
  | .sub, .int i, .int j => some (0, .int (i - j))
  | .mul, .int i, .int j => if mulOk i j then some (0, .int (i * j)) else none
  | .mul, .list xs, .int j => if decide (-(2 ^ 63) ≤ j) && decide (j < 2 ^ 63) && sizeOk (xs.length * j.toNat) then some (kList (repD j.toNat xs), .list (repD j.toNat xs)) else none
  | .fdiv, .int i, .int j => if divOk j then some (0, .int (i.fdiv j)) else none
  | .mod, .int i, .int j => if decide (j ≠ 0) then some (0, .int (i.fmod j)) else none
  | .pow, .int i, .int j => if decide (0 ≤ j) && decide (j ≤ 1000000) && decide (i.natAbs < 2 ^ 64) then some (0, .int (i ^ j.toNat)) else none
  | .shl, .int i, .int j => if decide (0 ≤ j) && decide (j ≤ 1000000) && decide (i.natAbs < 2 ^ 64) then some (0, .int (i * 2 ^ j.toNat)) else none
  | .shr, .int i, .int j => if decide (0 ≤ j) then some (0, .int (i / 2 ^ j.toNat)) else none
  | .band, .int i, .int j => some (0, .int (Builtin.bitAnd i j))
  | .bor, .int i, .int j => some (0, .int (Builtin.bitOr i j))
  | _, _, _ => none
def unop : UOp → D → Option D
  | .neg, .int i => some (.int (-i))
  | .inv, .int i => some (.int (Builtin.bitNot i))
  | _, _ => none
def isFlat : D → Bool
  | .none => true
  | .bool _ => true
  | .int _ => true
  | .str _ => true
  | _ => false
def truthD : D → Option Bool
  | .none => some false
  | .bool b => some b
  | .int i => some (i != 0)
  | .str x => if sizeOk x.length then some (x.length != 0) else none
  | .list xs => some (!xs.isEmpty)
  | .tuple xs => some (!xs.isEmpty)
  | .dict _ => none
def boolsOf : List D → Option (List Bool)
  | [] => some []
  | .bool b :: r => (boolsOf r).map (b :: ·)
  | _ => none
def intsOf : List D → Option (List Int)
  | [] => some []
  | .int b :: r => (intsOf r).map (b :: ·)
  | _ => none
def strsOf : List D → Option (List Str)
  | [] => some []
  | .str b :: r => (strsOf r).map (b :: ·)
  | _ => none
def eqD (a b : D) : Option Bool := if SeqAt.shaped a && SeqAt.shaped b then some (PyData.eqv a b) else none
def cmpop : COp → D → D → Option Bool
  | .eq, a, b => eqD a b
  | .ne, a, b => (eqD a b).map (!·)
  | .lt, .int i, .int j => some (decide (i < j))
  | .le, .int i, .int j => some (decide (i ≤ j))
  | .gt, .int i, .int j => some (decide (j < i))
  | .ge, .int i, .int j => some (decide (j ≤ i))
  | .lt, .str x, .str y => some (decide (x.cps.toList < y.cps.toList))
  | .le, .str x, .str y => some (!decide (y.cps.toList < x.cps.toList))
  | .gt, .str x, .str y => some (decide (y.cps.toList < x.cps.toList))
  | .ge, .str x, .str y => some (!decide (x.cps.toList < y.cps.toList))
  | .lt, .tuple xs, .tuple ys => (intsOf xs).bind fun a => (intsOf ys).map fun b => HT.lexLt a b
  | .isN, a, .none => some (match a with | .none => true | _ => false)
  | .notN, a, .none => some (match a with | .none => false | _ => true)
  | .inn, .str x, .str y => some (!(Builtin.Str.occurrences y x 0 y.length 1).isEmpty)
  | .nin, .str x, .str y => some (!!(Builtin.Str.occurrences y x 0 y.length 1).isEmpty)
  | .inn, a, .list xs => if SeqAt.shaped a && SeqAt.shaped (.list xs) then some (xs.any fun z => PyData.eqv z a) else none
  | .nin, a, .list xs => if SeqAt.shaped a && SeqAt.shaped (.list xs) then some (!xs.any fun z => PyData.eqv z a) else none
  | .inn, a, .tuple xs => if SeqAt.shaped a && SeqAt.shaped (.tuple xs) then some (xs.any fun z => PyData.eqv z a) else none
  | .nin, a, .tuple xs => if SeqAt.shaped a && SeqAt.shaped (.tuple xs) then some (!xs.any fun z => PyData.eqv z a) else none
  | _, _, _ => none
def idxD : D → D → Option D
  | .list xs, .int i => atI xs i
  | .tuple xs, .int i => atI xs i
  | .str z, .int i => if sizeOk z.length then (atI z.cps.toList i).map fun c => .str ⟨#[c]⟩ else none
  | _, _ => none
def isTy : Ty → D → Bool
  | .int, .int _ => true
  | .int, .bool _ => true
  | .bool, .bool _ => true
  | .str, .str _ => true
  | .tup, .tuple _ => true
  | .lst, .list _ => true
  | .dic, .dict _ => true
  | .non, .none => true
  | _, _ => false
def strItems (z : Str) : List D := z.cps.toList.map fun c => .str ⟨#[c]⟩
def seqItems : D → Option (List D)
  | .list xs => some xs
  | .tuple xs => some xs
  | .str z => some (strItems z)
  | _ => none
def rngItems (lo hi : Int) : List D := (List.range (hi - lo).toNat).map fun i : Nat => .int (lo + (i : Int))
def small62 (i : Int) : Bool := decide (-(2 ^ 62) ≤ i) && decide (i < 2 ^ 62)
def rngOf : List D → Option (List D)
  | [.int j] => if small62 j then some (rngItems 0 j) else none
  | [.int i, .int j] => if small62 i && small62 j then some (rngItems i j) else none
  | _ => none
def maxL (i : Int) (l : List Int) : Int := l.foldl (fun a b => if a < b then b else a) i
def minL (i : Int) (l : List Int) : Int := l.foldl (fun a b => if b < a then b else a) i
def sortI (l : List Int) : List Int := l.mergeSort fun a b => decide (a ≤ b)
def dedup (l : List Int) : List Int := l.eraseDups
/-! rows of texts, in order -/
def ltS (a b : Str) : Bool := decide (a.cps.toList < b.cps.toList)
def ltL : List Str → List Str → Bool
  | [], [] => false
  | [], _ :: _ => true
  | _ :: _, [] => false
  | x :: xs, y :: ys => if x = y then ltL xs ys else ltS x y
def insBy {α : Type} (lt : α → α → Bool) (x : α) : List α → List α
  | [] => [x]
  | y :: ys => if lt y x = true then y :: insBy lt x ys else x :: y :: ys
def sortBy {α : Type} (lt : α → α → Bool) : List α → List α
  | [] => []
  | x :: xs => insBy lt x (sortBy lt xs)
def rowKey : D → List Str
  | .tuple ds => (strsOf ds).getD []
  | _ => []
def isRow : D → Bool
  | .tuple ds => (strsOf ds).isSome && !ds.isEmpty
  | _ => false
def ltRow (a b : D) : Bool := ltL (rowKey a) (rowKey b)
def blt1 : Blt → D → Option (Nat × D)
  | .len, .list xs => some (0, .int xs.length)
  | .len, .tuple xs => some (0, .int xs.length)
  | .len, .str z => if sizeOk z.length then some (0, .int z.length) else none
  | .abs, .int i => some (0, .int (if i < 0 then -i else i))
  | .int, .int i => some (0, .int i)
  | .int, .bool b => some (0, .int (if b then 1 else 0))
  | .int, .str z => if decide (z.length ≤ 640) then (PySem.intText? z).map fun n => (0, .int n) else none
  | .str, .int i => if decide (i.natAbs.log2 < 1920) then some (0, .str (toString i)) else none
  | .tup, .list xs => some (0, .tuple xs)
  | .tup, .tuple xs => some (0, .tuple xs)
  | .lst, .list xs => some (kList xs, .list xs)
  | .lst, .tuple xs => some (kList xs, .list xs)
  | .sum, .list xs => (intsOf xs).map fun l => (0, .int l.sum)
  | .all, .list xs => (boolsOf xs).map fun l => (0, .bool (l.all id))
  | .any, .list xs => (boolsOf xs).map fun l => (0, .bool (l.any id))
  | .max1, .list xs => (intsOf xs).bind fun l => match l with | [] => none | i :: r => some (0, .int (maxL i r))
  | .min1, .list xs => (intsOf xs).bind fun l => match l with | [] => none | i :: r => some (0, .int (minL i r))
  | .sorted, .list xs => if (!xs.isEmpty && xs.all isRow) = true then some (9, .list (sortBy ltRow xs)) else (intsOf xs).map fun l => (9, .list ((sortI l).map .int))
  | .sorted, .tuple xs => if xs.all isRow = true then some (9, .list (sortBy ltRow xs)) else none
  | _, _ => none
def blt2 : Blt → D → D → Option (Nat × D)
  | .max2, .int i, .int j => some (0, .int (if j > i then j else i))
  | .min2, .int i, .int j => some (0, .int (if j < i then j else i))
  | .split, .str a, .str b => if !(b.length == 0) && decide (a.length + 2 ≤ sizeLine) then some (9, .list ((Txt.split a b).map .str)) else none
  | .partition, .str a, .str b => if !(b.length == 0) && sizeOk a.length then some (0, .tuple [.str (Txt.partition a b).1, .str (Txt.partition a b).2.1, .str (Txt.partition a b).2.2]) else none
  | .join, .str a, .list xs => (strsOf xs).bind fun ys => if decide ((ys.map (·.length)).sum + ys.length * a.length ≤ 16777216) then some (0, .str (Txt.join a ys)) else none
  | .join, .str a, .tuple xs => (strsOf xs).bind fun ys => if decide ((ys.map (·.length)).sum + ys.length * a.length ≤ 16777216) then some (0, .str (Txt.join a ys)) else none
  | _, _, _ => none
def blt : Blt → List D → Option (Nat × D)
  | b, [x] => blt1 b x
  | b, [x, y] => blt2 b x y
  | _, _ => none
/-- a slice of a list -/
def cutD {α : Type} (xs : List α) (lo hi : Option Int) : List α := (xs.drop (HT.sIx xs.length 0 lo)).take (HT.sIx xs.length xs.length hi - HT.sIx xs.length 0 lo)
def sliceD (lo hi : Option Int) : D → Option (Nat × D)
  | .list xs => some (kList (cutD xs lo hi), .list (cutD xs lo hi))
  | .tuple xs => some (0, .tuple (cutD xs lo hi))
  | .str z => if sizeOk z.length then some (0, .str (cutS z lo hi)) else none
  | _ => none

/-! ### calls -/
abbrev Calls := Nat → List (Nat × D) → Option CRes
/-- the arguments, as they go in; those of io places are moved -/
def passIn (io : List Nat) : List Bool → List TV → M (List (Nat × D))
  | [], [] => M.pure []
  | true :: bs, .var i :: ts => fun ρ => match ρ[i]? with
    | some (some (k + 1, d)) => (M.bind (passIn io bs ts) fun r => M.pure ((k + 1, d) :: r)) (ρ.set i none)
    | _ => .no
  | false :: bs, t :: ts => (frz io t).bind fun d => (passIn io bs ts).bind fun r => M.pure ((0, d) :: r)
  | _, _ => M.no
def putBack : List Bool → List TV → List (Nat × D) → SEnv → SEnv
  | true :: bs, t :: ts, x :: xs, ρ => putBack bs ts xs (match t with | .var i => ρ.set i (some x) | .pv _ _ => ρ)
  | false :: bs, _ :: ts, xs, ρ => putBack bs ts xs ρ
  | _, _, _, ρ => ρ
def callM (io : List Nat) (sig : Nat → List Bool) (φ : Calls) (f : Nat) (ts : List TV) : M TV := fun ρ =>
  match passIn io (sig f) ts ρ with
  | .ok args ρ1 => match φ f args with
    | some (.ret k d ios) => .ok (.pv k d) (putBack (sig f) ts ios ρ1)
    | some (.exc e ios) => .ex e (putBack (sig f) ts ios ρ1)
    | none => .no
  | .ex e ρ1 => .ex e ρ1
  | .no => .no

/-! ### targets: only names, and tuples of them, within comprehensions -/
def unTup : D → Option (List D)
  | .tuple xs => some xs
  | .list xs => some xs
  | _ => none
def setSlot (io : List Nat) (i : Nat) (k : Nat) (d : D) : SEnv → RE Unit := fun ρ =>
  if io.contains i || decide (ρ.length ≤ i) then .no else .ok () (ρ.set i (some (if isC d then k else 0, d)))
def wipeE (ρ : SEnv) : List Nat → SEnv
  | [] => ρ
  | v :: vs => (wipeE ρ vs).set v none
def still (ρ : SEnv) : List Nat → Bool
  | [] => true
  | v :: vs => (match ρ[v]? with | some (some (0, _)) => true | some none => true | _ => false) && still ρ vs
def restore (ρ ρ' : SEnv) : List Nat → SEnv
  | [] => ρ'
  | v :: vs => (restore ρ ρ' vs).set v (ρ[v]?.join)
/-- one turn after another -/
def turns {α : Type} (f : α → D → M α) : List D → α → M α
  | [], a => M.pure a
  | x :: xs, a => (f a x).bind fun b => turns f xs b

def popD (h : Option Int) (xs : List D) : Option (D × List D) := match h with
  | none => match xs.getLast? with
    | some x => some (x, xs.dropLast)
    | none => none
  | some j => match seqIndex? j xs.length with
    | some p => if decide (-(2 ^ 63) ≤ j) && decide (j < 2 ^ 63) then (xs[p]?).map fun x => (x, xs.eraseIdx p) else none
    | none => none
def popM (i : Nat) (h : Option Int) : M TV := fun ρ => match ρ[i]? with
  | some (some (k + 1, .list xs)) => match popD h xs with
    | some (x, ys) => .ok (.pv k x) (ρ.set i (some (k + 1, .list ys)))
    | none => .no
  | _ => .no
/-- a turn of a comprehension: its own slots are forgotten afterwards -/
def turnM {α : Type} (own : List Nat) (b : M Unit) (c : M Bool) (g : M α) (a : α) : M α := fun ρ =>
  RE.well ((b.bind fun _ => c.bind fun k => if k = true then g else M.pure a) ρ) fun a' ρ2 => .ok a' (wipeE ρ2 own)

def setSlots (io : List Nat) : List Nat → List (Nat × D) → M Unit
  | [], [] => M.pure ()
  | i :: is, x :: xs => M.bind (setSlot io i x.1 x.2) fun _ => setSlots io is xs
  | _, _ => M.no
structure Env0 where
  wh : M Bool → MS → MS
  sub : Nat → Nat → Bool
  io : List Nat
  sig : Nat → List Bool
  φ : Calls

mutual
def bindN (X : Env0) : CT → D → M Unit
  | .name i, d => setSlot X.io i 0 d
  | .tup ts, d => (M.opt (unTup d)).bind fun xs => bindNs X ts xs
  | _, _ => M.no
def bindNs (X : Env0) : CTs → List D → M Unit
  | .nil, [] => M.pure ()
  | .cons t ts, d :: ds => (bindN X t d).bind fun _ => bindNs X ts ds
  | _, _ => M.no
end
def lit2 (o : Option (Nat × D)) : M TV := M.opt (o.map fun x => .pv x.1 x.2)
def accum (io : List Nat) (a : Nat × List D) (t : TV) : M (Nat × List D) :=
  (item io t).bind fun x => if sizeOk (a.2.length + 1) then M.pure (min a.1 (x.1 + 1), a.2 ++ [x.2]) else M.no

mutual
def denE (X : Env0) : CE → M TV
  | .lit d => M.pure (.pv 0 d)
  | .glob _ d => M.pure (.pv 0 d)
  | .var i => rd i
  | .bin op a b => (denE X a).bind fun s => (denE X b).bind fun t => (bors [s, t]).bind fun ds => match ds with
    | [x, y] => lit2 (binop op x y)
    | _ => M.no
  | .un op a => (denE X a).bind fun s => (bor s).bind fun x => M.opt ((unop op x).map (.pv 0))
  | .cmp op a b => (denE X a).bind fun s => (denE X b).bind fun t => (bors [s, t]).bind fun ds => match ds with
    | [x, y] => M.opt ((cmpop op x y).map fun c => .pv 0 (.bool c))
    | _ => M.no
  | .chain op op2 a b c => (denE X a).bind fun s => (denE X b).bind fun t => (bor s).bind fun x => (pvOf t).bind fun y => (M.opt (cmpop op x y)).bind fun k =>
      if k = true then (denE X c).bind fun u => (bor u).bind fun z => M.opt ((cmpop op2 y z).map fun c => .pv 0 (.bool c)) else M.pure (.pv 0 (.bool false))
  | .and a b => (denE X a).bind fun s => (bor s).bind fun x => (M.opt (truthD x)).bind fun k => if k = true then denE X b else (frz X.io s).bind fun d => M.pure (.pv 0 d)
  | .or a b => (denE X a).bind fun s => (bor s).bind fun x => (M.opt (truthD x)).bind fun k => if k = true then (frz X.io s).bind fun d => M.pure (.pv 0 d) else denE X b
  | .not a => (denT X a).bind fun k => M.pure (.pv 0 (.bool (!k)))
  | .ite c a b => (denT X c).bind fun k => if k = true then denE X a else denE X b
  | .tup es => (denA X es).bind fun ts => (frzs X.io ts).bind fun ds => if sizeOk ds.length then M.pure (.pv 0 (.tuple ds)) else M.no
  | .lst es => (denA X es).bind fun ts => (items X.io ts).bind fun xs => if sizeOk xs.length then M.pure (.pv (kMin xs + 1) (.list (xs.map (·.2)))) else M.no
  | .idx a b => (denE X a).bind fun s => (denE X b).bind fun t => (bors [s, t]).bind fun ds => match ds with
    | [x, y] => M.opt ((idxD x y).map (.pv 0))
    | _ => M.no
  | .sl a lo hi => (denE X a).bind fun s => (denO X lo).bind fun l => (denO X hi).bind fun h => (bor s).bind fun x => lit2 (sliceD l h x)
  | .rev a => (denE X a).bind fun s => (bor s).bind fun x => match x with
    | .list xs => M.pure (.pv (kList xs) (.list xs.reverse))
    | _ => M.no
  | .call f es => (denA X es).bind fun ts => callM X.io X.sig X.φ f ts
  | .call0 f => fun ρ => match X.φ f [] with
    | some (.ret k d []) => .ok (.pv k d) ρ
    | _ => .no
  | .pick fs e es => (denE X e).bind fun s => (bor s).bind fun x => match x with
    | .int i => match atI fs i with
      | some f => (denA X es).bind fun ts => callM X.io X.sig X.φ f ts
      | none => M.no
    | _ => M.no
  | .blt b es => (denA X es).bind fun ts => (bors ts).bind fun ds => lit2 (blt b ds)
  | .meth b a e => (denE X a).bind fun s => (bor s).bind fun x => match x with
    | .str z => (denE X e).bind fun t => (bor t).bind fun y => lit2 (blt2 b (.str z) y)
    | _ => M.no
  | .lstRg es => (denA X es).bind fun ts => (bors ts).bind fun ds => M.opt ((rngOf ds).map fun l => .pv 9 (.list l))
  | .isi a ts => (denE X a).bind fun s => (bor s).bind fun x => M.pure (.pv 0 (.bool (ts.any fun t => isTy t x)))
  | .comp own t it c g => (denI X it).bind fun xs => fun ρ =>
      if still ρ own = true then RE.well (turns (fun acc x => turnM own (bindN X t x) (denC X c) (denG X g acc) acc) xs (9, []) (wipeE ρ own)) fun acc ρ2 => .ok (.pv acc.1 (.list acc.2)) (restore ρ ρ2 own)
      else .no
  | .pop i e => (denO X e).bind fun h => popM i h
def denA (X : Env0) : CEs → M (List TV)
  | .nil => M.pure []
  | .cons e es => (denE X e).bind fun t => (denA X es).bind fun ts => M.pure (t :: ts)
def denO (X : Env0) : CO → M (Option Int)
  | .none => M.pure none
  | .some e => (denE X e).bind fun t => (bor t).bind fun d => match d with
    | .int i => M.pure (some i)
    | _ => M.no
/-- as a test -/
def denT (X : Env0) : CB → M Bool
  | .and a b => (denT X a).bind fun k => if k = true then denT X b else M.pure false
  | .or a b => (denT X a).bind fun k => if k = true then M.pure true else denT X b
  | .not a => (denT X a).bind fun k => M.pure (!k)
  | .ite c a b => (denT X c).bind fun k => if k = true then denT X a else denT X b
  | .cmp op a b => (denE X a).bind fun s => (denE X b).bind fun t => (bors [s, t]).bind fun ds => match ds with
    | [x, y] => M.opt (cmpop op x y)
    | _ => M.no
  | .chain op op2 a b c => (denE X a).bind fun s => (denE X b).bind fun t => (bor s).bind fun x => (pvOf t).bind fun y => (M.opt (cmpop op x y)).bind fun k =>
      if k = true then (denE X c).bind fun u => (bor u).bind fun z => M.opt ((cmpop op2 y z).map fun c => c) else M.pure false
  | .val e => (denE X e).bind fun s => (bor s).bind fun x => M.opt (truthD x)
def denC (X : Env0) : CC → M Bool
  | .none => M.pure true
  | .some e => denT X e
def denI (X : Env0) : CI → M (List D)
  | .seq e => (denE X e).bind fun s => (frz X.io s).bind fun d => M.opt (seqItems d)
  | .rng es => (denA X es).bind fun ts => (bors ts).bind fun ds => M.opt (rngOf ds)
  | .zip es => (denA X es).bind fun ts => (frzs X.io ts).bind fun ds => match ds with
    | [.list xs, .list ys] => M.pure ((xs.zip ys).map fun p => .tuple [p.1, p.2])
    | _ => M.no
  | .enum es => (denA X es).bind fun ts => (frzs X.io ts).bind fun ds => match ds with
    | [.list xs] => M.pure (xs.mapIdx fun i x => .tuple [.int (i : Int), x])
    | _ => M.no
def denG (X : Env0) : CG → Nat × List D → M (Nat × List D)
  | .done e, acc => (denE X e).bind fun t => accum X.io acc t
  | .gen vs t it c g, acc => (denI X it).bind fun xs => fun ρ =>
      turns (fun acc x => turnM vs (bindN X t x) (denC X c) (denG X g acc) acc) xs acc (wipeE ρ vs)
end
end PV

open PV in
example (X : PV.Env0) (a b : PV.CE) : PV.denE X (.bin .add a b) = (PV.denE X a).bind fun s => (PV.denE X b).bind fun t => (PV.bors [s, t]).bind fun ds => match ds with
    | [x, y] => PV.lit2 (PV.binop .add x y)
    | _ => PV.M.no := rfl

/-! PV1b: statements, defs, programs. -/
namespace PV
open PySem PySem.Spec L2

/-- a loop, at most n turns -/
def whileN (c : M Bool) (b : MS) : Nat → MS
  | 0 => fun _ => .no
  | n + 1 => fun ρ => match c ρ with
    | .ok true ρ1 => match b ρ1 with
      | .nx ρ2 => whileN c b n ρ2
      | .ct ρ2 => whileN c b n ρ2
      | .bk ρ2 => .nx ρ2
      | r => r
    | .ok false ρ1 => .nx ρ1
    | .ex e ρ1 => .ex e ρ1
    | .no => .no
open Classical in
noncomputable def whileM (c : M Bool) (b : MS) : MS := fun ρ =>
  if h : ∃ n, whileN c b n ρ ≠ .no then whileN c b (Classical.choose h) ρ else .no
theorem whileN_more {c : M Bool} {b : MS} : ∀ {n : Nat} {ρ : SEnv} {r : RS}, whileN c b n ρ = r → r ≠ .no → ∀ m, n ≤ m → whileN c b m ρ = r
  | 0, ρ, r, h, hr, m, hm => absurd h.symm hr
  | n + 1, ρ, r, h, hr, m + 1, hm => by
    have hm' : n ≤ m := Nat.le_of_succ_le_succ hm
    simp only [whileN] at h ⊢
    cases hc : c ρ with
    | no => rw [hc] at h; exact absurd h.symm hr
    | ex e ρ1 => rw [hc] at h; exact h
    | ok k ρ1 =>
      rw [hc] at h
      cases k with
      | false => exact h
      | true =>
        simp only at h ⊢
        cases hb : b ρ1 with
        | nx ρ2 => rw [hb] at h; exact whileN_more h hr m hm'
        | ct ρ2 => rw [hb] at h; exact whileN_more h hr m hm'
        | bk ρ2 => rw [hb] at h; exact h
        | rt k d ρ2 => rw [hb] at h; exact h
        | ex e ρ2 => rw [hb] at h; exact h
        | no => rw [hb] at h; exact h
  | n + 1, ρ, r, h, hr, 0, hm => absurd hm (Nat.not_succ_le_zero n)
theorem whileM_of {c : M Bool} {b : MS} {n : Nat} {ρ : SEnv} {r : RS} (h : whileN c b n ρ = r) (hr : r ≠ .no) : whileM c b ρ = r := by
  unfold whileM
  have ex : ∃ n, whileN c b n ρ ≠ .no := ⟨n, by rw [h]; exact hr⟩
  rw [dif_pos ex]
  have h2 := whileN_more (r := whileN c b (Classical.choose ex) ρ) rfl (Classical.choose_spec ex) (max n (Classical.choose ex)) (Nat.le_max_right ..)
  have h3 := whileN_more h hr (max n (Classical.choose ex)) (Nat.le_max_left ..)
  rw [← h2, h3]
theorem whileM_ex {c : M Bool} {b : MS} {ρ : SEnv} (h : whileM c b ρ ≠ .no) : ∃ n, whileN c b n ρ = whileM c b ρ := by
  unfold whileM at h ⊢
  split
  · rename_i ex; exact ⟨_, rfl⟩
  · rename_i ex; rw [dif_neg ex] at h; exact absurd rfl h
/-- the loop's equation -/
theorem whileM_eq (c : M Bool) (b : MS) (ρ : SEnv) : whileM c b ρ = match c ρ with
    | .ok true ρ1 => match b ρ1 with
      | .nx ρ2 => whileM c b ρ2
      | .ct ρ2 => whileM c b ρ2
      | .bk ρ2 => .nx ρ2
      | r => r
    | .ok false ρ1 => .nx ρ1
    | .ex e ρ1 => .ex e ρ1
    | .no => .no := by
  by_cases h : whileM c b ρ = .no
  · rw [h]
    -- were the right side something, the left side would be, too
    cases hc : c ρ with
    | no => rfl
    | ex e ρ1 => exact absurd ((whileM_of (n := 1) (r := .ex e ρ1) (by simp only [whileN, hc]) (by intro z; cases z)).symm.trans h) (by intro z; cases z)
    | ok k ρ1 =>
      cases k with
      | false => exact absurd ((whileM_of (n := 1) (r := .nx ρ1) (by simp only [whileN, hc]) (by intro z; cases z)).symm.trans h) (by intro z; cases z)
      | true =>
        simp only
        cases hb : b ρ1 with
        | nx ρ2 =>
          simp only
          by_cases q : whileM c b ρ2 = .no
          · exact q.symm
          · obtain ⟨n, hn⟩ := whileM_ex q
            have z : whileN c b (n + 1) ρ = whileM c b ρ2 := by simp only [whileN, hc, hb]; exact hn
            exact absurd ((whileM_of z q).symm.trans h) q
        | ct ρ2 =>
          simp only
          by_cases q : whileM c b ρ2 = .no
          · exact q.symm
          · obtain ⟨n, hn⟩ := whileM_ex q
            have z : whileN c b (n + 1) ρ = whileM c b ρ2 := by simp only [whileN, hc, hb]; exact hn
            exact absurd ((whileM_of z q).symm.trans h) q
        | bk ρ2 => exact absurd ((whileM_of (n := 1) (r := .nx ρ2) (by simp only [whileN, hc, hb]) (by intro z; cases z)).symm.trans h) (by intro z; cases z)
        | rt k d ρ2 => exact absurd ((whileM_of (n := 1) (r := .rt k d ρ2) (by simp only [whileN, hc, hb]) (by intro z; cases z)).symm.trans h) (by intro z; cases z)
        | ex e ρ2 => exact absurd ((whileM_of (n := 1) (r := .ex e ρ2) (by simp only [whileN, hc, hb]) (by intro z; cases z)).symm.trans h) (by intro z; cases z)
        | no => rfl
  · obtain ⟨n, hn⟩ := whileM_ex h
    cases n with
    | zero => exact absurd hn.symm h
    | succ n =>
      rw [← hn] at h ⊢
      simp only [whileN] at h ⊢
      cases hc : c ρ with
      | no => rfl
      | ex e ρ1 => rfl
      | ok k ρ1 =>
        cases k with
        | false => rfl
        | true =>
          rw [hc] at h
          simp only at h ⊢
          cases hb : b ρ1 with
          | nx ρ2 => rw [hb] at h; exact (whileM_of rfl h).symm
          | ct ρ2 => rw [hb] at h; exact (whileM_of rfl h).symm
          | bk ρ2 => rfl
          | rt k d ρ2 => rfl
          | ex e ρ2 => rfl
          | no => rfl

def isL (i : Nat) : M Unit := fun ρ => match ρ[i]? with
  | some (some (_ + 1, .list _)) => .ok () ρ
  | _ => .no
def putL (i : Nat) (z d : D) : M Unit := fun ρ => match ρ[i]?, z with
  | some (some (k + 1, .list xs)), .int j => match ixN xs.length j with
    | some p => if (isC d && k != 0) = true then .no else .ok () (ρ.set i (some (k + 1, .list (xs.set p d))))
    | none => .no
  | _, _ => .no
def appL (i : Nat) (x : Nat × D) : M Unit := fun ρ => match ρ[i]? with
  | some (some (k + 1, .list xs)) => if sizeOk (xs.length + 1) = true then .ok () (ρ.set i (some (min (k + 1) (x.1 + 1), .list (xs ++ [x.2])))) else .no
  | _ => .no
def extL (i : Nat) (d : D) : M Unit := fun ρ => match ρ[i]?, d with
  | some (some (k + 1, .list xs)), .list ys => if sizeOk (xs.length + ys.length) = true then .ok () (ρ.set i (some (if ys.any isC = true then 1 else k + 1, .list (xs ++ ys)))) else .no
  | _, _ => .no
/-- for: one item after another -/
def forL (f : D → MS) : List D → MS
  | [] => fun ρ => .nx ρ
  | x :: xs => fun ρ => match f x ρ with
    | .nx ρ' => forL f xs ρ'
    | .ct ρ' => forL f xs ρ'
    | .bk ρ' => .nx ρ'
    | r => r
/-- name op= d -/
def storeT (X : Env0) : CT → TV → MS
  | .name i, t => MS.of ((item X.io t).bind fun x => setSlot X.io i x.1 x.2) fun _ => .nx
  | .tup ts, t => MS.of ((frz X.io t).bind fun d => bindN X (.tup ts) d) fun _ => .nx
  | .sub i e, t => MS.of ((frz X.io t).bind fun d => (isL i).bind fun _ => (denE X e).bind fun s => (bor s).bind fun z => putL i z d) fun _ => .nx
  | .sub2 i e1 e2, t => MS.of ((frz X.io t).bind fun d => if isC d then M.no else (denE X e1).bind fun s => (bor s).bind fun z => fun ρ => match ρ[i]?, z with
      | some (some (k + 2, .list xs)), .int j => match ixN xs.length j with
        | some p => match (M.bind (denE X e2) bor) (ρ.set i none) with
          | .ok z2 ρ2 => match xs[p]?, z2 with
            | some (.list ys), .int j2 => match ixN ys.length j2 with
              | some q => .ok () (ρ2.set i (some (k + 2, .list (xs.set p (.list (ys.set q d))))))
              | none => .no
            | _, _ => .no
          | _ => .no
        | none => .no
      | _, _ => .no) fun _ => .nx

/-- in an except suite -/
def denH (sub : Nat → Nat → Bool) (e : Ex) : HE → Option D
  | .lit d => some d
  | .fld => e.v
  | .cat a b => match denH sub e a, denH sub e b with
    | some (.str x), some (.str y) => if sizeOk (x.length + y.length) then some (.str (x ++ y)) else none
    | _, _ => none
  | .tup2 a b => match denH sub e a, denH sub e b with
    | some x, some y => some (.tuple [x, y])
    | _, _ => none
  | .isi cs => some (.bool (cs.any fun j => sub e.c j))
  | .and a b => match denH sub e a with
    | some (.bool true) => denH sub e b
    | some (.bool false) => some (.bool false)
    | _ => none
  | .not a => match denH sub e a with
    | some (.bool x) => some (.bool (!x))
    | _ => none
  | .ite c a b => match denH sub e c with
    | some (.bool true) => denH sub e a
    | some (.bool false) => denH sub e b
    | _ => none
def caught (io : List Nat) (as : Option Nat) (d : Option D) : MS := fun ρ => match d, as with
  | some d, none => .rt 0 d ρ
  | some d, some i => if (io.contains i || decide (ρ.length ≤ i)) = true then .no else .rt 0 d (ρ.set i none)
  | none, _ => .no
def handle (io : List Nat) (sub : Nat → Nat → Bool) (e : Ex) : List (Nat × Option Nat × HE) → MS
  | [] => .ex e
  | (j, as, h) :: hs => if sub e.c j = true then caught io as (denH sub e h) else handle io sub e hs
mutual
def denS (X : Env0) : CS → MS
  | .expr e => MS.of (denE X e) fun _ => .nx
  | .asg t e => MS.of (denE X e) fun v => storeT X t v
  | .par is es => MS.of ((denA X es).bind fun ts => (items X.io ts).bind fun xs => setSlots X.io is xs) fun _ => .nx
  | .aug i e => MS.of ((rd i).bind fun s => (pvOf s).bind fun x => (denE X e).bind fun t => (bor t).bind fun y => match x, y with
      | .int a, .int b => setSlot X.io i 0 (.int (a + b))
      | _, _ => M.no) fun _ => .nx
  | .app i e => MS.of ((isL i).bind fun _ => (denE X e).bind fun s => (item X.io s).bind fun x => appL i x) fun _ => .nx
  | .ext i e => MS.of ((isL i).bind fun _ => (denE X e).bind fun s => (frz X.io s).bind fun d => extL i d) fun _ => .nx
  | .ret e => MS.of ((denE X e).bind fun t => item X.io t) fun x => .rt x.1 x.2
  | .retN => .rt 0 .none
  | .ite c a b => MS.of (denT X c) fun k => if k = true then denSs X a else denSs X b
  | .forr t it b => MS.of (denI X it) fun xs => forL (fun x => MS.of (bindN X t x) fun _ => denSs X b) xs
  | .whil c b => X.wh (denT X c) (denSs X b)
  | .rais c fld e => MS.of ((denE X e).bind fun s => frz X.io s) fun d => .ex ⟨c, if fld then some d else none⟩
  | .tryy b hs => fun ρ => match denSs X b ρ with
    | .ex e ρ' => handle X.io X.sub e hs ρ'
    | r => r
  | .pass => .nx
  | .cont => .ct
  | .brk => .bk
def denSs (X : Env0) : CSs → MS
  | .nil => .nx
  | .cons s ss => MS.seq (denS X s) (denSs X ss)
end

structure FnC where
  np : Nat
  ns : Nat
  io : List Bool
  body : CSs
def ioSlots : Nat → List Bool → List Nat
  | _, [] => []
  | i, true :: r => i :: ioSlots (i + 1) r
  | i, false :: r => ioSlots (i + 1) r
def getIos (ρ : SEnv) : List Nat → Option (List (Nat × D))
  | [] => some []
  | i :: r => match ρ[i]? with
    | some (some (k + 1, d)) => (getIos ρ r).map ((k + 1, d) :: ·)
    | _ => none
def startE (F : FnC) (args : List (Nat × D)) : SEnv := args.map some ++ List.replicate (F.ns - F.np) none
def runF (wh : M Bool → MS → MS) (sub : Nat → Nat → Bool) (sig : Nat → List Bool) (φ : Calls) (F : FnC) (args : List (Nat × D)) : Option CRes :=
  if args.length = F.np then
    match denSs ⟨wh, sub, ioSlots 0 F.io, sig, φ⟩ F.body (startE F args) with
    | .nx ρ => (getIos ρ (ioSlots 0 F.io)).map (.ret 0 .none)
    | .rt k d ρ => (getIos ρ (ioSlots 0 F.io)).map (.ret k d)
    | .ex e ρ => (getIos ρ (ioSlots 0 F.io)).map (.exc e)
    | _ => none
  else none
abbrev Prog := List FnC
def sigOf (P : Prog) (f : Nat) : List Bool := match P[f]? with
  | some F => F.io
  | none => []
def runW (wh : M Bool → MS → MS) (sub : Nat → Nat → Bool) (P : Prog) : Nat → Calls
  | 0 => fun _ _ => none
  | n + 1 => fun f args => match P[f]? with
    | some F => runF wh sub (sigOf P) (runW wh sub P n) F args
    | none => none
noncomputable def run (sub : Nat → Nat → Bool) (P : Prog) : Nat → Calls := runW whileM sub P
end PV

/-! PV2: the operators, by values. -/
namespace PV
open PySem PySem.Spec L2

theorem map_some {α β : Type} {o : Option α} {f : α → β} {b : β} (h : o.map f = some b) : ∃ a, o = some a ∧ f a = b := Option.map_eq_some_iff.mp h
/-! ### looked at -/
inductive Bor (K : Frag) (H G : Hp) : V → D → Prop
  | rep {v : V} {d : D} : Rep K G v d → Bor K H G v d
  | lst {a : Addr} {xs : List V} {ds : List D} : H a = some (.lst xs) → RepAll K G xs ds → Bor K H G (.ref a) (.list ds)
  | dic {a : Addr} {kvs : List (Key × V)} {ds : List (D × D)} : H a = some (.dK kvs) → RepKV K G kvs ds → Bor K H G (.ref a) (.dict ds)
  | dicT {a : Addr} {kvs : List (List Key × V)} {ds : List (D × D)} : H a = some (.dT kvs) → RepKT K G kvs ds → Bor K H G (.ref a) (.dict ds)
inductive BorAll (K : Frag) (H G : Hp) : List V → List D → Prop
  | nil : BorAll K H G [] []
  | cons {v : V} {d : D} {vs : List V} {ds : List D} : Bor K H G v d → BorAll K H G vs ds → BorAll K H G (v :: vs) (d :: ds)
section
variable {K : Frag} {H G : Hp} {v : V} {d : D}
theorem Own.bor {k : Nat} {f : List Addr} (h : Own K H G k v d f) (hk : k ≤ 1) : Bor K H G v d := by
  cases h with
  | frz r => exact .rep r
  | flat r c => exact .rep r
  | lst q r =>
    obtain rfl := Nat.le_zero.mp (Nat.le_of_succ_le_succ hk)
    exact .lst q r.zero.2
  | dic q r => exact .dic q r
  | dicT q r => exact .dicT q r
theorem Bor.full (gh : Same G H) (h : Bor K H G v d) : Rep K H v d := by
  cases h with
  | rep r => exact r.same gh
  | lst q r => exact .lst (.of q) (r.same gh)
  | dic q r => exact .dic q (r.same gh)
  | dicT q r => exact .dicT q (r.same gh)
theorem Bor.int {i : Int} (h : Bor K H G v (.int i)) : v = .int i := by
  cases h with
  | rep r => cases r; rfl
theorem Bor.bl {i : Bool} (h : Bor K H G v (.bool i)) : v = .bl i := by
  cases h with
  | rep r => cases r; rfl
theorem Bor.str {i : Str} (h : Bor K H G v (.str i)) : v = .str i := by
  cases h with
  | rep r => cases r; rfl
theorem Bor.non (h : Bor K H G v .none) : v = .non := by
  cases h with
  | rep r => cases r; rfl
theorem Bor.list {ds : List D} (gh : Same G H) (h : Bor K H G v (.list ds)) : ∃ a xs, v = .ref a ∧ LsR K H a xs ∧ RepAll K G xs ds := by
  cases h with
  | rep r => cases r with | lst q r => exact ⟨_, _, rfl, q.same gh, r⟩
  | lst q r => exact ⟨_, _, rfl, .of q, r⟩
theorem Bor.tuple {ds : List D} (gh : Same G H) (h : Bor K H G v (.tuple ds)) : ∃ a xs, v = .ref a ∧ SqT K H a xs ∧ RepAll K G xs ds := by
  cases h with
  | rep r => cases r with | tup q r => exact ⟨_, _, rfl, SqT.same gh q, r⟩
theorem RepAll.length : ∀ {vs : List V} {ds : List D}, RepAll K G vs ds → vs.length = ds.length
  | _, _, .nil => rfl
  | _, _, .cons _ t => congrArg (· + 1) (RepAll.length t)
theorem RepAll.append : ∀ {vs ws : List V} {ds es : List D}, RepAll K G vs ds → RepAll K G ws es → RepAll K G (vs ++ ws) (ds ++ es)
  | _, _, _, _, .nil, h => h
  | _, _, _, _, .cons r t, h => .cons r (RepAll.append t h)
theorem RepAll.get : ∀ {vs : List V} {ds : List D} {i : Nat} {d : D}, RepAll K G vs ds → ds[i]? = some d → ∃ v, vs[i]? = some v ∧ Rep K G v d
  | _, _, _, _, .nil, e => by simp at e
  | _, _, 0, _, .cons r t, e => by simp at e; subst e; exact ⟨_, rfl, r⟩
  | _, _, i + 1, _, .cons r t, e => by
    obtain ⟨v, h1, h2⟩ := RepAll.get (i := i) t (by simpa using e)
    exact ⟨v, by simpa using h1, h2⟩
theorem RepAll.getV : ∀ {vs : List V} {ds : List D} {i : Nat} {v : V}, RepAll K G vs ds → vs[i]? = some v → ∃ d, ds[i]? = some d ∧ Rep K G v d
  | _, _, _, _, .nil, e => by simp at e
  | _, _, 0, _, .cons r t, e => by simp at e; subst e; exact ⟨_, rfl, r⟩
  | _, _, i + 1, _, .cons r t, e => by
    obtain ⟨v, h1, h2⟩ := RepAll.getV (i := i) t (by simpa using e)
    exact ⟨v, by simpa using h1, h2⟩
theorem RepAll.take : ∀ {vs : List V} {ds : List D} (n : Nat), RepAll K G vs ds → RepAll K G (vs.take n) (ds.take n)
  | _, _, 0, _ => .nil
  | _, _, _ + 1, .nil => .nil
  | _, _, n + 1, .cons r t => .cons r (RepAll.take n t)
theorem RepAll.drop : ∀ {vs : List V} {ds : List D} (n : Nat), RepAll K G vs ds → RepAll K G (vs.drop n) (ds.drop n)
  | _, _, 0, h => h
  | _, _, _ + 1, .nil => .nil
  | _, _, n + 1, .cons r t => RepAll.drop n t
theorem RepAll.rev {vs : List V} {ds : List D} (h : RepAll K G vs ds) : RepAll K G vs.reverse ds.reverse := by
  have key : ∀ {vs : List V} {ds : List D} {ws : List V} {es : List D}, RepAll K G vs ds → RepAll K G ws es → RepAll K G (vs.reverseAux ws) (ds.reverseAux es) := by
    intro vs
    induction vs with
    | nil => intro ds ws es h g; cases h; exact g
    | cons v vs ih => intro ds ws es h g; cases h with
      | cons r t =>
        have z := ih t (RepAll.cons r g)
        exact z
  exact key h .nil
theorem RepAll.cut {vs : List V} {ds : List D} (h : RepAll K G vs ds) (lo hi : Option Int) : RepAll K G (cutV vs lo hi) (cutD ds lo hi) := by
  unfold cutV cutD
  rw [h.length]
  exact (h.drop _).take _
theorem RepAll.ints : ∀ {ns : List Int}, RepAll K G (ns.map V.int) (ns.map PyData.int)
  | [] => .nil
  | n :: ns => .cons (.int n) (RepAll.ints (ns := ns))
theorem RepAll.ofInts : ∀ {ds : List D} {vs : List V} {ns : List Int}, RepAll K G vs ds → intsOf ds = some ns → vs = ns.map V.int
  | [], _, _, .nil, e => by simp [intsOf] at e; subst e; rfl
  | .int i :: ds, _, ns, .cons r t, e => by
    simp only [intsOf, Option.map_eq_some_iff] at e
    obtain ⟨l, e1, rfl⟩ := e
    cases r
    rw [RepAll.ofInts t e1]; rfl
theorem RepAll.ofBools : ∀ {ds : List D} {vs : List V} {ns : List Bool}, RepAll K G vs ds → boolsOf ds = some ns → vs = ns.map V.bl
  | [], _, _, .nil, e => by simp [boolsOf] at e; subst e; rfl
  | .bool i :: ds, _, ns, .cons r t, e => by
    simp only [boolsOf, Option.map_eq_some_iff] at e
    obtain ⟨l, e1, rfl⟩ := e
    cases r
    rw [RepAll.ofBools t e1]; rfl
theorem RepAll.ofStrs : ∀ {ds : List D} {vs : List V} {ns : List Str}, RepAll K G vs ds → strsOf ds = some ns → vs = ns.map V.str
  | [], _, _, .nil, e => by simp [strsOf] at e; subst e; rfl
  | .str i :: ds, _, ns, .cons r t, e => by
    simp only [strsOf, Option.map_eq_some_iff] at e
    obtain ⟨l, e1, rfl⟩ := e
    cases r
    rw [RepAll.ofStrs t e1]; rfl
theorem intsOf_map : ∀ (ds : List D) (l : List Int), intsOf ds = some l → ds = l.map PyData.int
  | [], l, e => by simp [intsOf] at e; subst e; rfl
  | .int i :: ds, l, e => by
    simp only [intsOf, Option.map_eq_some_iff] at e
    obtain ⟨l', e1, rfl⟩ := e
    rw [intsOf_map ds l' e1]; rfl
mutual
theorem Rep.dp : ∀ {d : D} {v : V}, Rep K G v d → d.canLay0 = true → Dp K G v d
  | .none, _, h, _ => by cases h; exact .non
  | .bool b, _, h, _ => by cases h; exact .bl b
  | .int b, _, h, _ => by cases h; exact .int b
  | .str b, _, h, _ => by cases h; exact .str b
  | .list ds, _, h, c => by cases h with | lst q r => exact .lst q.sq (RepAll.dp r c)
  | .tuple ds, _, h, c => by cases h with | tup q r => exact .tup q (RepAll.dp r c)
  | .dict ds, _, h, c => by cases c
theorem RepAll.dp : ∀ {ds : List D} {vs : List V}, RepAll K G vs ds → PyData.canLayAll0 ds = true → DpAll K G vs ds
  | [], _, h, _ => by cases h; exact .nil
  | d :: ds, _, h, c => by
    have c' := Bool.and_eq_true_iff.mp c
    cases h with | cons r t => exact .cons (Rep.dp r c'.1) (RepAll.dp t c'.2)
end
end
theorem LsR.exact {X : Cx} {pins : List (Addr × Obj)} {σ : L2.St} {H : Hp} {s : Shared} {a : Addr} {xs : List V} (I : Inv X pins σ H s) (h : LsR X.K H a xs) :
    xs.length ≤ sizeLine ∧ ∃ (its : List Value) (n : Nat), Vals xs its ∧ xs.length = its.length ∧ s.heap.get? a = some { cls := .type "list", data := .seq its.toArray n } := by
  rcases h with h | ⟨its, n, hk, hz, r⟩
  · obtain ⟨z, its, n, r, e⟩ := h.ok I.hok
    exact ⟨z, its, n, r, r.length, e⟩
  · exact ⟨hz, its, n, r, r.length, I.kIn a _ hk⟩

/-! ### what an operation gives -/
def Yields (K : Frag) (G H : Hp) (k : Nat) (d : D) (Q : VK) : Prop :=
  ∀ (v : V) (G' H' : Hp) (f : List Addr), Ext G H G' H' → Own K H' G' k v d f → f.Nodup → (∀ a ∈ f, H a = none ∧ G' a = none) → Q v H'
section
variable {K : Frag} {H G : Hp} {v : V} {d : D} {k : Nat} {Q : VK}
theorem Yields.old (gh : Same G H) (y : Yields K G H 0 d Q) (r : Rep K G v d) : Q v H := y v G H [] (.refl gh) (.frz r) .nil fun _ h => nomatch h
theorem ownAll_flat : ∀ {vs : List V} {ds : List D} (k : Nat), RepAll K G vs ds → ds.any isC = false → OwnAll K H G k vs ds []
  | _, _, k, .nil, _ => .nil
  | _, _, 0, h, _ => .of_rep h
  | v :: vs, d :: ds, k + 1, .cons r t, h => by
    rw [List.any_cons, Bool.or_eq_false_iff] at h
    exact .cons (f1 := []) (.flat r h.1) (ownAll_flat (k + 1) t h.2)
theorem Yields.lst {vs : List V} {ds : List D} (gh : Same G H) (y : Yields K G H (kList ds) (.list ds) Q) (r : RepAll K G vs ds) (p : Addr) (hp : H p = none) : Q (.ref p) (upd H p (.lst vs)) := by
  refine y _ G _ [p] (.owned gh hp) ?_ (by simp) fun a h => ?_
  · unfold kList
    by_cases h : ds.any isC = true
    · rw [if_pos h]; exact .lst upd_same (.of_rep r)
    · rw [if_neg h]; exact .lst upd_same (ownAll_flat 8 r (by simpa using h))
  · obtain rfl : a = p := by simpa using h
    exact ⟨hp, Same.free gh hp⟩
theorem Yields.tup {vs : List V} {ds : List D} (gh : Same G H) (y : Yields K G H 0 (.tuple ds) Q) (r : RepAll K G vs ds) (p : Addr) (hp : H p = none) : Q (.ref p) (upd H p (.tup vs)) :=
  y _ _ _ [] (.frozen gh hp) (.frz (.tup (.of upd_same) (r.same (Ext.frozen gh hp).g))) .nil fun _ h => nomatch h
end

/-! ### operators of two places -/
def pyBin : BOp → Operator
  | .add => .Add | .sub => .Sub | .mul => .Mult | .fdiv => .FloorDiv | .mod => .Mod | .pow => .Pow | .shl => .LShift | .shr => .RShift | .band => .BitAnd | .bor => .BitOr
def rBin (K : Frag) (f : D → D → Option (Nat × D)) : R2 := fun x y H Q => ∃ G d1 d2 k d, Same G H ∧ Bor K H G x d1 ∧ Bor K H G y d2 ∧ f d1 d2 = some (k, d) ∧ Yields K G H k d Q
section
variable {X : Cx}
theorem op_catL : OpR X (binaryOp .Add) (fun x y H Q => ∃ a b xs ys, x = .ref a ∧ y = .ref b ∧ LsR X.K H a xs ∧ LsR X.K H b ys ∧ xs.length + ys.length ≤ sizeLine ∧ ∀ p, H p = none → Q (.ref p) (upd H p (.lst (xs ++ ys)))) := by
  intro pins s σ H x y v u Q I rx ry h
  obtain ⟨l, b, xs, zs, rfl, rfl, hH, hB, hz, q⟩ := h
  cases rx
  cases ry
  obtain ⟨z, its, n, r, hl, e⟩ := hH.exact I
  obtain ⟨z2, its2, n2, r2, hl2, e2⟩ := hB.exact I
  refine PySem.P.add_list e e2 ?_ (by rw [List.size_toArray, List.size_toArray]; omega)
  have ea : its.toArray ++ its2.toArray = (its ++ its2).toArray := by simp
  rw [ea]
  exact ⟨.ref _, _, I.lnew (t' := s.toks) (r.append r2) (by rw [List.length_append]; omega), rfl, q _ I.fresh⟩
theorem RepAll.rep {K : Frag} {G : Hp} {vs : List V} {ds : List D} (h : RepAll K G vs ds) : ∀ n : Nat, RepAll K G (List.replicate n vs).flatten (repD n ds)
  | 0 => .nil
  | n + 1 => by
    unfold repD
    rw [List.replicate_succ, List.replicate_succ, List.flatten_cons, List.flatten_cons]
    exact h.append (RepAll.rep h n)
theorem op_repL : OpR X (binaryOp .Mult) (fun x y H Q => ∃ l k xs, x = .ref l ∧ y = .int k ∧ LsR X.K H l xs ∧ (-(2 ^ 63) ≤ k ∧ k < 2 ^ 63) ∧ xs.length * k.toNat ≤ sizeLine ∧ ∀ p, H p = none → Q (.ref p) (upd H p (.lst (List.replicate k.toNat xs).flatten))) := by
  intro pins s σ H x y v u Q I rx ry h
  obtain ⟨l, k, xs, rfl, rfl, hH, ⟨k1, k2⟩, sz, q⟩ := h
  cases rx
  obtain ⟨tk, rfl⟩ := ry
  obtain ⟨z, its, n, rv, hl, e⟩ := hH.exact I
  have s1 : its.toArray.size * k.toNat ≤ sizeLine := by
    rw [List.size_toArray, ← hl]
    exact sz
  have s2 : ¬ its.toArray.size * k.toNat > (2 ^ 63 - 1) / 8 := fun w => by
    have w2 : (sizeLine : Nat) ≤ (2 ^ 63 - 1) / 8 := by decide
    omega
  have s3 : ¬ (!Builtin.List.listFitsIndex k) = true := fun w => by rw [fitsIndex_both k1 k2] at w; cases w
  have s4 : ¬ Builtin.List.listTooLong (its.toArray.size * k.toNat) = true := fun w => by rw [notLongL s1] at w; cases w
  have s5 : List.foldl (fun x1 x2 => x1 ++ x2) #[] (List.replicate (if its.toArray.isEmpty = true then 0 else k.toNat) its.toArray) = (List.replicate k.toNat its).flatten.toArray := by
    have w : ∀ m : Nat, List.foldl (fun x1 x2 => x1 ++ x2) #[] (List.replicate m its.toArray) = (List.replicate m its).flatten.toArray := fun m => by
      have w2 := foldl_rep its m []
      rw [List.nil_append] at w2
      exact w2
    rw [w]
    cases its with
    | nil => simp
    | cons a r => rw [if_neg (by simp)]
  have c1 := AutoListH.list___mul___list_int_3 l its.toArray n k tk s3 s2 s4
  have ty : s.TypeIs (.ref l) "list" := ⟨_, e, rfl⟩
  refine wpAny_binaryOp_repeat_ref (T := "list") (U := "int") (by decide) ty (fun s' => typeIs_int s' k tk) noFill_list_mul F.fills_int_mul F.slot_int_rmul repeat_list F.slot_int_index.lookup ?_
  refine call_meets F.slot_int_rmul (typeIs_int s k tk) F.entry_int_rmul (F.args_int_rmul_2 _ _) (int___rmul___int_list k tk l its.toArray n) ⟨e, rfl, ty, ?_⟩
  refine call_meets F.slot_list_mul ty F.entry_list_mul (F.args_list_mul_2 _ _) c1 ⟨e, ?_⟩
  rw [s5]
  exact ⟨.ref _, _, I.lnew (t' := s.toks) (rv.rep k.toNat) (by rw [PyProof.Rows.lm_len_rep_flat, Nat.mul_comm]; exact sz), rfl, q _ I.fresh⟩
theorem op_fdivX : OpR X (binaryOp .FloorDiv) (rI (fun _ j => j ≠ 0 ∧ j.natAbs.log2 < 9000) fun i j => .int (i.fdiv j)) := opI fun i j _ _ _ _ _ hc q =>
  PyProof.Rows.floordiv_int hc.1 q (.inl (PyProof.noPylong_of_log2 hc.2))
theorem ite_some {α : Type} {c : Bool} {a b : α} (h : (if c = true then some a else none) = some b) : c = true ∧ a = b := by
  cases c with
  | false => cases h
  | true => exact ⟨rfl, Option.some.inj h⟩
theorem op_bin (op : BOp) : OpR X (binaryOp (pyBin op)) (rBin X.K (binop op)) := by
  intro pins s σ H x y v u Q I rx ry h
  obtain ⟨G, d1, d2, k, d, gh, b1, b2, e, yl⟩ := h
  have scal : ∀ {w : V} {d' : D}, (k, d) = (0, d') → (∀ G, Rep X.K G w d') → Q w H := fun {w d'} z r => by
    cases z
    exact yl.old gh (r G)
  cases d1 with
  | int i =>
    cases d2 with
    | int j =>
      obtain rfl := b1.int
      obtain rfl := b2.int
      cases op with
      | add => exact op_add pins s σ H _ _ v u Q I rx ry ⟨i, j, rfl, rfl, scal (Option.some.inj e).symm fun G => .int _⟩
      | sub => exact op_sub pins s σ H _ _ v u Q I rx ry ⟨i, j, rfl, rfl, scal (Option.some.inj e).symm fun G => .int _⟩
      | mul =>
        obtain ⟨c, e⟩ := ite_some e
        exact op_mulW pins s σ H _ _ v u Q I rx ry ⟨i, j, rfl, rfl, by unfold CMulW; unfold mulOk at c; exact of_decide_eq_true c, scal e.symm fun G => .int _⟩
      | fdiv =>
        obtain ⟨c, e⟩ := ite_some e
        have c' := Bool.and_eq_true_iff.mp c
        exact op_fdivX pins s σ H _ _ v u Q I rx ry ⟨i, j, rfl, rfl, ⟨of_decide_eq_true c'.1, of_decide_eq_true c'.2⟩, scal e.symm fun G => .int _⟩
      | mod =>
        obtain ⟨c, e⟩ := ite_some e
        exact op_modN pins s σ H _ _ v u Q I rx ry ⟨i, j, rfl, rfl, of_decide_eq_true c, scal e.symm fun G => .int _⟩
      | pow =>
        obtain ⟨c, e⟩ := ite_some e
        have c1 := Bool.and_eq_true_iff.mp c
        have c2 := Bool.and_eq_true_iff.mp c1.1
        exact op_pow pins s σ H _ _ v u Q I rx ry ⟨i, j, rfl, rfl, ⟨of_decide_eq_true c2.1, of_decide_eq_true c2.2, of_decide_eq_true c1.2⟩, scal e.symm fun G => .int _⟩
      | shl =>
        obtain ⟨c, e⟩ := ite_some e
        have c1 := Bool.and_eq_true_iff.mp c
        have c2 := Bool.and_eq_true_iff.mp c1.1
        exact op_shl pins s σ H _ _ v u Q I rx ry ⟨i, j, rfl, rfl, ⟨of_decide_eq_true c2.1, of_decide_eq_true c2.2, of_decide_eq_true c1.2⟩, scal e.symm fun G => .int _⟩
      | shr =>
        obtain ⟨c, e⟩ := ite_some e
        exact op_shr pins s σ H _ _ v u Q I rx ry ⟨i, j, rfl, rfl, of_decide_eq_true c, scal e.symm fun G => .int _⟩
      | band => exact op_and pins s σ H _ _ v u Q I rx ry ⟨i, j, rfl, rfl, scal (Option.some.inj e).symm fun G => .int _⟩
      | bor => exact op_or pins s σ H _ _ v u Q I rx ry ⟨i, j, rfl, rfl, scal (Option.some.inj e).symm fun G => .int _⟩
    | _ => cases op <;> cases e
  | str i =>
    cases d2 with
    | str j =>
      obtain rfl := b1.str
      obtain rfl := b2.str
      cases op with
      | add =>
        obtain ⟨c, e⟩ := ite_some e
        exact op_add_str pins s σ H _ _ v u Q I rx ry ⟨i, j, rfl, rfl, of_decide_eq_true c, scal e.symm fun G => .str _⟩
      | _ => cases e
    | _ => cases op <;> cases e
  | list xs =>
    cases d2 with
    | list ys =>
      obtain ⟨a, vs, rfl, ha, ra⟩ := b1.list gh
      obtain ⟨b, ws, rfl, hb, rb⟩ := b2.list gh
      cases op with
      | add =>
        obtain ⟨c, e⟩ := ite_some e
        have hz : vs.length + ws.length ≤ sizeLine := by rw [ra.length, rb.length]; exact of_decide_eq_true c
        cases e
        exact op_catL pins s σ H _ _ v u Q I rx ry ⟨a, b, vs, ws, rfl, rfl, ha, hb, hz, fun p hp => yl.lst gh (ra.append rb) p hp⟩
      | _ => cases e
    | int j =>
      obtain ⟨a, vs, rfl, ha, ra⟩ := b1.list gh
      obtain rfl := b2.int
      cases op with
      | mul =>
        obtain ⟨c, e⟩ := ite_some e
        have c1 := Bool.and_eq_true_iff.mp c
        have c2 := Bool.and_eq_true_iff.mp c1.1
        cases e
        exact op_repL pins s σ H _ _ v u Q I rx ry ⟨a, j, vs, rfl, rfl, ha, ⟨of_decide_eq_true c2.1, of_decide_eq_true c2.2⟩, by rw [ra.length]; exact of_decide_eq_true c1.2, fun p hp => yl.lst gh (ra.rep j.toNat) p hp⟩
      | _ => cases e
    | _ => cases op <;> cases e
  | tuple xs =>
    cases d2 with
    | tuple ys =>
      have r1 : Rep X.K G x (.tuple xs) := by cases b1 with | rep r => exact r
      have r2 : Rep X.K G y (.tuple ys) := by cases b2 with | rep r => exact r
      obtain ⟨a, vs, rfl, ha, ra⟩ := b1.tuple gh
      obtain ⟨b, ws, rfl, hb, rb⟩ := b2.tuple gh
      cases op with
      | add =>
        obtain ⟨c, e⟩ := ite_some e
        have hz : vs.length + ws.length ≤ sizeLine := by rw [ra.length, rb.length]; exact of_decide_eq_true c
        cases e
        refine op_catA pins s σ H _ _ v u Q I rx ry ⟨a, b, vs, ws, rfl, rfl, ha, hb, hz, fun z => ?_, fun _ z => ?_, fun _ _ p hp => yl.tup gh (ra.append rb) p hp⟩
        · subst z
          have z2 : xs = [] := List.length_eq_zero_iff.mp (by rw [← ra.length]; rfl)
          subst z2
          exact yl.old gh r2
        · subst z
          have z2 : ys = [] := List.length_eq_zero_iff.mp (by rw [← rb.length]; rfl)
          subst z2
          rw [List.append_nil] at yl
          exact yl.old gh r1
      | _ => cases e
    | _ => cases op <;> cases e
  | _ => cases op <;> cases d2 <;> cases e

/-! ### of one place -/
def pyUn : UOp → UnaryOp
  | .neg => .USub
  | .inv => .Invert
theorem op_un (op : UOp) : UnR X (unaryOp (pyUn op)) (fun x H Q => ∃ G d1 d, Same G H ∧ Bor X.K H G x d1 ∧ unop op d1 = some d ∧ Yields X.K G H 0 d Q) := by
  intro pins s σ H x v Q I rx h
  obtain ⟨G, d1, d, gh, b1, e, yl⟩ := h
  cases d1 with
  | int i =>
    obtain rfl := b1.int
    cases op with
    | neg => cases e; exact un_neg pins s σ H _ v Q I rx ⟨i, rfl, yl.old gh (.int _)⟩
    | inv => cases e; exact un_inv pins s σ H _ v Q I rx ⟨i, rfl, yl.old gh (.int _)⟩
  | _ => cases op <;> cases e

/-! ### comparisons -/
def pyCmp : COp → CmpOp
  | .eq => .Eq | .ne => .NotEq | .lt => .Lt | .le => .LtE | .gt => .Gt | .ge => .GtE | .isN => .Is | .notN => .IsNot | .inn => .In | .nin => .NotIn
def rCmp (K : Frag) (op : COp) : R2 := fun x y H Q => ∃ d1 d2 c, Rep K H x d1 ∧ Rep K H y d2 ∧ cmpop op d1 d2 = some c ∧ Q (.bl c) H
theorem Rep.canLay {K : Frag} {H : Hp} {v : V} {d : D} (r : Rep K H v d) (h : SeqAt.shaped d = true) : Dp K H v d := r.dp (SeqAt.canLay_of_shaped h)
theorem Rep.isNon {K : Frag} {H : Hp} {v : V} {d : D} (r : Rep K H v d) : decide (v = .non) = (match d with | .none => true | _ => false) := by
  cases r <;> simp
theorem op_inTD (hu : X.A.units + 65 < cLine) : OpR X (compareOp .In) (fun x y H Q => ∃ d ds, Dp X.K H x d ∧ Dp X.K H y (.tuple ds) ∧ SeqAt.shaped d = true ∧ SeqAt.shaped (.tuple ds) = true ∧ Q (.bl (ds.any fun z => PyData.eqv z d)) H) := by
  intro pins s σ H x y v u Q I rx ry h
  obtain ⟨d, ds, hd, he, sd, se, q⟩ := h
  obtain ⟨as, r1⟩ := Dp.reads I d x v hd rx
  obtain ⟨bs, r2⟩ := Dp.reads I (.tuple ds) y u he ry
  exact SeqAt.in_tuple_reads r2 r1 (SeqAt.canLay_of_shaped se) (SeqAt.canLay_of_shaped sd) (PyProof.Rows.room_in_shaped sd hu) ⟨.bl _, H, I, rfl, q⟩
theorem op_notInTD (hu : X.A.units + 65 < cLine) : OpR X (compareOp .NotIn) (fun x y H Q => ∃ d ds, Dp X.K H x d ∧ Dp X.K H y (.tuple ds) ∧ SeqAt.shaped d = true ∧ SeqAt.shaped (.tuple ds) = true ∧ Q (.bl (!ds.any fun z => PyData.eqv z d)) H) := by
  intro pins s σ H x y v u Q I rx ry h
  obtain ⟨d, ds, hd, he, sd, se, q⟩ := h
  obtain ⟨as, r1⟩ := Dp.reads I d x v hd rx
  obtain ⟨bs, r2⟩ := Dp.reads I (.tuple ds) y u he ry
  exact SeqAt.notIn_tuple_reads r2 r1 (SeqAt.canLay_of_shaped se) (SeqAt.canLay_of_shaped sd) (PyProof.Rows.room_in_shaped sd hu) ⟨.bl _, H, I, rfl, q⟩
theorem eqD_of {a b : D} {c : Bool} (h : eqD a b = some c) : SeqAt.shaped a = true ∧ SeqAt.shaped b = true ∧ PyData.eqv a b = c := by
  obtain ⟨h1, h2⟩ := ite_some h
  have h3 := Bool.and_eq_true_iff.mp h1
  exact ⟨h3.1, h3.2, h2⟩
theorem op_cmp (op : COp) (hu : X.A.units + 65 < cLine) : OpR X (compareOp (pyCmp op)) (rCmp X.K op) := by
  intro pins s σ H x y v u Q I rx ry h
  obtain ⟨d1, d2, c, r1, r2, e, q⟩ := h
  cases op with
  | eq =>
    obtain ⟨s1, s2, e⟩ := eqD_of e
    exact op_eqD (by omega) pins s σ H _ _ v u Q I rx ry ⟨d1, d2, r1.canLay s1, r2.canLay s2, s1, s2, by rw [e]; exact q⟩
  | ne =>
    obtain ⟨k, e1, e2⟩ := Option.map_eq_some_iff.mp (show (eqD d1 d2).map (!·) = some c from e)
    obtain ⟨s1, s2, e⟩ := eqD_of e1
    exact op_neD (by omega) pins s σ H _ _ v u Q I rx ry ⟨d1, d2, r1.canLay s1, r2.canLay s2, s1, s2, by rw [e, e2]; exact q⟩
  | isN =>
    cases d2 with
    | none =>
      cases r2
      refine op_isN pins s σ H _ _ v u Q I rx ry ⟨rfl, ?_⟩
      rw [r1.isNon]
      cases e
      cases d1 <;> exact q
    | _ => cases e
  | notN =>
    cases d2 with
    | none =>
      cases r2
      refine op_notN pins s σ H _ _ v u Q I rx ry ⟨rfl, ?_⟩
      rw [r1.isNon]
      cases e
      cases d1 <;> exact q
    | _ => cases e
  | lt =>
    cases d1 with
    | int i =>
      cases d2 with
      | int j => cases r1; cases r2; cases e; exact op_lt pins s σ H _ _ v u Q I rx ry ⟨i, j, rfl, rfl, q⟩
      | _ => cases e
    | str i =>
      cases d2 with
      | str j => cases r1; cases r2; cases e; exact op_lt_str pins s σ H _ _ v u Q I rx ry ⟨i, j, rfl, rfl, q⟩
      | _ => cases e
    | tuple xs =>
      cases d2 with
      | tuple ys =>
        obtain ⟨l1, e1, e⟩ := Option.bind_eq_some_iff.mp (show ((intsOf xs).bind fun a => (intsOf ys).map fun b => HT.lexLt a b) = some c from e)
        obtain ⟨l2, e2, e⟩ := Option.map_eq_some_iff.mp e
        cases r1 with
        | tup t1 a1 =>
          cases r2 with
          | tup t2 a2 =>
            have z1 := a1.ofInts e1
            have z2 := a2.ofInts e2
            subst z1; subst z2
            exact op_ltT (by omega) pins s σ H _ _ v u Q I rx ry ⟨_, _, l1, l2, rfl, rfl, t1, t2, by rw [e]; exact q⟩
      | _ => cases e
    | _ => cases d2 <;> cases e
  | le =>
    cases d1 with
    | int i =>
      cases d2 with
      | int j => cases r1; cases r2; cases e; exact op_le pins s σ H _ _ v u Q I rx ry ⟨i, j, rfl, rfl, q⟩
      | _ => cases e
    | str i =>
      cases d2 with
      | str j => cases r1; cases r2; cases e; exact op_le_str pins s σ H _ _ v u Q I rx ry ⟨i, j, rfl, rfl, q⟩
      | _ => cases e
    | _ => cases d2 <;> cases e
  | gt =>
    cases d1 with
    | int i =>
      cases d2 with
      | int j => cases r1; cases r2; cases e; exact op_gt pins s σ H _ _ v u Q I rx ry ⟨i, j, rfl, rfl, q⟩
      | _ => cases e
    | str i =>
      cases d2 with
      | str j => cases r1; cases r2; cases e; exact op_gt_str pins s σ H _ _ v u Q I rx ry ⟨i, j, rfl, rfl, q⟩
      | _ => cases e
    | _ => cases d2 <;> cases e
  | ge =>
    cases d1 with
    | int i =>
      cases d2 with
      | int j => cases r1; cases r2; cases e; exact op_ge pins s σ H _ _ v u Q I rx ry ⟨i, j, rfl, rfl, q⟩
      | _ => cases e
    | str i =>
      cases d2 with
      | str j => cases r1; cases r2; cases e; exact op_ge_str pins s σ H _ _ v u Q I rx ry ⟨i, j, rfl, rfl, q⟩
      | _ => cases e
    | _ => cases d2 <;> cases e
  | inn =>
    cases d2 with
    | list ys =>
      have e' : (if (SeqAt.shaped d1 && SeqAt.shaped (.list ys)) = true then some (ys.any fun z => PyData.eqv z d1) else none) = some c := by cases d1 <;> exact e
      obtain ⟨h1, h2⟩ := ite_some e'
      have h3 := Bool.and_eq_true_iff.mp h1
      exact op_inD (by omega) pins s σ H _ _ v u Q I rx ry ⟨d1, ys, r1.canLay h3.1, r2.canLay h3.2, h3.1, h3.2, by rw [h2]; exact q⟩
    | tuple ys =>
      have e' : (if (SeqAt.shaped d1 && SeqAt.shaped (.tuple ys)) = true then some (ys.any fun z => PyData.eqv z d1) else none) = some c := by cases d1 <;> exact e
      obtain ⟨h1, h2⟩ := ite_some e'
      have h3 := Bool.and_eq_true_iff.mp h1
      exact op_inTD (by omega) pins s σ H _ _ v u Q I rx ry ⟨d1, ys, r1.canLay h3.1, r2.canLay h3.2, h3.1, h3.2, by rw [h2]; exact q⟩
    | str j =>
      cases d1 with
      | str i => cases r1; cases r2; cases e; exact op_in_str pins s σ H _ _ v u Q I rx ry ⟨i, j, rfl, rfl, q⟩
      | _ => cases e
    | _ => cases d1 <;> cases e
  | nin =>
    cases d2 with
    | list ys =>
      have e' : (if (SeqAt.shaped d1 && SeqAt.shaped (.list ys)) = true then some (!ys.any fun z => PyData.eqv z d1) else none) = some c := by cases d1 <;> exact e
      obtain ⟨h1, h2⟩ := ite_some e'
      have h3 := Bool.and_eq_true_iff.mp h1
      exact op_notInD (by omega) pins s σ H _ _ v u Q I rx ry ⟨d1, ys, r1.canLay h3.1, r2.canLay h3.2, h3.1, h3.2, by rw [h2]; exact q⟩
    | tuple ys =>
      have e' : (if (SeqAt.shaped d1 && SeqAt.shaped (.tuple ys)) = true then some (!ys.any fun z => PyData.eqv z d1) else none) = some c := by cases d1 <;> exact e
      obtain ⟨h1, h2⟩ := ite_some e'
      have h3 := Bool.and_eq_true_iff.mp h1
      exact op_notInTD (by omega) pins s σ H _ _ v u Q I rx ry ⟨d1, ys, r1.canLay h3.1, r2.canLay h3.2, h3.1, h3.2, by rw [h2]; exact q⟩
    | str j =>
      cases d1 with
      | str i => cases r1; cases r2; cases e; exact op_notin_str pins s σ H _ _ v u Q I rx ry ⟨i, j, rfl, rfl, q⟩
      | _ => cases e
    | _ => cases d1 <;> cases e

/-! ### truth -/
theorem truV_of {K : Frag} {H : Hp} {x : V} {d : D} {k : Bool} (r : Rep K H x d) (e : truthD d = some k) : TruV K x H k := by
  cases r with
  | non => cases e; rfl
  | bl b => cases e; rfl
  | int i => cases e; rfl
  | str z =>
    obtain ⟨c, e⟩ := ite_some e
    refine ⟨of_decide_eq_true c, e.symm.trans ?_⟩
    rw [Bool.eq_iff_iff]; simp only [bne_iff_ne, ne_eq]; omega
  | lst z r =>
    cases e
    cases r with
    | nil => exact .inl ⟨_, z.sq, rfl⟩
    | cons r t => exact .inl ⟨_, z.sq, rfl⟩
  | tup z r =>
    cases e
    cases r with
    | nil => exact .inr (.inl ⟨_, z, rfl⟩)
    | cons r t => exact .inr (.inl ⟨_, z, rfl⟩)
  | dic _ r => cases e
  | dicT _ r => cases e

/-! ### subscripts -/
theorem atI_rep {K : Frag} {G : Hp} {vs : List V} {ds : List D} {i : Int} {d : D} (r : RepAll K G vs ds) (h : atI ds i = some d) : ∃ v, atI vs i = some v ∧ Rep K G v d := by
  obtain ⟨j, h1, h2⟩ := Option.bind_eq_some_iff.mp (show (ixN ds.length i).bind (fun j => ds[j]?) = some d from h)
  obtain ⟨v, h3, h4⟩ := r.get h2
  exact ⟨v, by show (ixN vs.length i).bind (fun j => vs[j]?) = some v; rw [r.length, h1]; exact h3, h4⟩
theorem ix_d : IxR X (fun x y H Q => ∃ G d1 d2 d, Same G H ∧ Bor X.K H G x d1 ∧ Bor X.K H G y d2 ∧ idxD d1 d2 = some d ∧ Yields X.K G H 0 d Q) := by
  intro value slice pins s σ H x y v u Q I rx ry h hs
  obtain ⟨G, d1, d2, d, gh, b1, b2, e, yl⟩ := h
  cases d2 with
  | int i =>
    obtain rfl := b2.int
    cases d1 with
    | list ds =>
      obtain ⟨a, xs, rfl, ha, ra⟩ := b1.list gh
      obtain ⟨w, h1, h2⟩ := atI_rep ra e
      exact ix_list value slice pins s σ H _ _ v u Q I rx ry ⟨a, xs, i, w, rfl, rfl, ha.sq, h1, yl.old gh h2⟩ hs
    | tuple ds =>
      obtain ⟨a, xs, rfl, ha, ra⟩ := b1.tuple gh
      obtain ⟨w, h1, h2⟩ := atI_rep ra e
      exact ix_tup value slice pins s σ H _ _ v u Q I rx ry ⟨a, xs, i, w, rfl, rfl, ha, h1, yl.old gh h2⟩ hs
    | str z =>
      obtain rfl := b1.str
      have e' : (if sizeOk z.length = true then (atI z.cps.toList i).map (fun c => PyData.str ⟨#[c]⟩) else none) = some d := e
      by_cases hz : sizeOk z.length = true
      · rw [if_pos hz] at e'
        obtain ⟨c, h1, h2⟩ := Option.map_eq_some_iff.mp e'
        subst h2
        exact ix_str value slice pins s σ H _ _ v u Q I rx ry ⟨z, i, c, rfl, rfl, of_decide_eq_true hz, h1, yl.old gh (.str _)⟩ hs
      · rw [if_neg hz] at e'; cases e'
    | _ => cases e
  | _ => cases d1 <;> cases e
theorem sl_d : SlR X (fun x lo hi H Q => ∃ G d1 k d, Same G H ∧ Bor X.K H G x d1 ∧ sliceD lo hi d1 = some (k, d) ∧ Yields X.K G H k d Q) := by
  intro pins s σ H x v vl vu lo hi sl Q I rx hs pl pu h
  obtain ⟨G, d1, k, d, gh, b1, e, yl⟩ := h
  cases d1 with
  | list ds =>
    cases e
    obtain ⟨a, xs, rfl, ha, ra⟩ := b1.list gh
    exact sl_list pins s σ H _ v vl vu lo hi sl Q I rx hs pl pu ⟨a, xs, rfl, ha.sq, fun p hp => yl.lst gh (ra.cut lo hi) p hp⟩
  | tuple ds =>
    cases e
    have r1 : Rep X.K G x (.tuple ds) := by cases b1 with | rep r => exact r
    obtain ⟨a, xs, rfl, ha, ra⟩ := b1.tuple gh
    refine sl_tupA pins s σ H _ v vl vu lo hi sl Q I rx hs pl pu ⟨a, xs, rfl, ha, fun ⟨z1, z2⟩ => ?_, fun _ p hp => yl.tup gh (ra.cut lo hi) p hp⟩
    refine yl.old gh ?_
    have : cutD ds lo hi = ds := by
      unfold cutD
      rw [← ra.length, z1, z2]
      simp [ra.length]
    rw [this]
    exact r1
  | str z =>
    obtain rfl := b1.str
    obtain ⟨c, e⟩ := ite_some e
    cases e
    exact sl_str pins s σ H _ v vl vu lo hi sl Q I rx hs pl pu ⟨z, rfl, of_decide_eq_true c, yl.old gh (.str _)⟩
  | _ => cases e
end
end PV

/-! PV2c: sorted of rows of texts. -/
namespace PV
open PySem PySem.Spec L2 PyProof.Rows
section
variable {prog : Program} {w : World} {A : Around} {E : Value → Shared → Prop} {s : Shared}
theorem collect_tup {l : Addr} {o : Obj} {vs : List Value} {n : Nat} {Q : List Value → Shared → Prop} (ho : s.heap.get? l = some o) (hc : o.cls = .type "tuple") (hd : o.data = .seq vs.toArray n) (hz : vs.length ≤ sizeLine)
    (h : Q vs { s with heap := (s.heap.push (seqObj "list" #[] 0)).update s.heap.objs.size (Obj.mapSeq (· ++ vs.toArray)) }) : wpAny (model prog w) A (collect (.ref l)) Q E s := by
  have new0 : (s.heap.push (seqObj "list" #[] 0)).get? s.heap.objs.size = some (seqObj "list" #[] 0) := Heap.get?_push_size _ rfl
  have old0 : (s.heap.push (seqObj "list" #[] 0)).get? l = some o := Heap.get?_push_of_some _ ho
  unfold collect
  refine wpAny_bind (wpAny_runValue (codeAny_builtin entry_proto_collect' ?_))
  refine wpAny_bind (wpAny_newList (wpAny_pure ⟨Code.quiet_builtin _ (by decide +kernel), ?_⟩))
  refine codeAny_builtin entry_list_iadd' ?_
  show wpAny _ _ (Builtin.List.listExtendWith (.ref s.heap.objs.size) (.ref l) (.ref s.heap.objs.size)) _ _ _
  unfold Builtin.List.listExtendWith
  refine wpAny_bind (wpAny_typeOf (s := { s with heap := s.heap.push (seqObj "list" #[] 0) }) (T := "tuple") ⟨o, old0, hc⟩ ?_)
  rw [if_pos (by rw [Bool.or_eq_true]; exact .inr rfl)]
  refine wpAny_bind (listItems_at old0 hd (wpAny_bind (listItems_at new0 rfl ?_)))
  rw [if_neg (by simp)]
  have hfit : ((#[] : Array Value) ++ vs.toArray).size ≤ sizeLine + 1 := by simpa using Nat.le_succ_of_le hz
  refine wpAny_bind (listUpdate_at new0 rfl ?_ (Nat.zero_le _) hfit)
  refine wpAny_pure (wpAny_bind (wpAny_load (get?_update_seq new0 _) ?_))
  have e : ((#[] : Array Value) ++ vs.toArray).toList = vs := by simp
  show wpAny _ _ (pure ((#[] : Array Value) ++ vs.toArray).toList) Q E _
  rw [e]
  exact wpAny_pure h
/-- sorted of a list or a tuple -/
theorem sorted_any {l : Addr} {o : Obj} {n0 : Nat} {vs : List Value} {ltv : Value → Value → Bool} {Q : Value → Shared → Prop} (O : SrtO.Swo ltv) (ho : s.heap.get? l = some o) (hc : o.cls = .type "list" ∨ o.cls = .type "tuple") (hd : o.data = .seq vs.toArray n0) (hz : vs.length ≤ sizeLine)
    (hS : 2 ≤ vs.length → ∀ (h₁ : Heap) (a : Addr), h₁.get? a = some (seqObj "list" vs.toArray 0) → (∀ b o, s.heap.get? b = some o → b ≠ a ∧ h₁.get? b = some o) → SrtO.SortableO prog w A.in1.in1 { s with heap := h₁ } a vs ltv)
    (h : ∀ out : List Value, SrtO.Srtd ltv out → SrtO.Stb ltv out vs → Q (.ref (s.heap.objs.size + 1)) { s with heap := sortedAll s.heap vs out.toArray }) : wpAny (model prog w) A (call (.builtin "sorted") [.ref l]) Q E s := by
  rcases hc with hc | hc
  · exact SrtO.sorted_ord O ⟨o, ho, hc, n0, hd⟩ hz hS h
  · refine Calls.call_function_entry kind_sorted plain_sorted entry_sorted (args_sorted1 _) ?_
    unfold Builtin.«sorted»
    refine wpAny_bind (m := checkCount "sorted" 1 1 _) (wpAny_pure (wpAny_bind (collect_tup ho hc hd hz (wpAny_bind (wpAny_newList ?_ hz)))))
    generalize hp : (s.heap.push (seqObj "list" #[] 0)).update s.heap.objs.size (Obj.mapSeq (· ++ vs.toArray)) = hq
    have sz : hq.objs.size = s.heap.objs.size + 1 := by rw [← hp, Heap.size_update, size_push']
    have at1 : (hq.push (seqObj "list" vs.toArray 0)).get? (s.heap.objs.size + 1) = some (seqObj "list" vs.toArray 0) := by
      rw [← sz]; exact Heap.get?_push_size _ rfl
    have kp : ∀ b u, s.heap.get? b = some u → b ≠ s.heap.objs.size + 1 ∧ (hq.push (seqObj "list" vs.toArray 0)).get? b = some u := fun b u q => by
      have lt := Heap.lt_size q
      refine ⟨Nat.ne_of_lt (Nat.lt_succ_of_lt lt), Heap.get?_push_of_some _ ?_⟩
      rw [← hp, Heap.get?_update_ne _ _ _ _ (Nat.ne_of_lt lt)]
      exact Heap.get?_push_of_some _ q
    have fin : ∀ out : List Value, SrtO.Srtd ltv out → SrtO.Stb ltv out vs → Q (.ref (s.heap.objs.size + 1)) { s with heap := sortedHeap (hq.push (seqObj "list" vs.toArray 0)) (s.heap.objs.size + 1) vs out.toArray } := fun out a b => by
      have z := h out a b
      unfold sortedAll at z
      rw [hp] at z
      exact z
    show wpAny _ _ _ _ _ { s with heap := hq.push (seqObj "list" vs.toArray 0) }
    rw [sz]
    exact wpAny_bind (wpAny_holding (wpAny_call_entry slot_list_sort ⟨_, at1, rfl⟩ entry_list_sort (SrtO.list_sort_ord O at1 hz (fun h2 => hS h2 _ _ at1 kp) fun out a b => ⟨_, rfl, wpAny_pure ⟨_, rfl, fin out a b⟩⟩) (args_list_sort _)))
end
/-! ### rows of texts, in order -/
theorem ltS_irr (a : Str) : ltS a a = false := decide_eq_false (List.lt_irrefl _)
theorem ltS_asym {a b : Str} (h : ltS a b = true) : ltS b a = false := decide_eq_false (List.lt_asymm (of_decide_eq_true h))
theorem ltS_trans {a b c : Str} (h : ltS a b = true) (g : ltS b c = true) : ltS a c = true := decide_eq_true (List.lt_trans (of_decide_eq_true h) (of_decide_eq_true g))
theorem ltS_tot {a b : Str} (h : ltS a b = false) (g : ltS b a = false) : a = b := by
  have e : a.cps.toList = b.cps.toList := List.le_antisymm (List.not_lt.mp (of_decide_eq_false g)) (List.not_lt.mp (of_decide_eq_false h))
  cases a; cases b
  exact congrArg _ (Array.toList_inj.mp e)
theorem ltL_asym : ∀ {a b : List Str}, ltL a b = true → ltL b a = false
  | [], _ :: _, _ => rfl
  | x :: xs, y :: ys, h => by
    unfold ltL at h ⊢
    by_cases e : x = y
    · subst e
      rw [if_pos rfl] at h ⊢
      exact ltL_asym h
    · rw [if_neg e] at h
      rw [if_neg (Ne.symm e)]
      exact ltS_asym h
theorem ltL_trans : ∀ {a b c : List Str}, ltL a b = true → ltL b c = true → ltL a c = true
  | [], _ :: _, _ :: _, _, _ => rfl
  | x :: xs, y :: ys, z :: zs, h, g => by
    unfold ltL at h g ⊢
    by_cases e1 : x = y
    · subst e1
      rw [if_pos rfl] at h
      by_cases e2 : x = z
      · rw [if_pos e2] at g ⊢
        exact ltL_trans h g
      · rw [if_neg e2] at g ⊢
        exact g
    · rw [if_neg e1] at h
      by_cases e2 : y = z
      · subst e2
        rw [if_neg e1]
        exact h
      · rw [if_neg e2] at g
        have t := ltS_trans h g
        by_cases e3 : x = z
        · subst e3; rw [ltS_irr] at t; cases t
        · rw [if_neg e3]; exact t
  | [], [], c, h, _ => by cases h
  | _ :: _, [], c, h, _ => by cases h
  | [], _ :: _, [], _, g => by cases g
  | _ :: _, _ :: _, [], _, g => by cases g
theorem ltL_tot : ∀ {a b : List Str}, ltL a b = false → ltL b a = false → a = b
  | [], [], _, _ => rfl
  | [], _ :: _, h, _ => by cases h
  | _ :: _, [], _, g => by cases g
  | x :: xs, y :: ys, h, g => by
    unfold ltL at h g
    by_cases e : x = y
    · subst e
      rw [if_pos rfl] at h g
      rw [ltL_tot h g]
    · rw [if_neg e] at h
      rw [if_neg (Ne.symm e)] at g
      exact absurd (ltS_tot h g) e
theorem ltL_swo {α : Type} (k : α → List Str) : SrtO.Swo fun v u => ltL (k v) (k u) := by
  refine ⟨fun x y h => ltL_asym h, fun x y z h1 h2 => ?_⟩
  cases h : ltL (k z) (k x) with
  | false => rfl
  | true =>
    exfalso
    -- z below x, x not above y, y not above z
    cases hxy : ltL (k x) (k y) with
    | true =>
      have t := ltL_trans h hxy
      rw [h2] at t; cases t
    | false =>
      have e := ltL_tot hxy h1
      rw [e, h2] at h
      cases h
/-! ### put in order, one after another -/
section
variable {α : Type} {lt : α → α → Bool}
theorem insBy_perm (x : α) : ∀ l : List α, (insBy lt x l).Perm (x :: l)
  | [] => .refl _
  | y :: ys => by
    unfold insBy
    split
    · exact ((insBy_perm x ys).cons y).trans (.swap _ _ _)
    · exact .refl _
theorem insBy_srtd (O : SrtO.Swo lt) {x : α} : ∀ {l : List α}, SrtO.Srtd lt l → SrtO.Srtd lt (insBy lt x l)
  | [], _ => SrtO.srtd_one x
  | y :: ys, h => by
    unfold insBy
    have hp := List.pairwise_cons.mp h
    split
    · rename_i c
      refine List.pairwise_cons.mpr ⟨fun z hz => ?_, insBy_srtd O hp.2⟩
      rcases List.mem_cons.mp ((insBy_perm x ys).mem_iff.mp hz) with rfl | hz
      · exact O.asym _ _ c
      · exact hp.1 z hz
    · rename_i c
      have c : lt y x = false := by cases e : lt y x with | false => rfl | true => exact absurd e c
      refine List.pairwise_cons.mpr ⟨fun z hz => ?_, h⟩
      rcases List.mem_cons.mp hz with rfl | hz
      · exact c
      · exact O.tr x y z c (hp.1 z hz)
theorem insBy_stb (O : SrtO.Swo lt) (x : α) : ∀ l : List α, SrtO.Stb lt (insBy lt x l) (x :: l)
  | [] => .refl _
  | y :: ys => by
    unfold insBy
    split
    · rename_i c
      have s1 := SrtO.Stb.app (SrtO.Stb.refl (lt := lt) [y]) (insBy_stb O x ys)
      have s2 : SrtO.Stb lt ([y] ++ [x]) ([x] ++ [y]) := SrtO.Stb.swap O fun a ha b hb => by
        rw [List.mem_singleton.mp ha, List.mem_singleton.mp hb]; exact c
      have s3 := SrtO.Stb.app s2 (SrtO.Stb.refl (lt := lt) ys)
      exact SrtO.Stb.trans s1 s3
    · exact .refl _
theorem sortBy_srtd (O : SrtO.Swo lt) : ∀ l : List α, SrtO.Srtd lt (sortBy lt l)
  | [] => List.Pairwise.nil
  | x :: xs => insBy_srtd O (sortBy_srtd O xs)
theorem sortBy_stb (O : SrtO.Swo lt) : ∀ l : List α, SrtO.Stb lt (sortBy lt l) l
  | [] => .refl _
  | x :: xs => (insBy_stb O x _).trans (SrtO.Stb.app (SrtO.Stb.refl [x]) (sortBy_stb O xs))
theorem sortBy_is (O : SrtO.Swo lt) {l out : List α} (h1 : SrtO.Srtd lt out) (h2 : SrtO.Stb lt out l) : out = sortBy lt l := by
  refine SrtO.stb_uniq O h1 (sortBy_srtd O l) (h2.trans ⟨(sortBy_stb O l).perm.symm, fun x => ((sortBy_stb O l).cls x).symm⟩)
end
theorem insBy_rel {α β : Type} {P : α → β → Prop} {l1 : α → α → Bool} {l2 : β → β → Bool} (h : ∀ a b a' b', P a b → P a' b' → l1 a a' = l2 b b') {x : α} {y : β} (hx : P x y) : ∀ {xs : List α} {ys : List β}, Paired P xs ys → Paired P (insBy l1 x xs) (insBy l2 y ys)
  | [], [], _ => .cons hx .nil
  | a :: xs, b :: ys, .cons r t => by
    unfold insBy
    rw [h a b x y r hx]
    split
    · exact .cons r (insBy_rel h hx t)
    · exact .cons hx (.cons r t)
theorem sortBy_rel {α β : Type} {P : α → β → Prop} {l1 : α → α → Bool} {l2 : β → β → Bool} (h : ∀ a b a' b', P a b → P a' b' → l1 a a' = l2 b b') : ∀ {xs : List α} {ys : List β}, Paired P xs ys → Paired P (sortBy l1 xs) (sortBy l2 ys)
  | [], [], _ => .nil
  | a :: xs, b :: ys, .cons r t => insBy_rel h r (sortBy_rel h t)
/-! ### the interpreter's order of such rows -/
def TupS (h : Heap) (v : Value) (zs : List Str) : Prop := ∃ a o xs n, v = .ref a ∧ h.get? a = some o ∧ o.cls = .type "tuple" ∧ o.data = .seq xs n ∧ StrsAre xs.toList zs
theorem TupS.keeps {h h' : Heap} {v : Value} {zs : List Str} (x : TupS h v zs) (k : ∀ b o, h.get? b = some o → o.cls = .type "tuple" → h'.get? b = some o) : TupS h' v zs := by
  obtain ⟨a, o, xs, n, e, ho, hc, hd, r⟩ := x
  exact ⟨a, o, xs, n, e, k _ _ ho hc, hc, hd, r⟩
theorem strsAre_len : ∀ {vs : List Value} {zs : List Str}, StrsAre vs zs → vs.length = zs.length
  | _, _, .nil => rfl
  | _, _, .cons _ _ t => congrArg (· + 1) (strsAre_len t)
section
variable {prog : Program} {w : World} {A : Around} {E : Value → Shared → Prop} {s : Shared}
theorem oneLt_txt (c : Bool) {p q : Str} {t u : Tok} {Q : Bool → Shared → Prop} (h : Q (ltS p q) s) : wpAny (model prog w) A (oneLt' c (.str p t) (.str q u)) Q E s := by
  cases c with
  | true => exact oneLt_str h
  | false => exact PySem.W.kat_one _ _ (PyProof.Rows.lt_str (Q := PySem.W.BoolBack Q) h)
theorem lex_txt {b : Bool} {Q : Bool → Shared → Prop} : ∀ {xs ys : List Value} {zs ws : List Str} (i : Nat), StrsAre xs zs → StrsAre ys ws → ∀ {fin : Bool}, fin = decide (xs.length < ys.length) → Q (ltL zs ws) s → PySem.W.KatLex prog w A b fin Q (xs.zip ys) i s
  | _, _, _, _, i, .nil, .nil, _, hf, h => by subst hf; exact PySem.W.kat_nil h
  | _, _, _, _, i, .nil, .cons _ _ _, _, hf, h => by subst hf; exact PySem.W.kat_nil h
  | _, _, _, _, i, .cons _ _ _, .nil, _, hf, h => by subst hf; exact PySem.W.kat_nil h
  | _, _, _, _, i, .cons p t hx, .cons q u hy, fin, hf, h => by
    refine PySem.W.kat_cons (wpAny_eqBool_str ?_)
    unfold ltL at h
    by_cases e : p = q
    · rw [if_pos e] at h
      rw [decide_eq_true e]
      exact PySem.W.kat_yes (lex_txt (i + 1) hx hy (by rw [hf]; simp) h)
    · rw [if_neg e] at h
      rw [decide_eq_false e]
      exact PySem.W.kat_no (oneLt_txt _ h)
theorem rows_cmp {vs : List Value} {k : Value → List Str} (hp : ∀ v ∈ vs, TupS s.heap v (k v)) : SrtO.Cmp prog w A s (tuples' true) (fun p => p.1 ∈ vs) (SrtO.lt2 fun v u => ltL (k v) (k u)) := by
  intro p q hm hm'
  obtain ⟨a, o, xs, n, e, ho, hc, hd, r⟩ := hp _ hm
  obtain ⟨a', o', xs', n', e', ho', hc', hd', r'⟩ := hp _ hm'
  show wpAny (model prog w) A (keyLt' (tuples' true) p.1 q.1) (fun r s' => s' = s ∧ r = ltL (k p.1) (k q.1)) (fun _ _ => False) s
  rw [e, e'] at *
  refine PySem.W.kat_lt ho hd ho' hd' (lex_txt 0 r r' (by simp) ⟨rfl, rfl⟩)
theorem rows_kind : ∀ {vs : List Value} {k : Value → List Str}, (∀ v ∈ vs, TupS s.heap v (k v) ∧ k v ≠ []) → ∃ fs, PySem.W.KatTups s.heap vs fs ∧ fs.length = vs.length ∧ ∀ f ∈ fs, ∃ x t, f = Value.str x t
  | [], _, _ => ⟨[], PySem.W.KatTups.nil, rfl, fun f hf => (nomatch hf)⟩
  | v :: vs, k, h => by
    obtain ⟨fs, h1, h2, h3⟩ := rows_kind (vs := vs) (k := k) fun u hu => h u (List.mem_cons_of_mem _ hu)
    obtain ⟨⟨a, o, xs, n, rfl, ho, hc, hd, r⟩, hne⟩ := h v List.mem_cons_self
    generalize k (.ref a) = zs at r hne
    obtain ⟨xs⟩ := xs
    cases r with
    | nil => exact absurd rfl hne
    | cons y t r =>
      exact ⟨.str y t :: fs, PySem.W.KatTups.cons ho hc hd rfl h1, congrArg (· + 1) h2, fun f hf => (List.mem_cons.mp hf).elim (fun e => ⟨y, t, e⟩) (h3 f)⟩
theorem rows_sortable {a : Addr} {vs : List Value} {k : Value → List Str} (h0 : 0 < vs.length) (hp : ∀ v ∈ vs, TupS s.heap v (k v) ∧ k v ≠ []) (ha : ∀ o, s.heap.get? a = some o → o.cls ≠ .type "tuple") : SrtO.SortableO prog w A s a vs fun v u => ltL (k v) (k u) := by
  intro h' keep
  have hp' : ∀ v ∈ vs, TupS h' v (k v) ∧ k v ≠ [] := fun v hm => ⟨(hp v hm).1.keeps fun b o e c => keep b o (fun z => by subst z; exact ha o e c) e, (hp v hm).2⟩
  obtain ⟨fs, h1, h2, h3⟩ := rows_kind (s := { s with heap := h' }) hp'
  refine ⟨tuples' true, fun Q E hq => ?_, rows_cmp (s := { s with heap := h' }) fun v hm => (hp' v hm).1⟩
  refine PySem.W.kat_kind (T := .type "str") h1 (by omega) (fun f hm => ?_) (by rfl) ?_
  · obtain ⟨x, t, rfl⟩ := h3 f hm
    exact PySem.W.Looks.now
  · exact hq
end
/-! ### the rule -/
theorem strs_are {K : Frag} {G : Hp} : ∀ {vs : List V} {ds : List D} {zs : List Str} {us : List Value}, RepAll K G vs ds → strsOf ds = some zs → Vals vs us → StrsAre us zs
  | [], [], zs, us, .nil, e, r => by cases e; cases r; exact .nil
  | _, d :: ds, zs, us, .cons q t, e, r => by
    cases d with
    | str x =>
      obtain ⟨l, e1, rfl⟩ := map_some (show (strsOf ds).map (x :: ·) = some zs from e)
      cases q
      cases r with
      | cons rx rt =>
        obtain ⟨tk, rfl⟩ := rx
        exact .cons x tk (strs_are t e1 rt)
    | _ => cases e
theorem isRow_of {d : D} (h : isRow d = true) : ∃ ds zs, d = .tuple ds ∧ strsOf ds = some zs ∧ zs = rowKey d ∧ zs ≠ [] := by
  cases d with
  | tuple ds =>
    have h := Bool.and_eq_true_iff.mp (show ((strsOf ds).isSome && !ds.isEmpty) = true from h)
    obtain ⟨zs, e⟩ := Option.isSome_iff_exists.mp h.1
    refine ⟨ds, zs, rfl, e, ?_, fun z => ?_⟩
    · show zs = (strsOf ds).getD []
      rw [e]; rfl
    · subst z
      cases ds with
      | nil => cases h.2
      | cons x xs => cases x <;> first | cases e; done | (simp [strsOf] at e)
  | _ => cases h
theorem tupS_uniq {h : Heap} {v : Value} {zs ws : List Str} (a : TupS h v zs) (b : TupS h v ws) : zs = ws := by
  obtain ⟨p, o, xs, n, rfl, ho, hc, hd, r⟩ := a
  obtain ⟨p', o', xs', n', e, ho', hc', hd', r'⟩ := b
  cases e
  rw [ho] at ho'; cases ho'
  rw [hd] at hd'; cases hd'
  generalize xs.toList = l at r r'
  clear ho hc hd
  induction r generalizing ws with
  | nil => cases r'; rfl
  | cons y t r ih => cases r' with | cons _ _ r' => rw [ih r']
open Classical in
noncomputable def keyV (h : Heap) (v : Value) : List Str := if q : ∃ zs, TupS h v zs then Classical.choose q else []
theorem keyV_is {h : Heap} {v : Value} {zs : List Str} (a : TupS h v zs) : keyV h v = zs := by
  unfold keyV
  have q : ∃ zs, TupS h v zs := ⟨zs, a⟩
  rw [dif_pos q]
  exact tupS_uniq (Classical.choose_spec q) a
section
variable {X : Cx}
theorem sorted_rows {pins : List (Addr × Obj)} {s : Shared} {σ : L2.St} {H G : Hp} {a : Addr} {xs : List V} {ds : List D} {Q : VK} (I : Inv X pins σ H s) (gh : Same G H) (hl : LsR X.K H a xs ∨ SqT X.K H a xs) (ra : RepAll X.K G xs ds) (hr : ds.all isRow = true)
    (yl : Yields X.K G H 9 (.list (sortBy ltRow ds)) Q) : wpAny (model X.prog X.w) X.A (call (.builtin "sorted") [.ref a]) (EP X pins σ Q) X.xe s := by
  obtain ⟨its, rv, o, n, ho, hc, hd, hz⟩ : ∃ its, Vals xs its ∧ ∃ o n, s.heap.get? a = some o ∧ (o.cls = .type "list" ∨ o.cls = .type "tuple") ∧ o.data = .seq its.toArray n ∧ its.length ≤ sizeLine := by
    rcases hl with hl | hl
    · obtain ⟨z, its, n, r, e, ho⟩ := hl.exact I
      exact ⟨its, r, _, n, ho, .inl rfl, rfl, by rw [← e]; exact z⟩
    · obtain ⟨its, r, ⟨o, ho, hc, n, hd⟩, z⟩ := I.tuple hl
      exact ⟨its, r, o, n, ho, .inr hc, hd, by rw [← r.length]; exact z⟩
  -- each item is a row of texts
  have rel : ∀ {vs : List V} {es : List D} {us : List Value}, RepAll X.K G vs es → es.all isRow = true → Vals vs us → Paired (fun (u : Value) (d : D) => (∃ b, u = .ref b) ∧ TupS s.heap u (rowKey d) ∧ rowKey d ≠ [] ∧ Rep X.K G (backV u) d) us es := by
    intro vs
    induction vs with
    | nil => intro es us r _ q; cases r; cases q; exact .nil
    | cons v vs ih =>
      intro es us r h q
      cases r with
      | cons rd rt =>
        cases q with
        | cons rx rq =>
          have h2 := Bool.and_eq_true_iff.mp h
          obtain ⟨ds', zs, rfl, e1, e2, e3⟩ := isRow_of h2.1
          refine .cons ?_ (ih rt h2.2 rq)
          cases rd with
          | tup t r2 =>
            rename_i b ws
            cases rx
            obtain ⟨its2, r3, ⟨o2, ho2, hc2, n2, hd2⟩, _⟩ := I.tuple (SqT.same gh t)
            refine ⟨⟨b, rfl⟩, ⟨b, o2, _, n2, rfl, ho2, hc2, hd2, ?_⟩, by rw [← e2]; exact e3, .tup t r2⟩
            rw [← e2]
            exact strs_are r2 e1 r3
  have pr := rel ra hr rv
  have mem : ∀ v ∈ its, ∃ d, (∃ b, v = .ref b) ∧ TupS s.heap v (rowKey d) ∧ rowKey d ≠ [] := by
    have key : ∀ {us : List Value} {es : List D}, Paired (fun (u : Value) (d : D) => (∃ b, u = .ref b) ∧ TupS s.heap u (rowKey d) ∧ rowKey d ≠ [] ∧ Rep X.K G (backV u) d) us es → ∀ v ∈ us, ∃ d, (∃ b, v = .ref b) ∧ TupS s.heap v (rowKey d) ∧ rowKey d ≠ [] := by
      intro us
      induction us with
      | nil => intro es _ v hv; cases hv
      | cons u us ih =>
        intro es h v hv
        cases h with
        | cons p t =>
          rcases List.mem_cons.mp hv with rfl | hv
          · exact ⟨_, p.1, p.2.1, p.2.2.1⟩
          · exact ih t v hv
    exact key pr
  have hk : ∀ v ∈ its, TupS s.heap v (keyV s.heap v) ∧ keyV s.heap v ≠ [] := fun v hv => by
    obtain ⟨d, _, h1, h2⟩ := mem v hv
    rw [keyV_is h1]
    exact ⟨h1, h2⟩
  refine sorted_any (ltL_swo (keyV s.heap)) ho hc hd hz (fun h2 h₁ b hb kk => ?_) fun out hs hb => ?_
  · refine rows_sortable (s := { s with heap := h₁ }) (by omega) (fun v hv => ⟨(hk v hv).1.keeps fun b o e _ => (kk b o e).2, (hk v hv).2⟩) fun o e => ?_
    have e' := e.symm.trans hb
    cases e'
    intro z
    exact absurd (Value.type.inj z) (by decide)
  · have eo := sortBy_is (ltL_swo (keyV s.heap)) hs hb
    subst eo
    have pr2 := sortBy_rel (P := fun (u : Value) (d : D) => (∃ b, u = .ref b) ∧ TupS s.heap u (rowKey d) ∧ rowKey d ≠ [] ∧ Rep X.K G (backV u) d) (l1 := fun v u => ltL (keyV s.heap v) (keyV s.heap u)) (l2 := ltRow)
      (fun u d u' d' p p' => by show ltL (keyV s.heap u) (keyV s.heap u') = ltL (rowKey d) (rowKey d'); rw [keyV_is p.2.1, keyV_is p'.2.1]) pr
    generalize sortBy (fun v u => ltL (keyV s.heap v) (keyV s.heap u)) its = out at pr2 hs hb ⊢
    have split2 : ∀ {us : List Value} {es : List D}, Paired (fun (u : Value) (d : D) => (∃ b, u = .ref b) ∧ TupS s.heap u (rowKey d) ∧ rowKey d ≠ [] ∧ Rep X.K G (backV u) d) us es → (∀ u ∈ us, ∃ b, u = Value.ref b) ∧ RepAll X.K G (us.map backV) es := by
      intro us
      induction us with
      | nil => intro es h; cases h; exact ⟨fun _ h => (nomatch h), .nil⟩
      | cons u us ih =>
        intro es h
        cases h with
        | cons p t =>
          obtain ⟨a1, a2⟩ := ih t
          exact ⟨fun v hv => (List.mem_cons.mp hv).elim (fun e => e ▸ p.1) (a1 v), .cons p.2.2.2 a2⟩
    obtain ⟨r1, r2⟩ := split2 pr2
    obtain ⟨e, he⟩ := sortedAll_at s.heap its out.toArray
    have hn : H (s.heap.objs.size + 1) = none := I.hok.fresh (Nat.le_succ _)
    have hlen : (out.map backV).length ≤ sizeLine := by
      rw [List.length_map, hb.perm.length_eq]; exact hz
    refine ⟨.ref (s.heap.objs.size + 1), upd H (s.heap.objs.size + 1) (.lst (out.map backV)), I.laid (t' := s.toks) (fun b o q => sortedAll_old q) (Nat.le_succ _) ⟨hlen, out, e, vals_back r1, he⟩, rfl, ?_⟩
    have yl' : Yields X.K G H (kList (sortBy ltRow ds)) (.list (sortBy ltRow ds)) Q := by
      have ek : kList (sortBy ltRow ds) = 9 := by
        unfold kList
        rw [if_neg]
        intro z
        obtain ⟨d, hd, hc⟩ := List.any_eq_true.mp z
        have hd2 : d ∈ ds := (sortBy_stb (ltL_swo rowKey) ds).perm.mem_iff.mp hd
        obtain ⟨_, _, rfl, _⟩ := isRow_of (List.all_eq_true.mp hr d hd2)
        cases hc
      rw [ek]; exact yl
    exact yl'.lst gh r2 _ hn
end
end PV

/-! PV2b: built-ins, by values. -/
namespace PV
open PySem PySem.Spec L2

def rBlt (K : Frag) (b : Blt) : List V → Hp → VK → Prop := fun vs H Q => ∃ G ds k d, Same G H ∧ BorAll K H G vs ds ∧ blt b ds = some (k, d) ∧ Yields K G H k d Q
theorem sort_is {a l : List Int} (p : a.Perm l) (s : a.Pairwise (· ≤ ·)) : a = sortI l := by
  have s2 := List.pairwise_mergeSort (le := fun a b : Int => decide (a ≤ b)) (fun a b c h1 h2 => by simp at h1 h2 ⊢; omega) (fun a b => by simp; omega) l
  refine List.Perm.eq_of_pairwise (le := (· ≤ ·)) (fun a b _ _ h1 h2 => by omega) s (s2.imp fun h => by simpa using h) (p.trans (List.mergeSort_perm l _).symm)
theorem maxL_spec : ∀ (l : List Int) (i : Int), (maxL i l = i ∨ maxL i l ∈ l) ∧ i ≤ maxL i l ∧ ∀ y ∈ l, y ≤ maxL i l
  | [], i => ⟨.inl rfl, Int.le_refl _, fun _ h => nomatch h⟩
  | x :: l, i => by
    have h := maxL_spec l (if i < x then x else i)
    have e : maxL i (x :: l) = maxL (if i < x then x else i) l := rfl
    rw [e]
    obtain ⟨h1, h2, h3⟩ := h
    by_cases c : i < x
    · rw [if_pos c] at h1 h2 h3 ⊢
      refine ⟨.inr ?_, by omega, fun y hy => ?_⟩
      · rcases h1 with h1 | h1
        · rw [h1]; exact List.mem_cons_self
        · exact List.mem_cons_of_mem _ h1
      · rcases List.mem_cons.mp hy with rfl | hy
        · exact h2
        · exact h3 y hy
    · rw [if_neg c] at h1 h2 h3 ⊢
      refine ⟨h1.imp id (List.mem_cons_of_mem _), h2, fun y hy => ?_⟩
      rcases List.mem_cons.mp hy with rfl | hy
      · omega
      · exact h3 y hy
theorem minL_spec : ∀ (l : List Int) (i : Int), (minL i l = i ∨ minL i l ∈ l) ∧ minL i l ≤ i ∧ ∀ y ∈ l, minL i l ≤ y
  | [], i => ⟨.inl rfl, Int.le_refl _, fun _ h => nomatch h⟩
  | x :: l, i => by
    have h := minL_spec l (if x < i then x else i)
    have e : minL i (x :: l) = minL (if x < i then x else i) l := rfl
    rw [e]
    obtain ⟨h1, h2, h3⟩ := h
    by_cases c : x < i
    · rw [if_pos c] at h1 h2 h3 ⊢
      refine ⟨.inr ?_, by omega, fun y hy => ?_⟩
      · rcases h1 with h1 | h1
        · rw [h1]; exact List.mem_cons_self
        · exact List.mem_cons_of_mem _ h1
      · rcases List.mem_cons.mp hy with rfl | hy
        · exact h2
        · exact h3 y hy
    · rw [if_neg c] at h1 h2 h3 ⊢
      refine ⟨h1.imp id (List.mem_cons_of_mem _), h2, fun y hy => ?_⟩
      rcases List.mem_cons.mp hy with rfl | hy
      · omega
      · exact h3 y hy
theorem max_is {i m : Int} {l : List Int} (h1 : m ∈ i :: l) (h2 : ∀ y, y ∈ i :: l → y ≤ m) : m = maxL i l := by
  obtain ⟨a, b, c⟩ := maxL_spec l i
  have : maxL i l ∈ i :: l := by rcases a with a | a; rw [a]; exact List.mem_cons_self; exact List.mem_cons_of_mem _ a
  have := h2 _ this
  have : m ≤ maxL i l := by
    rcases List.mem_cons.mp h1 with rfl | h1
    · exact b
    · exact c m h1
  omega
theorem min_is {i m : Int} {l : List Int} (h1 : m ∈ i :: l) (h2 : ∀ y, y ∈ i :: l → m ≤ y) : m = minL i l := by
  obtain ⟨a, b, c⟩ := minL_spec l i
  have : minL i l ∈ i :: l := by rcases a with a | a; rw [a]; exact List.mem_cons_self; exact List.mem_cons_of_mem _ a
  have := h2 _ this
  have : minL i l ≤ m := by
    rcases List.mem_cons.mp h1 with rfl | h1
    · exact b
    · exact c m h1
  omega
/-- the built-in's own value -/
def bltV : Blt → Option Value
  | .len => some (.builtin "len")
  | .abs => some (.builtin "abs")
  | .int => some (.type "int")
  | .str => some (.type "str")
  | .tup => some (.type "tuple")
  | .lst => some (.type "list")
  | .sum => some (.builtin "sum")
  | .all => some (.builtin "all")
  | .any => some (.builtin "any")
  | .max1 | .max2 => some (.builtin "max")
  | .min1 | .min2 => some (.builtin "min")
  | .sorted => some (.builtin "sorted")
  | _ => none
section
variable {X : Cx}
theorem Rep.intList {K : Frag} {H : Hp} {v : V} {xs : List D} {l : List Int} (r : Rep K H v (.list xs)) (e : intsOf xs = some l) : ∃ a, v = .ref a ∧ SqL K H a (l.map V.int) := by
  cases r with
  | lst q a =>
    have z := a.ofInts e
    subst z
    exact ⟨_, rfl, q.sq⟩
theorem Rep.blList {K : Frag} {H : Hp} {v : V} {xs : List D} {l : List Bool} (r : Rep K H v (.list xs)) (e : boolsOf xs = some l) : ∃ a, v = .ref a ∧ SqL K H a (l.map V.bl) := by
  cases r with
  | lst q a =>
    have z := a.ofBools e
    subst z
    exact ⟨_, rfl, q.sq⟩
theorem any_ints (l : List Int) : (l.map PyData.int).any isC = false := by
  induction l with
  | nil => rfl
  | cons i l ih => rw [List.map_cons, List.any_cons, ih]; rfl
theorem Yields.ints {K : Frag} {G H : Hp} {l : List Int} {Q : VK} (gh : Same G H) (y : Yields K G H 9 (.list (l.map .int)) Q) (p : Addr) (hp : H p = none) : Q (.ref p) (upd H p (.lst (l.map V.int))) := by
  have e : kList (l.map PyData.int) = 9 := by unfold kList; rw [any_ints]; rfl
  rw [← e] at y
  exact y.lst gh .ints p hp
theorem bind_some {α β : Type} {o : Option α} {f : α → Option β} {b : β} (h : o.bind f = some b) : ∃ a, o = some a ∧ f a = some b := Option.bind_eq_some_iff.mp h
theorem call_blt1 (b : Blt) (f : Value) (hf : bltV b = some f) (hc : X.calm = true) {pins : List (Addr × Obj)} {s : Shared} {σ : L2.St} {H G : Hp} {x : V} {us : List Value} {Q : VK} {d1 : D} {k : Nat} {d : D}
    (I : Inv X pins σ H s) (rv : Vals [x] us) (gh : Same G H) (b1 : Bor X.K H G x d1) (e : blt1 b d1 = some (k, d)) (yl : Yields X.K G H k d Q) : wpAny (model X.prog X.w) X.A (call f us) (EP X pins σ Q) X.xe s := by
  have full := b1.full gh
  cases b with
  | len =>
    cases hf
    cases d1 with
    | list xs =>
      cases e
      obtain ⟨a, vs, rfl, ha, ra⟩ := b1.list gh
      exact call_len_seq pins s σ H _ us Q I rv ⟨a, vs, rfl, .inl ha.sq, by rw [ra.length]; exact yl.old gh (.int _)⟩
    | tuple xs =>
      cases e
      obtain ⟨a, vs, rfl, ha, ra⟩ := b1.tuple gh
      exact call_len_seq pins s σ H _ us Q I rv ⟨a, vs, rfl, .inr ha, by rw [ra.length]; exact yl.old gh (.int _)⟩
    | str z =>
      obtain ⟨c, e⟩ := ite_some e
      cases e
      obtain rfl := b1.str
      exact call_len_str pins s σ H _ us Q I rv ⟨z, rfl, of_decide_eq_true c, yl.old gh (.int _)⟩
    | _ => cases e
  | abs =>
    cases hf
    cases d1 with
    | int i => cases e; obtain rfl := b1.int; exact call_abs pins s σ H _ us Q I rv ⟨i, rfl, yl.old gh (.int _)⟩
    | _ => cases e
  | int =>
    cases hf
    cases d1 with
    | int i => cases e; obtain rfl := b1.int; exact call_int1 pins s σ H _ us Q I rv (.inl ⟨i, rfl, yl.old gh (.int _)⟩)
    | bool i => cases e; obtain rfl := b1.bl; exact call_int1 pins s σ H _ us Q I rv (.inr ⟨i, rfl, yl.old gh (.int _)⟩)
    | str z =>
      have e' : (if decide (z.length ≤ 640) = true then (PySem.intText? z).map (fun n => (0, PyData.int n)) else none) = some (k, d) := e
      by_cases c : decide (z.length ≤ 640) = true
      · rw [if_pos c] at e'
        obtain ⟨n, h1, h2⟩ := map_some e'
        cases h2
        obtain rfl := b1.str
        exact call_int_str pins s σ H _ us Q I rv ⟨z, n, rfl, h1, of_decide_eq_true c, yl.old gh (.int _)⟩
      · rw [if_neg c] at e'; cases e'
    | _ => cases e
  | str =>
    cases hf
    cases d1 with
    | int i =>
      obtain ⟨c, e⟩ := ite_some e
      cases e
      obtain rfl := b1.int
      exact call_str_int pins s σ H _ us Q I rv ⟨i, rfl, of_decide_eq_true c, yl.old gh (.str _)⟩
    | _ => cases e
  | tup =>
    cases hf
    cases d1 with
    | list xs =>
      cases e
      obtain ⟨a, vs, rfl, ha, ra⟩ := b1.list gh
      exact call_tuple_of pins s σ H _ us Q I rv ⟨a, vs, rfl, .inl ⟨ha.sq, fun p hp => yl.tup gh ra p hp⟩⟩
    | tuple xs =>
      cases e
      have r1 : Rep X.K G x (.tuple xs) := by cases b1 with | rep r => exact r
      obtain ⟨a, vs, rfl, ha, ra⟩ := b1.tuple gh
      exact call_tuple_of pins s σ H _ us Q I rv ⟨a, vs, rfl, .inr ⟨ha, yl.old gh r1⟩⟩
    | _ => cases e
  | lst =>
    cases hf
    cases d1 with
    | list xs =>
      cases e
      obtain ⟨a, vs, rfl, ha, ra⟩ := b1.list gh
      exact call_list_of pins s σ H _ us Q I rv ⟨a, vs, rfl, .inl ha.sq, fun p hp => yl.lst gh ra p hp⟩
    | tuple xs =>
      cases e
      obtain ⟨a, vs, rfl, ha, ra⟩ := b1.tuple gh
      exact call_list_of pins s σ H _ us Q I rv ⟨a, vs, rfl, .inr ha, fun p hp => yl.lst gh ra p hp⟩
    | _ => cases e
  | sum =>
    cases hf
    cases d1 with
    | list xs =>
      obtain ⟨l, h1, h2⟩ := map_some e
      cases h2
      obtain ⟨a, rfl, ha⟩ := full.intList h1
      exact cr_sum hc pins s σ H _ us Q I rv ⟨a, l, rfl, ha, yl.old gh (.int _)⟩
    | _ => cases e
  | all =>
    cases hf
    cases d1 with
    | list xs =>
      obtain ⟨l, h1, h2⟩ := map_some e
      cases h2
      obtain ⟨a, rfl, ha⟩ := full.blList h1
      exact cr_all hc pins s σ H _ us Q I rv ⟨a, l, rfl, ha, yl.old gh (.bl _)⟩
    | _ => cases e
  | any =>
    cases hf
    cases d1 with
    | list xs =>
      obtain ⟨l, h1, h2⟩ := map_some e
      cases h2
      obtain ⟨a, rfl, ha⟩ := full.blList h1
      exact cr_any hc pins s σ H _ us Q I rv ⟨a, l, rfl, ha, yl.old gh (.bl _)⟩
    | _ => cases e
  | max1 =>
    cases hf
    cases d1 with
    | list xs =>
      obtain ⟨l, h1, h2⟩ := bind_some e
      obtain ⟨a, rfl, ha⟩ := full.intList h1
      cases l with
      | nil => cases h2
      | cons i r =>
        cases h2
        exact cr_max hc pins s σ H _ us Q I rv ⟨a, i :: r, rfl, ha, Nat.succ_pos _, fun m m1 m2 => by rw [max_is m1 m2]; exact yl.old gh (.int _)⟩
    | _ => cases e
  | min1 =>
    cases hf
    cases d1 with
    | list xs =>
      obtain ⟨l, h1, h2⟩ := bind_some e
      obtain ⟨a, rfl, ha⟩ := full.intList h1
      cases l with
      | nil => cases h2
      | cons i r =>
        cases h2
        exact cr_min hc pins s σ H _ us Q I rv ⟨a, i :: r, rfl, ha, Nat.succ_pos _, fun m m1 m2 => by rw [min_is m1 m2]; exact yl.old gh (.int _)⟩
    | _ => cases e
  | sorted =>
    cases hf
    cases d1 with
    | list xs =>
      by_cases c : (!xs.isEmpty && xs.all isRow) = true
      · have e : (if (!xs.isEmpty && xs.all isRow) = true then some (9, PyData.list (sortBy ltRow xs)) else (intsOf xs).map fun l => (9, .list ((sortI l).map .int))) = some (k, d) := e
        rw [if_pos c] at e
        cases e
        obtain ⟨a, vs, rfl, ha, ra⟩ := b1.list gh
        obtain ⟨u, rfl, ru⟩ := vals1 rv
        cases ru
        exact sorted_rows I gh (.inl ha) ra (Bool.and_eq_true_iff.mp c).2 yl
      · have e : (if (!xs.isEmpty && xs.all isRow) = true then some (9, PyData.list (sortBy ltRow xs)) else (intsOf xs).map fun l => (9, .list ((sortI l).map .int))) = some (k, d) := e
        rw [if_neg c] at e
        obtain ⟨l, h1, h2⟩ := map_some e
        cases h2
        obtain ⟨a, rfl, ha⟩ := full.intList h1
        refine cr_sortedI pins s σ H _ us Q I rv ⟨a, l, rfl, ha, fun ns p pm so hp => ?_⟩
        rw [sort_is pm so]
        exact yl.ints gh p hp
    | tuple xs =>
      have e : (if xs.all isRow = true then some (9, PyData.list (sortBy ltRow xs)) else none) = some (k, d) := e
      by_cases c : xs.all isRow = true
      · rw [if_pos c] at e
        cases e
        obtain ⟨a, vs, rfl, ha, ra⟩ := b1.tuple gh
        obtain ⟨u, rfl, ru⟩ := vals1 rv
        cases ru
        exact sorted_rows I gh (.inr ha) ra c yl
      · rw [if_neg c] at e; cases e
    | _ => cases e
  | _ => cases d1 <;> cases e
theorem call_blt2 (b : Blt) (f : Value) (hf : bltV b = some f) (hc : X.calm = true) {pins : List (Addr × Obj)} {s : Shared} {σ : L2.St} {H G : Hp} {x y : V} {us : List Value} {Q : VK} {d1 d2 : D} {k : Nat} {d : D}
    (I : Inv X pins σ H s) (rv : Vals [x, y] us) (gh : Same G H) (b1 : Bor X.K H G x d1) (b2 : Bor X.K H G y d2) (e : blt2 b d1 d2 = some (k, d)) (yl : Yields X.K G H k d Q) : wpAny (model X.prog X.w) X.A (call f us) (EP X pins σ Q) X.xe s := by
  cases b with
  | max2 =>
    cases hf
    cases d1 with
    | int i =>
      cases d2 with
      | int j => cases e; obtain rfl := b1.int; obtain rfl := b2.int; exact call_max2 hc pins s σ H _ us Q I rv ⟨i, j, rfl, yl.old gh (.int _)⟩
      | _ => cases e
    | _ => cases d2 <;> cases e
  | min2 =>
    cases hf
    cases d1 with
    | int i =>
      cases d2 with
      | int j => cases e; obtain rfl := b1.int; obtain rfl := b2.int; exact call_min2 hc pins s σ H _ us Q I rv ⟨i, j, rfl, yl.old gh (.int _)⟩
      | _ => cases e
    | _ => cases d2 <;> cases e
  | split => cases hf
  | partition => cases hf
  | join => cases hf
  | _ => cases d1 <;> cases d2 <;> cases e
theorem call_blt (b : Blt) (f : Value) (hf : bltV b = some f) (hc : X.calm = true) : CallR X f (rBlt X.K b) := by
  intro pins s σ H vs us Q I rv h
  obtain ⟨G, ds, k, d, gh, ba, e, yl⟩ := h
  cases ba with
  | nil => cases b <;> cases e
  | cons r t =>
    cases t with
    | nil => exact call_blt1 b f hf hc I rv gh r e yl
    | cons r2 t =>
      cases t with
      | nil => exact call_blt2 b f hf hc I rv gh r r2 e yl
      | cons r3 t => cases b <;> cases e
/-! ### methods of texts -/
def strM : Blt → Option (Str × String)
  | .split => some ("split", "str.split")
  | .partition => some ("partition", "str.partition")
  | .join => some ("join", "str.join")
  | _ => none
theorem meth_blt (b : Blt) (nm : Str) (id : String) (hb : strM b = some (nm, id)) : MtR X id (fun x xs H Q => ∃ G d1 d2 y k d, Same G H ∧ xs = [y] ∧ Bor X.K H G x d1 ∧ Bor X.K H G y d2 ∧ blt2 b d1 d2 = some (k, d) ∧ Yields X.K G H k d Q) := by
  intro pins s σ H x xs v us Q I rx rxs h
  obtain ⟨G, d1, d2, y, k, d, gh, rfl, b1, b2, e, yl⟩ := h
  cases b with
  | split =>
    cases hb
    cases d1 with
    | str a =>
      cases d2 with
      | str b =>
        obtain ⟨c, e⟩ := ite_some e
        have c := Bool.and_eq_true_iff.mp c
        cases e
        obtain rfl := b1.str; obtain rfl := b2.str
        refine mt_split pins s σ H _ _ v us Q I rx rxs ⟨a, b, rfl, rfl, by simpa using c.1, of_decide_eq_true c.2, fun p hp => ?_⟩
        have e : kList ((Txt.split a b).map PyData.str) = 9 := by
          unfold kList
          rw [if_neg (by rw [List.any_map]; intro z; obtain ⟨q, _, h⟩ := List.any_eq_true.mp z; cases h)]
        rw [← e] at yl
        refine yl.lst gh ?_ p hp
        generalize Txt.split a b = l
        induction l with
        | nil => exact .nil
        | cons q l ih => exact .cons (.str q) ih
      | _ => cases e
    | _ => cases d2 <;> cases e
  | partition =>
    cases hb
    cases d1 with
    | str a =>
      cases d2 with
      | str b =>
        obtain ⟨c, e⟩ := ite_some e
        have c := Bool.and_eq_true_iff.mp c
        cases e
        obtain rfl := b1.str; obtain rfl := b2.str
        exact mt_partition pins s σ H _ _ v us Q I rx rxs ⟨a, b, rfl, rfl, by simpa using c.1, of_decide_eq_true c.2, fun p hp => yl.tup gh (.cons (.str _) (.cons (.str _) (.cons (.str _) .nil))) p hp⟩
      | _ => cases e
    | _ => cases d2 <;> cases e
  | join =>
    cases hb
    cases d1 with
    | str a =>
      obtain rfl := b1.str
      cases d2 with
      | list xs =>
        obtain ⟨ys, h1, e⟩ := bind_some e
        obtain ⟨c, e⟩ := ite_some e
        cases e
        obtain ⟨p, vs, rfl, hp, ra⟩ := b2.list gh
        have z := ra.ofStrs h1
        subst z
        exact mt_join pins s σ H _ _ v us Q I rx rxs ⟨a, p, ys, rfl, rfl, .inl hp.sq, of_decide_eq_true c, yl.old gh (.str _)⟩
      | tuple xs =>
        obtain ⟨ys, h1, e⟩ := bind_some e
        obtain ⟨c, e⟩ := ite_some e
        cases e
        obtain ⟨p, vs, rfl, hp, ra⟩ := b2.tuple gh
        have z := ra.ofStrs h1
        subst z
        exact mt_join pins s σ H _ _ v us Q I rx rxs ⟨a, p, ys, rfl, rfl, .inr hp, of_decide_eq_true c, yl.old gh (.str _)⟩
      | _ => cases e
    | _ => cases d2 <;> cases e
  | _ => cases hb
end
end PV

/-! PV3a: the state's lemmas: values used. -/
namespace PV
open PySem PySem.Spec L2

section
variable {K : Frag} {F B H H' G G' : Hp} {T U R : List Root} {fp : List Addr} {v : V} {k : Nat} {d : D} {σ : L2.St} {ρ ρ' : SEnv}

theorem OwnT.mem : ∀ {T : List Root} {fp : List Addr}, OwnT K H G T fp → ∀ {v : V} {k : Nat} {d : D}, (v, k, d) ∈ T → ∃ f, Own K H G k v d f
  | _, _, .cons r t, v, k, d, h => by
    rcases List.mem_cons.mp h with e | h
    · cases e; exact ⟨_, r⟩
    · exact OwnT.mem t h
theorem RootsG.bor (r : RootsG K F B H T G fp) (h : (v, k, d) ∈ T) (hk : k ≤ 1) : Bor K H G v d := by
  obtain ⟨f, o⟩ := r.own.mem h
  exact o.bor hk
theorem RootsG.rep0 (r : RootsG K F B H T G fp) (h : (v, 0, d) ∈ T) : Rep K G v d := by
  obtain ⟨f, o⟩ := r.own.mem h
  exact o.zero.2
theorem RootsG.drop (r : RootsG K F B H ((v, k, d) :: T) G fp) : ∃ f, RootsG K F B H T G f := by
  obtain ⟨fg, gh, bh, nd, out, bg, own⟩ := r
  cases own with
  | cons o t => exact ⟨_, fg, gh, bh, (List.nodup_append.mp nd).2.1, fun a h => out a (List.mem_append_right _ h), bg, t⟩
theorem RootsG.dropL : ∀ {S : List Root} {fp : List Addr}, RootsG K F B H (S ++ T) G fp → ∃ f, RootsG K F B H T G f
  | [], fp, r => ⟨fp, r⟩
  | _ :: S, fp, r => by
    obtain ⟨f, r⟩ := RootsG.drop r
    exact RootsG.dropL (S := S) r
theorem perm_swap3 {α : Type} (a b c : List α) : (a ++ (b ++ c)).Perm (b ++ (a ++ c)) := by
  rw [← List.append_assoc, ← List.append_assoc]
  exact List.perm_append_comm.append_right _
theorem Roots.map1 {f : Root → Root} (hf : ∀ T x, Roots K F B H (x :: T) → Roots K F B H (f x :: T)) : ∀ {U T : List Root}, Roots K F B H (U ++ T) → Roots K F B H (U.map f ++ T)
  | [], _, r => r
  | x :: U, T, r => by
    have r1 : Roots K F B H (f x :: (U ++ T)) := hf _ _ r
    have r2 : Roots K F B H (U ++ (f x :: T)) := r1.perm (List.perm_middle.symm)
    have r3 := Roots.map1 hf (U := U) r2
    exact r3.perm List.perm_middle
def f0 (x : Root) : Root := (x.1, 0, x.2.2)
theorem Roots.freezeL (r : Roots K F B H (U ++ T)) : Roots K F B H (U.map f0 ++ T) := Roots.map1 (f := f0) (fun _ x r => by obtain ⟨v, k, d⟩ := x; exact r.freeze) r
/-- on what stands behind the slots -/
theorem StR.behind (s : StR K F B H σ ρ T) (h : ∀ S, Roots K F B H (T ++ S) → Roots K F B H' (U ++ S)) : StR K F B H' σ ρ U :=
  ⟨s.fit, (h _ (s.own.perm List.perm_append_comm)).perm List.perm_append_comm⟩
theorem StR.freezeL (s : StR K F B H σ ρ (U ++ T)) : StR K F B H σ ρ (U.map f0 ++ T) := s.behind fun S r => by
  rw [List.append_assoc] at r ⊢
  exact r.freezeL
theorem Roots.reflat {j : Nat} (c : isC d = false) (r : Roots K F B H ((v, k, d) :: T)) : Roots K F B H ((v, j, d) :: T) := by
  obtain ⟨G, fp, fg, gh, bh, nd, out, bg, own⟩ := r
  cases own with
  | cons o t =>
    have key : ∀ {f : List Addr}, Own K H G k v d f → f = [] ∧ Rep K G v d := by
      intro f o
      cases o with
      | frz r => exact ⟨rfl, r⟩
      | flat r _ => exact ⟨rfl, r⟩
      | lst _ _ => cases c
      | dic _ _ => cases c
      | dicT _ _ => cases c
    obtain ⟨e, r⟩ := key o
    subst e
    refine ⟨G, _, fg, gh, bh, nd, out, bg, .cons (f1 := []) ?_ t⟩
    cases j with
    | zero => exact .frz r
    | succ j => exact .flat r c

/-! ### slots -/
theorem slot_mem {i : Nat} (h1 : σ[i]? = some (some v)) (h2 : ρ[i]? = some (some (k, d))) : (v, k, d) ∈ slotsT σ ρ := (slotsT_take h1 h2).mem_iff.mpr List.mem_cons_self
/-- a slot's level is let down -/
theorem StR.lowSlot {i j : Nat} (s : StR K F B H σ ρ T) (h : ρ[i]? = some (some (k, d))) (hj : j ≤ k) : StR K F B H σ (ρ.set i (some (j, d))) T := by
  obtain ⟨v, hv⟩ := s.fit.get h
  have hi : i < ρ.length := (List.getElem?_eq_some_iff.mp h).1
  have hs : i < σ.length := (List.getElem?_eq_some_iff.mp hv).1
  refine ⟨s.fit.setR i h, ?_⟩
  have p1 := (slotsT_take hv h).append_right T
  have r1 : Roots K F B H ((v, k, d) :: (slotsT σ (ρ.set i none) ++ T)) := s.own.perm p1
  have r2 := r1.lower hj
  have e : σ.set i (some v) = σ := by
    apply List.ext_getElem? 
    intro n
    by_cases hn : n = i
    · subst hn; rw [List.getElem?_set_self hs, hv]
    · rw [List.getElem?_set_ne (Ne.symm hn)]
  have p2 := (slotsT_put (σ := σ) (ρ := ρ) (v := v) (k := j) (d := d) hs hi).append_right T
  rw [e] at p2
  exact r2.perm p2.symm
theorem slot_keep {i : Nat} (h : ρ[i]? = some (some (k, d))) (fit : Fits σ ρ) {x : V} {e : D} {j : Nat} (hj : j ≤ 1) (m : (x, j, e) ∈ slotsT σ ρ) : (x, j, e) ∈ slotsT σ (ρ.set i (some (min k 1, d))) := by
  obtain ⟨v, hv⟩ := fit.get h
  have hi : i < ρ.length := (List.getElem?_eq_some_iff.mp h).1
  have hs : i < σ.length := (List.getElem?_eq_some_iff.mp hv).1
  have es : σ.set i (some v) = σ := by
    apply List.ext_getElem? 
    intro n
    by_cases hn : n = i
    · subst hn; rw [List.getElem?_set_self hs, hv]
    · rw [List.getElem?_set_ne (Ne.symm hn)]
  have p2 := slotsT_put (σ := σ) (ρ := ρ) (v := v) (k := min k 1) (d := d) hs hi
  rw [es] at p2
  refine p2.mem_iff.mpr ?_
  rcases List.mem_cons.mp ((slotsT_take hv h).mem_iff.mp m) with e1 | m
  · cases e1
    rw [Nat.min_eq_left hj]
    exact List.mem_cons_self
  · exact List.mem_cons_of_mem _ m

/-! ### values at hand -/
def pushT (t : TV) (v : V) (T : List Root) : List Root := match t with
  | .pv k d => (v, k, d) :: T
  | .var _ => T
def VarR (σ : L2.St) (t : TV) (v : V) : Prop := match t with
  | .pv _ _ => True
  | .var i => σ[i]? = some (some v)
inductive VarRs (σ : L2.St) : List TV → List V → Prop
  | nil : VarRs σ [] []
  | cons {t : TV} {v : V} {ts : List TV} {vs : List V} : VarR σ t v → VarRs σ ts vs → VarRs σ (t :: ts) (v :: vs)
def pushAll : List TV → List V → List Root → List Root
  | t :: ts, v :: vs, T => pushAll ts vs (pushT t v T)
  | _, _, T => T
theorem pushAll_split : ∀ (ts : List TV) (vs : List V) (T : List Root), pushAll ts vs T = pushAll ts vs [] ++ T
  | [], _, _ => rfl
  | _ :: _, [], _ => rfl
  | t :: ts, v :: vs, T => by
    show pushAll ts vs (pushT t v T) = pushAll ts vs (pushT t v []) ++ T
    rw [pushAll_split ts vs (pushT t v T), pushAll_split ts vs (pushT t v []), List.append_assoc]
    cases t <;> rfl
theorem pushAll_mem : ∀ {ts : List TV} {vs : List V} {T : List Root} {x : Root}, x ∈ T → x ∈ pushAll ts vs T
  | [], _, _, _, h => h
  | _ :: _, [], _, _, h => h
  | t :: ts, v :: vs, T, x, h => pushAll_mem (ts := ts) (by cases t; exact List.mem_cons_of_mem _ h; exact h)

/-- each of the values is looked at -/
inductive Seen (R : List Root) : List V → List D → Prop
  | nil : Seen R [] []
  | cons {v : V} {d : D} {k : Nat} {vs : List V} {ds : List D} : k ≤ 1 → (v, k, d) ∈ R → Seen R vs ds → Seen R (v :: vs) (d :: ds)
theorem Seen.mono {R R' : List Root} (h : ∀ x j e, j ≤ 1 → (x, j, e) ∈ R → (x, j, e) ∈ R') : ∀ {vs : List V} {ds : List D}, Seen R vs ds → Seen R' vs ds
  | _, _, .nil => .nil
  | _, _, .cons hk m t => .cons hk (h _ _ _ hk m) (Seen.mono h t)
theorem Seen.bor (r : RootsG K F B H R G fp) : ∀ {vs : List V} {ds : List D}, Seen R vs ds → BorAll K H G vs ds
  | _, _, .nil => .nil
  | _, _, .cons hk m t => .cons (r.bor m hk) (Seen.bor r t)
theorem M.bind_ok {α β : Type} {m : M α} {f : α → M β} {ρ ρ' : SEnv} {b : β} (h : m.bind f ρ = .ok b ρ') : ∃ a ρ1, m ρ = .ok a ρ1 ∧ f a ρ1 = .ok b ρ' := by
  unfold M.bind at h
  cases e : m ρ with
  | ok a ρ1 => rw [e] at h; exact ⟨a, ρ1, rfl, h⟩
  | ex x ρ1 => rw [e] at h; cases h
  | no => rw [e] at h; cases h
theorem bor_ok {t : TV} (s : StR K F B H σ ρ T) (vr : VarR σ t v) (ht : ∀ k d, t = .pv k d → (v, 0, d) ∈ T) (h : bor t ρ = .ok d ρ') :
    StR K F B H σ ρ' T ∧ (∃ k, k ≤ 1 ∧ (v, k, d) ∈ slotsT σ ρ' ++ T) ∧ ∀ x j e, j ≤ 1 → (x, j, e) ∈ slotsT σ ρ ++ T → (x, j, e) ∈ slotsT σ ρ' ++ T := by
  cases t with
  | pv k d' =>
    cases h
    exact ⟨s, ⟨0, Nat.zero_le _, List.mem_append_right _ (ht _ _ rfl)⟩, fun _ _ _ _ m => m⟩
  | var i =>
    have h' : (match ρ[i]? with | some (some (k, d)) => RE.ok d (ρ.set i (some (min k 1, d))) | _ => .no) = .ok d ρ' := h
    cases e : ρ[i]? with
    | none => rw [e] at h'; cases h'
    | some o =>
      cases o with
      | none => rw [e] at h'; cases h'
      | some x =>
        obtain ⟨k, d'⟩ := x
        rw [e] at h'
        cases h'
        have s' := s.lowSlot e (Nat.min_le_left k 1)
        refine ⟨s', ⟨min k 1, Nat.min_le_right k 1, List.mem_append_left _ (slot_mem vr (List.getElem?_set_self (List.getElem?_eq_some_iff.mp e).1))⟩, fun x j e1 hj m => ?_⟩
        rcases List.mem_append.mp m with m | m
        · exact List.mem_append_left _ (slot_keep e s.fit hj m)
        · exact List.mem_append_right _ m
theorem bors_ok : ∀ {ts : List TV} {vs : List V} {ds : List D} {ρ : SEnv}, StR K F B H σ ρ T → VarRs σ ts vs → (∀ x ∈ pushAll ts vs [], f0 x ∈ T) → bors ts ρ = .ok ds ρ' →
    StR K F B H σ ρ' T ∧ Seen (slotsT σ ρ' ++ T) vs ds ∧ ∀ x j e, j ≤ 1 → (x, j, e) ∈ slotsT σ ρ ++ T → (x, j, e) ∈ slotsT σ ρ' ++ T
  | [], [], ds, ρ, s, _, _, h => by cases h; exact ⟨s, .nil, fun _ _ _ _ m => m⟩
  | t :: ts, v :: vs, ds, ρ, s, .cons vr vrs, ht, h => by
    obtain ⟨d, ρ1, h1, h⟩ := M.bind_ok h
    obtain ⟨es, ρ2, h2, h⟩ := M.bind_ok h
    cases h
    obtain ⟨s1, ⟨k, hk, m1⟩, keep1⟩ := bor_ok s vr (fun k d e => by
      subst e
      exact ht (v, k, d) (pushAll_mem (ts := ts) (vs := vs) (by exact List.mem_cons_self))) h1
    obtain ⟨s2, sn, keep2⟩ := bors_ok s1 vrs (fun x hx => ht x (by
      show x ∈ pushAll ts vs (pushT t v [])
      rw [pushAll_split]
      exact List.mem_append_left _ hx)) h2
    exact ⟨s2, .cons hk (keep2 _ _ _ hk m1) sn, fun x j e hj m => keep2 _ _ _ hj (keep1 _ _ _ hj m)⟩
/-- the values at hand, looked at; they are let go -/
theorem bors_use {ts : List TV} {vs : List V} {ds : List D} (s : StR K F B H σ ρ (pushAll ts vs T)) (vr : VarRs σ ts vs) (h : bors ts ρ = .ok ds ρ') :
    ∃ G fp, Fits σ ρ' ∧ RootsG K F B H (slotsT σ ρ' ++ T) G fp ∧ BorAll K H G vs ds := by
  rw [pushAll_split] at s
  obtain ⟨s1, sn, _⟩ := bors_ok s.freezeL vr (fun x hx => List.mem_append_left _ (List.mem_map.mpr ⟨x, hx, rfl⟩)) h
  obtain ⟨G, fp, r⟩ := s1.own
  have ba := Seen.bor r sn
  obtain ⟨f2, r2⟩ := r.perm (T' := (pushAll ts vs []).map f0 ++ (slotsT σ ρ' ++ T)) (perm_swap3 _ _ _)
  obtain ⟨f3, r3⟩ := r2.dropL
  exact ⟨G, f3, s1.fit, r3, ba⟩
theorem yield_of (fit : Fits σ ρ) (r : RootsG K F B H (slotsT σ ρ ++ T) G fp) {Q : VK} (h : ∀ v H', StR K F B H' σ ρ ((v, k, d) :: T) → Q v H') : Yields K G H k d Q := fun v G' H' f x o nd hf =>
  h v H' ⟨fit, Roots.perm ⟨G', _, r.push x o nd hf⟩ List.perm_middle.symm⟩

/-! ### frozen -/
theorem frz_ok {io : List Nat} {t : TV} (s : StR K F B H σ ρ T) (vr : VarR σ t v) (ht : ∀ k d, t = .pv k d → (v, 0, d) ∈ T) (h : frz io t ρ = .ok d ρ') :
    StR K F B H σ ρ' T ∧ (v, 0, d) ∈ slotsT σ ρ' ++ T ∧ (∀ x e, (x, 0, e) ∈ slotsT σ ρ ++ T → (x, 0, e) ∈ slotsT σ ρ' ++ T) ∧ ∀ i ∈ io, ρ'[i]? = ρ[i]? := by
  cases t with
  | pv k d' =>
    cases h
    exact ⟨s, List.mem_append_right _ (ht _ _ rfl), fun _ _ m => m, fun _ _ => rfl⟩
  | var i =>
    have h' : (match ρ[i]? with | some (some (_, d)) => if io.contains i = true then RE.no else RE.ok d (ρ.set i (some (0, d))) | _ => .no) = .ok d ρ' := h
    cases e : ρ[i]? with
    | none => rw [e] at h'; cases h'
    | some o =>
      cases o with
      | none => rw [e] at h'; cases h'
      | some x =>
        obtain ⟨k, d'⟩ := x
        rw [e] at h'
        simp only at h'
        by_cases hc : io.contains i = true
        · rw [if_pos hc] at h'; cases h'
        rw [if_neg hc] at h'
        cases h'
        have s' := s.lowSlot e (Nat.zero_le k)
        refine ⟨s', List.mem_append_left _ (slot_mem vr (List.getElem?_set_self (List.getElem?_eq_some_iff.mp e).1)), fun x e1 m => ?_, fun j hj => ?_⟩
        · rcases List.mem_append.mp m with m | m
          · refine List.mem_append_left _ ?_
            -- a frozen slot stays
            obtain ⟨v', hv⟩ := s.fit.get e
            have hi : i < ρ.length := (List.getElem?_eq_some_iff.mp e).1
            have hs : i < σ.length := (List.getElem?_eq_some_iff.mp hv).1
            have es : σ.set i (some v') = σ := by
              apply List.ext_getElem? 
              intro n
              by_cases hn : n = i
              · subst hn; rw [List.getElem?_set_self hs, hv]
              · rw [List.getElem?_set_ne (Ne.symm hn)]
            have p2 := slotsT_put (σ := σ) (ρ := ρ) (v := v') (k := 0) (d := d) hs hi
            rw [es] at p2
            refine p2.mem_iff.mpr ?_
            rcases List.mem_cons.mp ((slotsT_take hv e).mem_iff.mp m) with e2 | m
            · cases e2; exact List.mem_cons_self
            · exact List.mem_cons_of_mem _ m
          · exact List.mem_append_right _ m
        · have : j ≠ i := fun z => by subst z; exact hc (List.contains_iff_mem.mpr hj)
          exact List.getElem?_set_ne (Ne.symm this)
inductive Froz (R : List Root) : List V → List D → Prop
  | nil : Froz R [] []
  | cons {v : V} {d : D} {vs : List V} {ds : List D} : (v, 0, d) ∈ R → Froz R vs ds → Froz R (v :: vs) (d :: ds)
theorem Froz.mono {R R' : List Root} (h : ∀ x e, (x, 0, e) ∈ R → (x, 0, e) ∈ R') : ∀ {vs : List V} {ds : List D}, Froz R vs ds → Froz R' vs ds
  | _, _, .nil => .nil
  | _, _, .cons m t => .cons (h _ _ m) (Froz.mono h t)
theorem Froz.rep (r : RootsG K F B H R G fp) : ∀ {vs : List V} {ds : List D}, Froz R vs ds → RepAll K G vs ds
  | _, _, .nil => .nil
  | _, _, .cons m t => .cons (r.rep0 m) (Froz.rep r t)
theorem frzs_ok {io : List Nat} : ∀ {ts : List TV} {vs : List V} {ds : List D} {ρ : SEnv}, StR K F B H σ ρ T → VarRs σ ts vs → (∀ x ∈ pushAll ts vs [], f0 x ∈ T) → frzs io ts ρ = .ok ds ρ' →
    StR K F B H σ ρ' T ∧ Froz (slotsT σ ρ' ++ T) vs ds ∧ ∀ x e, (x, 0, e) ∈ slotsT σ ρ ++ T → (x, 0, e) ∈ slotsT σ ρ' ++ T
  | [], [], ds, ρ, s, _, _, h => by cases h; exact ⟨s, .nil, fun _ _ m => m⟩
  | t :: ts, v :: vs, ds, ρ, s, .cons vr vrs, ht, h => by
    obtain ⟨d, ρ1, h1, h⟩ := M.bind_ok h
    obtain ⟨es, ρ2, h2, h⟩ := M.bind_ok h
    cases h
    obtain ⟨s1, m1, keep1, _⟩ := frz_ok s vr (fun k d e => by
      subst e
      exact ht (v, k, d) (pushAll_mem (ts := ts) (vs := vs) (by exact List.mem_cons_self))) h1
    obtain ⟨s2, sn, keep2⟩ := frzs_ok s1 vrs (fun x hx => ht x (by
      show x ∈ pushAll ts vs (pushT t v [])
      rw [pushAll_split]
      exact List.mem_append_left _ hx)) h2
    exact ⟨s2, .cons (keep2 _ _ m1) sn, fun x e m => keep2 _ _ (keep1 _ _ m)⟩
theorem frzs_use {io : List Nat} {ts : List TV} {vs : List V} {ds : List D} (s : StR K F B H σ ρ (pushAll ts vs T)) (vr : VarRs σ ts vs) (h : frzs io ts ρ = .ok ds ρ') :
    ∃ G fp, Fits σ ρ' ∧ RootsG K F B H (slotsT σ ρ' ++ T) G fp ∧ RepAll K G vs ds := by
  rw [pushAll_split] at s
  obtain ⟨s1, sn, _⟩ := frzs_ok s.freezeL vr (fun x hx => List.mem_append_left _ (List.mem_map.mpr ⟨x, hx, rfl⟩)) h
  obtain ⟨G, fp, r⟩ := s1.own
  have ba := Froz.rep r sn
  obtain ⟨f2, r2⟩ := r.perm (T' := (pushAll ts vs []).map f0 ++ (slotsT σ ρ' ++ T)) (perm_swap3 _ _ _)
  obtain ⟨f3, r3⟩ := r2.dropL
  exact ⟨G, f3, s1.fit, r3, ba⟩
/-- one value, frozen and held -/
theorem frz_hold {io : List Nat} {t : TV} (s : StR K F B H σ ρ (pushT t v T)) (vr : VarR σ t v) (h : frz io t ρ = .ok d ρ') : StR K F B H σ ρ' ((v, 0, d) :: T) := by
  cases t with
  | pv k d' =>
    cases h
    exact s.behind fun S r => r.freeze
  | var i =>
    obtain ⟨s1, m, _, _⟩ := frz_ok (T := T) s vr (fun _ _ e => nomatch e) h
    have h' : (match ρ[i]? with | some (some (_, d)) => if io.contains i = true then RE.no else RE.ok d (ρ.set i (some (0, d))) | _ => .no) = .ok d ρ' := h
    have key : ρ'[i]? = some (some (0, d)) := by
      cases e : ρ[i]? with
      | none => rw [e] at h'; cases h'
      | some o =>
        cases o with
        | none => rw [e] at h'; cases h'
        | some x =>
          obtain ⟨k, d'⟩ := x
          rw [e] at h'
          simp only at h'
          by_cases hc : io.contains i = true
          · rw [if_pos hc] at h'; cases h'
          rw [if_neg hc] at h'
          cases h'
          exact List.getElem?_set_self (List.getElem?_eq_some_iff.mp e).1
    refine ⟨s1.fit, ?_⟩
    have p := (slotsT_take (σ := σ) vr key).append_right T
    have r1 := (s1.own.perm p).dup
    have r2 : Roots K F B H ((v, 0, d) :: (slotsT σ ρ' ++ T)) := r1.perm (List.Perm.cons _ p.symm)
    exact r2.perm List.perm_middle.symm
/-- a frozen slot's value, held besides -/
theorem StR.dupSlot {i : Nat} (s : StR K F B H σ ρ T) (h1 : σ[i]? = some (some v)) (h2 : ρ[i]? = some (some (k, d))) (h3 : isC d = false ∨ k = 0) : StR K F B H σ ρ ((v, 0, d) :: T) := by
  refine ⟨s.fit, ?_⟩
  have p := (slotsT_take h1 h2).append_right T
  have r0 := s.own.perm p
  have r1 : Roots K F B H ((v, 0, d) :: ((v, k, d) :: (slotsT σ (ρ.set i none) ++ T))) := by
    rcases h3 with c | c
    · exact (r0.reflat (j := 0) c).dup.perm (.swap _ _ _) |>.reflat (j := k) c |>.perm (.swap _ _ _)
    · subst c; exact r0.dup
  have r2 : Roots K F B H ((v, 0, d) :: (slotsT σ ρ ++ T)) := r1.perm (List.Perm.cons _ p.symm)
  exact r2.perm List.perm_middle.symm

/-! ### to be items -/
def rootsOf : List V → List (Nat × D) → List Root
  | v :: vs, x :: xs => (v, x.1, x.2) :: rootsOf vs xs
  | _, _ => []
theorem StR.norm9 {k' : Nat} (s : StR K F B H σ ρ ((v, k, d) :: T)) : StR K F B H σ ρ ((v, kOf k d, d) :: T) := by
  unfold kOf
  split
  · exact s
  · rename_i c
    exact s.behind fun S r => r.reflat (by simpa using c)
theorem item_hold {io : List Nat} {t : TV} {x : Nat × D} (s : StR K F B H σ ρ (pushT t v T)) (vr : VarR σ t v) (h : item io t ρ = .ok x ρ') : StR K F B H σ ρ' ((v, x.1, x.2) :: T) := by
  cases t with
  | pv k d' =>
    cases h
    exact s.norm9 (k' := 0)
  | var i =>
    obtain ⟨d, ρ1, h1, h⟩ := M.bind_ok (show ((frz io (.var i)).bind fun d => M.pure (kOf 0 d, d)) ρ = .ok x ρ' from h)
    cases h
    exact (frz_hold s vr h1).norm9 (k' := 0)
theorem items_ok {io : List Nat} : ∀ {ts : List TV} {vs : List V} {xs : List (Nat × D)} {ρ : SEnv} {T : List Root}, StR K F B H σ ρ (pushAll ts vs T) → VarRs σ ts vs → items io ts ρ = .ok xs ρ' →
    StR K F B H σ ρ' (rootsOf vs xs ++ T) ∧ vs.length = xs.length
  | [], [], xs, ρ, T, s, _, h => by cases h; exact ⟨s, rfl⟩
  | t :: ts, v :: vs, xs, ρ, T, s, .cons vr vrs, h => by
    obtain ⟨x, ρ1, h1, h⟩ := M.bind_ok h
    obtain ⟨ys, ρ2, h2, h⟩ := M.bind_ok h
    cases h
    have s0 : StR K F B H σ ρ (pushT t v (pushAll ts vs T)) := by
      have e : pushAll (t :: ts) (v :: vs) T = pushAll ts vs (pushT t v T) := rfl
      rw [e, pushAll_split] at s
      rw [pushAll_split ts vs T]
      cases t with
      | pv k d => exact s.behind fun S r => r.perm (List.perm_middle.append_right S)
      | var i => exact s
    have s1 := item_hold s0 vr h1
    have s1' : StR K F B H σ ρ1 (pushAll ts vs ((v, x.1, x.2) :: T)) := by
      rw [pushAll_split] at s1 ⊢
      exact s1.behind fun S r => r.perm (List.perm_middle.symm.append_right S)
    obtain ⟨s2, hl⟩ := items_ok s1' vrs h2
    refine ⟨s2.behind fun S r => r.perm (List.perm_middle.append_right S), congrArg (· + 1) hl⟩
theorem rootsOf_lower {j : Nat} : ∀ {vs : List V} {xs : List (Nat × D)} {R : List Root}, (∀ x ∈ xs, j ≤ x.1) → Roots K F B H (rootsOf vs xs ++ R) → Roots K F B H (rootsOf vs (xs.map fun x => (j, x.2)) ++ R)
  | [], xs, R, _, r => by cases xs <;> exact r
  | v :: vs, [], R, _, r => r
  | v :: vs, x :: xs, R, h, r => by
    have r1 := r.lower (h x List.mem_cons_self)
    have r2 := rootsOf_lower (R := (v, j, x.2) :: R) (fun y hy => h y (List.mem_cons_of_mem _ hy)) (r1.perm List.perm_middle.symm)
    exact r2.perm List.perm_middle
theorem ownAll_of : ∀ {vs : List V} {ds : List D} {j : Nat} {f : List Addr}, vs.length = ds.length → OwnT K H G (rootsOf vs (ds.map fun d => (j, d))) f → OwnAll K H G j vs ds f
  | [], [], j, f, _, h => by cases h; exact .nil
  | v :: vs, d :: ds, j, f, hl, h => by
    cases h with
    | cons r t => exact .cons r (ownAll_of (Nat.succ.inj hl) t)
theorem kMin_le : ∀ (xs : List (Nat × D)), ∀ x ∈ xs, kMin xs ≤ x.1
  | [], _, h => nomatch h
  | y :: ys, x, h => by
    have e : kMin (y :: ys) = min y.1 (kMin ys) := rfl
    rw [e]
    rcases List.mem_cons.mp h with rfl | h
    · exact Nat.min_le_left _ _
    · exact Nat.le_trans (Nat.min_le_right _ _) (kMin_le ys x h)
/-- a new list of what is at hand -/
theorem Roots.newList {vs : List V} {xs : List (Nat × D)} {p : Addr} {j : Nat} (hj : ∀ x ∈ xs, j ≤ x.1) (hl : vs.length = xs.length) (r : Roots K F B H (rootsOf vs xs ++ R)) (hp : H p = none) :
    Roots K F B (upd H p (.lst vs)) ((.ref p, j + 1, .list (xs.map (·.2))) :: R) := by
  obtain ⟨G, fp, r⟩ := rootsOf_lower hj r
  obtain ⟨f1, f2, e, o1, o2⟩ := r.own.split
  have x := Ext.owned (G := G) (o := .lst vs) r.gh hp
  have r' := r.ext x
  have pn : ∀ a ∈ fp, a ≠ p := fun a h z => by
    obtain ⟨o, q⟩ := r.own.there a h
    rw [z, hp] at q; cases q
  subst e
  have gp : G p = none := Same.free r.gh hp
  have bp : B p = none := Same.free r.bh hp
  have e2 : (xs.map fun x : Nat × D => (j, x.2)) = (xs.map (·.2)).map fun d => (j, d) := by rw [List.map_map]; rfl
  rw [e2] at o1
  have oa : OwnAll K (upd H p (.lst vs)) G j vs (xs.map (·.2)) f1 := (ownAll_of (by rw [List.length_map]; exact hl) o1).mono (.refl _) fun a h => upd_ne (pn a (List.mem_append_left _ h))
  refine ⟨G, (p :: f1) ++ f2, r'.fg, r'.gh, r'.bh, ?_, fun a h => ?_, r'.bg, .cons (.lst upd_same oa) (o2.mono (.refl _) fun a h => upd_ne (pn a (List.mem_append_right _ h)))⟩
  · refine List.nodup_cons.mpr ⟨fun h => pn p h rfl, r.nd⟩
  · rcases List.mem_cons.mp h with rfl | h
    · exact ⟨gp, bp⟩
    · exact r.out a h
theorem StR.newList {vs : List V} {xs : List (Nat × D)} {p : Addr} (hl : vs.length = xs.length) (s : StR K F B H σ ρ (rootsOf vs xs ++ T)) (hp : H p = none) :
    StR K F B (upd H p (.lst vs)) σ ρ ((.ref p, kMin xs + 1, .list (xs.map (·.2))) :: T) := s.behind fun S r => by
  rw [List.append_assoc] at r
  exact r.newList (kMin_le xs) hl hp
/-- an item put at the end of an owned list -/
theorem Roots.app {a : Addr} {ds : List D} {j : Nat} (r : Roots K F B H ((v, j, d) :: (.ref a, k + 1, .list ds) :: R)) : ∃ xs, H a = some (.lst xs) ∧ xs.length = ds.length ∧
    Roots K F B (upd H a (.lst (xs ++ [v]))) ((.ref a, min (k + 1) (j + 1), .list (ds ++ [d])) :: R) := by
  have r1 := r.lower (j := min k j) (Nat.min_le_right _ _)
  have r2 := (r1.perm (.swap _ _ _)).lower (j := min k j + 1) (Nat.succ_le_succ (Nat.min_le_left _ _))
  obtain ⟨G, fp, fg, gh, bh, nd, out, bg, own⟩ := r2
  have ek : min (k + 1) (j + 1) = min k j + 1 := by omega
  rw [ek]
  cases own with
  | cons o t =>
    cases o with
    | flat r c => cases c
    | lst q oa =>
      cases t with
      | cons o2 t =>
        rename_i xs f0 f1 f2
        have lx : xs.length = ds.length := by
          have : ∀ {vs : List V} {ds : List D} {k : Nat} {f : List Addr}, OwnAll K H G k vs ds f → vs.length = ds.length := by
            intro vs
            induction vs with
            | nil => intro ds k f h; cases h; rfl
            | cons v vs ih => intro ds k f h; cases h with | cons _ t => exact congrArg (· + 1) (ih t)
          exact this oa
        have na : ∀ b, b ∈ f0 ∨ b ∈ f1 ∨ b ∈ f2 → b ≠ a := fun b hb z => by
          subst z
          have h1 : b ∉ f0 ++ (f1 ++ f2) := (List.nodup_cons.mp nd).1
          exact h1 (by rcases hb with h | h | h <;> simp [h])
        have oa' : OwnAll K (upd H a (.lst (xs ++ [v]))) G (min k j) (xs ++ [v]) (ds ++ [d]) (f0 ++ f1) := by
          have key : ∀ {vs : List V} {ds : List D} {f : List Addr}, OwnAll K H G (min k j) vs ds f → (∀ b ∈ f, b ≠ a) → OwnAll K (upd H a (.lst (xs ++ [v]))) G (min k j) (vs ++ [v]) (ds ++ [d]) (f ++ f1) := by
            intro vs
            induction vs with
            | nil =>
              intro ds f h _
              cases h
              have z : OwnAll K (upd H a (.lst (xs ++ [v]))) G (min k j) ([] ++ [v]) ([] ++ [d]) (f1 ++ []) := .cons (o2.mono (.refl _) fun b hb => upd_ne (na b (.inr (.inl hb)))) .nil
              rw [List.append_nil] at z
              exact z
            | cons v' vs ih =>
              intro ds f h hf
              cases h with
              | cons o t =>
                rw [List.append_assoc]
                exact .cons (o.mono (.refl _) fun b hb => upd_ne (hf b (List.mem_append_left _ hb))) (ih t fun b hb => hf b (List.mem_append_right _ hb))
          exact key oa fun b hb => na b (.inl hb)
        refine ⟨xs, q, lx, G, (a :: (f0 ++ f1)) ++ f2, fg, fun b o e => ?_, fun b o e => ?_, ?_, fun b hb => ?_, bg, .cons (.lst upd_same oa') (t.mono (.refl _) fun b hb => upd_ne (na b (.inr (.inr hb))))⟩
        · rw [upd_ne (by rintro rfl; have := (out b (by simp)).1; rw [e] at this; cases this)]; exact gh b o e
        · rw [upd_ne (by rintro rfl; have := (out b (by simp)).2; rw [e] at this; cases this)]; exact bh b o e
        · simpa [List.append_assoc] using nd
        · exact out b (by simpa [List.append_assoc] using hb)
end
end PV

/-! PV3b: readings made of denotations; calls framed. -/
namespace PV
open PySem PySem.Spec L2

/-- what is given beside the text: exceptions, the program's defs -/
structure GD where
  xr : Ex → Value → Option Addr → Hp → Prop
  xv : Nat → Value
  xf : Nat → Str
  sub : Nat → Nat → Bool
  nc : Nat
  PG : Prog
  fa : Nat → Addr
  fd : Nat → FuncData
  ps : Nat → List Str

section
variable {K : Frag} {F B H H' G G' : Hp} {T U R A : List Root} {fp : List Addr} {v : V} {k : Nat} {d : D} {σ : L2.St} {ρ ρ' : SEnv}
theorem Own.full (gh : Same G H) : ∀ {k : Nat} {v : V} {d : D} {f : List Addr}, Own K H G k v d f → Rep K H v d := fun {k v d f} o => by
  obtain ⟨f1, f2, p, m⟩ := o.lower 0 (Nat.zero_le _)
  exact (m H gh fun a _ => rfl).zero.2
theorem RootsG.full (r : RootsG K F B H T G fp) (h : (v, k, d) ∈ T) : Rep K H v d := by
  obtain ⟨f, o⟩ := r.own.mem h
  exact o.full r.gh
theorem StR.full (s : StR K F B H σ ρ T) (h : (v, k, d) ∈ slotsT σ ρ ++ T) : Rep K H v d := by
  obtain ⟨G, fp, r⟩ := s.own
  exact r.full h
/-- a callee sees A alone; the rest stands as it is -/
theorem Roots.frame (r : Roots K F B H (A ++ R)) : ∃ F' B', Roots K F' B' H A ∧ ∀ H' A', Roots K F' B' H' A' → Roots K F B H' (A' ++ R) := by
  obtain ⟨G, fp, r⟩ := r
  obtain ⟨f1, f2, e, o1, o2⟩ := r.own.split
  subst e
  obtain ⟨n1, n2, n3⟩ := List.nodup_append.mp r.nd
  have b2 : ∀ a ∈ f2, B a = none := fun a h => (r.out a (List.mem_append_right _ h)).2
  have g2 : ∀ a ∈ f2, G a = none := fun a h => (r.out a (List.mem_append_right _ h)).1
  refine ⟨G, fun a => if a ∈ f2 then H a else B a, ⟨G, f1, .refl _, r.gh, fun a o e => ?_, n1, fun a h => ?_, fun a o e => ?_, o1⟩, ?_⟩
  · by_cases h : a ∈ f2
    · rw [if_pos h] at e; exact e
    · rw [if_neg h] at e; exact r.bh a o e
  · have h2 : a ∉ f2 := fun h2 => n3 a h a h2 rfl
    rw [if_neg h2]
    exact r.out a (List.mem_append_left _ h)
  · by_cases h : a ∈ f2
    · exact g2 a h
    · rw [if_neg h] at e; exact r.bg a o e
  · rintro H' A' ⟨G', f', q⟩
    have bb : ∀ a o, B a = some o → (if a ∈ f2 then H a else B a) = some o := fun a o e => by
      have h : a ∉ f2 := fun h => by rw [b2 a h] at e; cases e
      rw [if_neg h]; exact e
    have hh : ∀ a ∈ f2, H' a = H a ∧ G' a = none := fun a h => by
      obtain ⟨o, e⟩ := o2.there a h
      have z : (if a ∈ f2 then H a else B a) = some o := by rw [if_pos h]; exact e
      exact ⟨by rw [e]; exact q.bh a o z, q.bg a o z⟩
    refine ⟨G', f' ++ f2, r.fg.trans q.fg, q.gh, fun a o e => q.bh a o (bb a o e), List.nodup_append.mpr ⟨q.nd, n2, fun a h1 b h2 e => ?_⟩, fun a h => ?_, fun a o e => q.bg a o (bb a o e), q.own.append (o2.mono q.fg fun a h => (hh a h).1)⟩
    · subst e
      obtain ⟨o, e⟩ := o2.there a h2
      have z := (q.out a h1).2
      rw [if_pos h2, e] at z
      cases z
    · rcases List.mem_append.mp h with h | h
      · refine ⟨(q.out a h).1, ?_⟩
        cases e : B a with
        | none => rfl
        | some o =>
          have z := (q.out a h).2
          rw [bb a o e] at z; cases z
      · exact ⟨(hh a h).2, b2 a h⟩
/-- a slot is emptied -/
theorem slots_sub : ∀ (σ : L2.St) (ρ : SEnv) (i : Nat) (R : List Root), Roots K F B H (slotsT σ ρ ++ R) → Roots K F B H (slotsT σ (ρ.set i none) ++ R) := fun σ ρ i R r => by
  cases e : ρ[i]? with
  | none =>
    have : ρ.set i none = ρ := List.set_eq_of_length_le (List.getElem?_eq_none_iff.mp e)
    rw [this]; exact r
  | some o =>
    cases o with
    | none => rw [slotsT_none e]; exact r
    | some x =>
      obtain ⟨k, d⟩ := x
      cases e2 : σ[i]? with
      | none =>
        have : slotsT σ (ρ.set i none) = slotsT σ ρ := by
          clear r e
          induction σ generalizing ρ i with
          | nil => cases ρ <;> cases i <;> simp [slotsT]
          | cons a σ ih =>
            cases ρ with
            | nil => simp [slotsT]
            | cons b ρ =>
              cases i with
              | zero => simp at e2
              | succ i =>
                have z := ih ρ i (by simpa using e2)
                cases a <;> cases b <;> simp [slotsT, z]
        rw [this]; exact r
      | some o =>
        cases o with
        | none =>
          have : slotsT σ (ρ.set i none) = slotsT σ ρ := by
            clear r
            induction σ generalizing ρ i with
            | nil => cases ρ <;> cases i <;> simp [slotsT]
            | cons a σ ih =>
              cases ρ with
              | nil => simp [slotsT]
              | cons b ρ =>
                cases i with
                | zero => simp at e2; subst e2; simp [slotsT]
                | succ i =>
                  have z := ih ρ i (by simpa using e) (by simpa using e2)
                  cases a <;> cases b <;> simp [slotsT, z]
          rw [this]; exact r
        | some v => exact (r.perm ((slotsT_take e2 e).append_right R)).drop
theorem StR.emptySlot (s : StR K F B H σ ρ T) (i : Nat) : StR K F B H σ (ρ.set i none) T := ⟨s.fit.setN i, slots_sub σ ρ i T s.own⟩
/-- a value goes back into its slot -/
theorem StR.fillSlot {i : Nat} (h : σ[i]? = some (some v)) (hi : i < ρ.length) (s : StR K F B H σ ρ ((v, k, d) :: T)) : StR K F B H σ (ρ.set i (some (k, d))) T := by
  have hs : i < σ.length := (List.getElem?_eq_some_iff.mp h).1
  have e : σ.set i (some v) = σ := by
    apply List.ext_getElem? 
    intro n
    by_cases hn : n = i
    · subst hn; rw [List.getElem?_set_self hs, h]
    · rw [List.getElem?_set_ne (Ne.symm hn)]
  have f := s.fit.set (a := some v) (b := some (k, d)) i fun _ => rfl
  rw [e] at f
  refine ⟨f, ?_⟩
  have p2 := (slotsT_put (σ := σ) (ρ := ρ) (v := v) (k := k) (d := d) hs hi).append_right T
  rw [e] at p2
  refine Roots.perm ?_ p2.symm
  have r1 := slots_sub σ ρ i _ s.own
  exact r1.perm List.perm_middle
/-- a new value is stored -/
theorem StR.store {i : Nat} (hi : i < ρ.length) (s : StR K F B H σ ρ ((v, k, d) :: T)) : StR K F B H (σ.set i (some v)) (ρ.set i (some (k, d))) T := by
  have hs : i < σ.length := by rw [s.fit.length]; exact hi
  refine ⟨s.fit.set i fun _ => rfl, ?_⟩
  have p2 := (slotsT_put (σ := σ) (ρ := ρ) (v := v) (k := k) (d := d) hs hi).append_right T
  refine Roots.perm ?_ p2.symm
  have r1 := slots_sub σ ρ i _ s.own
  exact r1.perm List.perm_middle
/-- a slot's value is taken to hand -/
theorem StR.takeSlot {i : Nat} (s : StR K F B H σ ρ T) (h1 : σ[i]? = some (some v)) (h2 : ρ[i]? = some (some (k, d))) : StR K F B H σ (ρ.set i none) ((v, k, d) :: T) := by
  refine ⟨s.fit.setN i, ?_⟩
  have p := (slotsT_take h1 h2).append_right T
  exact (s.own.perm p).perm List.perm_middle.symm

/-! ### arguments -/
theorem frz_len {io : List Nat} {t : TV} {d : D} {ρ ρ' : SEnv} (h : frz io t ρ = .ok d ρ') : ρ'.length = ρ.length := by
  cases t with
  | pv k d => cases h; rfl
  | var i =>
    have h' : (match ρ[i]? with | some (some (_, d)) => if io.contains i = true then RE.no else RE.ok d (ρ.set i (some (0, d))) | _ => .no) = .ok d ρ' := h
    cases e : ρ[i]? with
    | none => rw [e] at h'; cases h'
    | some o =>
      cases o with
      | none => rw [e] at h'; cases h'
      | some x =>
        rw [e] at h'
        simp only at h'
        by_cases hc : io.contains i = true
        · rw [if_pos hc] at h'; cases h'
        rw [if_neg hc] at h'
        cases h'
        simp
def ioVs : List Bool → List V → List V
  | true :: bs, v :: vs => v :: ioVs bs vs
  | _ :: bs, _ :: vs => ioVs bs vs
  | _, _ => []
theorem passIn_len {io : List Nat} : ∀ {bs : List Bool} {ts : List TV} {args : List (Nat × D)} {ρ ρ' : SEnv}, passIn io bs ts ρ = .ok args ρ' → args.length = ts.length ∧ ρ'.length = ρ.length
  | [], [], args, ρ, ρ', h => by cases h; exact ⟨rfl, rfl⟩
  | [], _ :: _, args, ρ, ρ', h => by cases h
  | b :: bs, [], args, ρ, ρ', h => by cases b <;> cases h
  | true :: bs, .pv _ _ :: ts, args, ρ, ρ', h => by cases h
  | true :: bs, .var i :: ts, args, ρ, ρ', h => by
    unfold passIn at h
    split at h
    · obtain ⟨r, ρ1, h1, h⟩ := M.bind_ok h
      cases h
      obtain ⟨a, b⟩ := passIn_len h1
      exact ⟨congrArg (· + 1) a, b.trans (by simp)⟩
    · cases h
  | false :: bs, t :: ts, args, ρ, ρ', h => by
    unfold passIn at h
    obtain ⟨d, ρ1, h1, h⟩ := M.bind_ok h
    obtain ⟨r, ρ2, h2, h⟩ := M.bind_ok h
    cases h
    obtain ⟨a, b⟩ := passIn_len h2
    refine ⟨congrArg (· + 1) a, b.trans ?_⟩
    exact frz_len h1
theorem passIn_len2 {io : List Nat} : ∀ {bs : List Bool} {ts : List TV} {args : List (Nat × D)} {ρ ρ' : SEnv}, passIn io bs ts ρ = .ok args ρ' → bs.length = ts.length
  | [], [], args, ρ, ρ', h => rfl
  | [], _ :: _, args, ρ, ρ', h => by cases h
  | b :: bs, [], args, ρ, ρ', h => by cases b <;> cases h
  | true :: bs, .pv _ _ :: ts, args, ρ, ρ', h => by cases h
  | true :: bs, .var i :: ts, args, ρ, ρ', h => by
    unfold passIn at h
    split at h
    · obtain ⟨r, ρ1, h1, h⟩ := M.bind_ok h
      exact congrArg (· + 1) (passIn_len2 h1)
    · cases h
  | false :: bs, t :: ts, args, ρ, ρ', h => by
    unfold passIn at h
    obtain ⟨d, ρ1, h1, h⟩ := M.bind_ok h
    obtain ⟨r, ρ2, h2, h⟩ := M.bind_ok h
    exact congrArg (· + 1) (passIn_len2 h2)
theorem passIn_ok {io : List Nat} : ∀ {bs : List Bool} {ts : List TV} {vs : List V} {args : List (Nat × D)} {ρ ρ' : SEnv} {T : List Root}, StR K F B H σ ρ (pushAll ts vs T) → VarRs σ ts vs → passIn io bs ts ρ = .ok args ρ' →
    StR K F B H σ ρ' (rootsOf vs args ++ T)
  | [], [], [], args, ρ, ρ', T, s, .nil, h => by cases h; exact s
  | [], _ :: _, vs, args, ρ, ρ', T, s, _, h => by cases h
  | b :: bs, [], vs, args, ρ, ρ', T, s, _, h => by cases b <;> cases h
  | true :: bs, .pv _ _ :: ts, vs, args, ρ, ρ', T, s, _, h => by cases h
  | true :: bs, .var i :: ts, v :: vs, args, ρ, ρ', T, s, .cons vr vrs, h => by
    unfold passIn at h
    split at h
    · rename_i k d e
      obtain ⟨r, ρ1, h1, h⟩ := M.bind_ok h
      cases h
      have s0 : StR K F B H σ ρ (pushAll ts vs T) := s
      have s1 := s0.takeSlot vr e
      rw [pushAll_split] at s1
      have s1' : StR K F B H σ (ρ.set i none) (pushAll ts vs ((v, k + 1, d) :: T)) := by
        rw [pushAll_split]
        exact s1.behind fun S r => r.perm (List.perm_middle.symm.append_right S)
      have s2 := passIn_ok s1' vrs h1
      exact s2.behind fun S r => r.perm (List.perm_middle.append_right S)
    · cases h
  | false :: bs, t :: ts, v :: vs, args, ρ, ρ', T, s, .cons vr vrs, h => by
    unfold passIn at h
    obtain ⟨d, ρ1, h1, h⟩ := M.bind_ok h
    obtain ⟨r, ρ2, h2, h⟩ := M.bind_ok h
    cases h
    have s0 : StR K F B H σ ρ (pushT t v (pushAll ts vs T)) := by
      have e : pushAll (t :: ts) (v :: vs) T = pushAll ts vs (pushT t v T) := rfl
      rw [e, pushAll_split] at s
      rw [pushAll_split ts vs T]
      cases t with
      | pv k d => exact s.behind fun S r => r.perm (List.perm_middle.append_right S)
      | var i => exact s
    have s1 := frz_hold s0 vr h1
    have s1' : StR K F B H σ ρ1 (pushAll ts vs ((v, 0, d) :: T)) := by
      rw [pushAll_split] at s1 ⊢
      exact s1.behind fun S r => r.perm (List.perm_middle.symm.append_right S)
    have s2 := passIn_ok s1' vrs h2
    exact s2.behind fun S r => r.perm (List.perm_middle.append_right S)
theorem putBack_nil (bs : List Bool) (ts : List TV) (ρ : SEnv) : putBack bs ts [] ρ = ρ := by
  induction bs generalizing ts with
  | nil => cases ts <;> rfl
  | cons b bs ih =>
    cases ts with
    | nil => cases b <;> rfl
    | cons t ts =>
      cases b with
      | true => rfl
      | false => exact ih ts
theorem rootsOf_nil (vs : List V) : rootsOf vs [] = [] := by cases vs <;> rfl
theorem putBack_ok : ∀ {bs : List Bool} {ts : List TV} {vs : List V} {ios : List (Nat × D)} {ρ : SEnv} {T : List Root}, (∀ (i : Nat) v, σ[i]? = some (some v) → i < ρ.length) → VarRs σ ts vs →
    StR K F B H σ ρ (rootsOf (ioVs bs vs) ios ++ T) → StR K F B H σ (putBack bs ts ios ρ) T := by
  intro bs
  induction bs with
  | nil =>
    intro ts vs ios ρ T _ _ s
    have e : putBack [] ts ios ρ = ρ := by cases ts <;> rfl
    have e2 : ioVs [] vs = [] := by cases vs <;> rfl
    rw [e2] at s
    rw [e]
    exact s
  | cons b bs ih =>
    intro ts vs ios ρ T hl vr s
    cases vr with
    | nil =>
      have e : putBack (b :: bs) [] ios ρ = ρ := by cases b <;> rfl
      have e2 : ioVs (b :: bs) [] = [] := by cases b <;> rfl
      rw [e2] at s
      rw [e]
      exact s
    | cons v1 vrs =>
      rename_i t v ts vs
      cases b with
      | false =>
        have e : putBack (false :: bs) (t :: ts) ios ρ = putBack bs ts ios ρ := by cases ios <;> rfl
        rw [e]
        exact ih hl vrs s
      | true =>
        cases ios with
        | nil =>
          rw [putBack_nil]
          rw [rootsOf_nil] at s
          exact s
        | cons x xs =>
          cases t with
          | pv k d =>
            have e : putBack (true :: bs) (.pv k d :: ts) (x :: xs) ρ = putBack bs ts xs ρ := rfl
            rw [e]
            exact ih hl vrs (s.behind fun S r => Roots.drop (v := v) (k := x.1) (d := x.2) r)
          | var i =>
            have e : putBack (true :: bs) (.var i :: ts) (x :: xs) ρ = putBack bs ts xs (ρ.set i (some x)) := rfl
            rw [e]
            have s1 : StR K F B H σ (ρ.set i (some x)) (rootsOf (ioVs bs vs) xs ++ T) := StR.fillSlot v1 (hl i v v1) s
            exact ih (fun j w h => by rw [List.length_set]; exact hl j w h) vrs s1
end
/-! ### readings -/
def After {α : Type} (Z : GD) (K : Frag) (W : WX) (F B : Hp) (σ : L2.St) (T : List Root) (r : RE α) (post : α → SEnv → Prop) : Prop := match r with
  | .ok a ρ => post a ρ
  | .ex e ρ => ∀ c d H, StR K F B H σ ρ T → Z.xr e c d H → W c d σ H
  | .no => False
def rdE (Z : GD) (K : Frag) (W : WX) (m : M TV) : TE := fun σ H Q => ∃ F B ρ T, StR K F B H σ ρ T ∧ After Z K W F B σ T (m ρ) fun t ρ' => ∀ v H', VarR σ t v → StR K F B H' σ ρ' (pushT t v T) → Q v H'
def rdA (Z : GD) (K : Frag) (W : WX) (m : M (List TV)) : TA := fun σ H Q => ∃ F B ρ T, StR K F B H σ ρ T ∧ After Z K W F B σ T (m ρ) fun ts ρ' => ∀ vs H', VarRs σ ts vs → StR K F B H' σ ρ' (pushAll ts vs T) → Q vs H'
def rdT (Z : GD) (K : Frag) (W : WX) (m : M Bool) : TT := fun σ H Q => ∃ F B ρ T, StR K F B H σ ρ T ∧ After Z K W F B σ T (m ρ) fun c ρ' => ∀ H', StR K F B H' σ ρ' T → Q c H'
def rdO (Z : GD) (K : Frag) (W : WX) (m : M (Option Int)) : TO := fun σ H Q => ∃ F B ρ T, StR K F B H σ ρ T ∧ After Z K W F B σ T (m ρ) fun c ρ' => ∀ H', StR K F B H' σ ρ' T → Q c H'
section
variable {Z : GD} {K : Frag} {W : WX} {F B H H' : Hp} {σ : L2.St} {ρ ρ' : SEnv} {T : List Root} {α β : Type}
theorem After.bind {m : M α} {f : α → M β} {post : β → SEnv → Prop} (h : After Z K W F B σ T ((m.bind f) ρ) post) : After Z K W F B σ T (m ρ) fun a ρ' => After Z K W F B σ T (f a ρ') post := by
  unfold M.bind at h
  cases e : m ρ with
  | ok a ρ' => rw [e] at h; exact h
  | ex x ρ' => rw [e] at h; exact h
  | no => rw [e] at h; exact h
theorem After.mono {r : RE α} {post post' : α → SEnv → Prop} (h : After Z K W F B σ T r post) (k : ∀ a ρ', r = .ok a ρ' → post a ρ' → post' a ρ') : After Z K W F B σ T r post' := by
  cases r with
  | ok a ρ' => exact k a ρ' rfl h
  | ex x ρ' => exact h
  | no => exact h
theorem After.push {t : TV} {v : V} {r : RE α} {post : α → SEnv → Prop} (h : After Z K W F B σ T r post) : After Z K W F B σ (pushT t v T) r post := by
  cases r with
  | ok a ρ' => exact h
  | ex x ρ' =>
    refine fun c d H s => h c d H ?_
    cases t with
    | pv k d => exact s.behind fun S r => r.drop
    | var i => exact s
  | no => exact h
theorem After.pushT {t : TV} {v : V} {r : RE α} {post : α → SEnv → Prop} (h : After Z K W F B σ T r post) : After Z K W F B σ (PV.pushT t v T) r post := h.push
theorem After.pushAll {ts : List TV} {vs : List V} {r : RE α} {post : α → SEnv → Prop} (h : After Z K W F B σ T r post) : After Z K W F B σ (pushAll ts vs T) r post := by
  cases r with
  | ok a ρ' => exact h
  | ex x ρ' =>
    refine fun c d H s => h c d H ?_
    rw [pushAll_split] at s
    exact s.behind fun S r => by rw [List.append_assoc] at r; exact r.dropL
  | no => exact h
theorem After.ok {r : RE α} {post : α → SEnv → Prop} (h : After Z K W F B σ T r post) (hx : ∀ e ρ', r ≠ .ex e ρ') : ∃ a ρ', r = .ok a ρ' ∧ post a ρ' := by
  cases r with
  | ok a ρ' => exact ⟨a, ρ', rfl, h⟩
  | ex e ρ' => exact absurd rfl (hx e ρ')
  | no => exact h.elim
theorem rdE_of {m : M TV} {Q : V → Hp → Prop} (s : StR K F B H σ ρ T) (a : After Z K W F B σ T (m ρ) fun t ρ' => ∀ v H', VarR σ t v → StR K F B H' σ ρ' (pushT t v T) → Q v H') : rdE Z K W m σ H Q := ⟨F, B, ρ, T, s, a⟩
theorem opt_ok {o : Option α} {a : α} {ρ ρ' : SEnv} (h : M.opt o ρ = .ok a ρ') : o = some a ∧ ρ' = ρ := by
  cases o with
  | none => cases h
  | some x => cases h; exact ⟨rfl, rfl⟩
theorem opt_nx {o : Option α} {ρ : SEnv} : ∀ e ρ', M.opt o ρ ≠ .ex e ρ' := fun e ρ' h => by cases o <;> cases h
theorem bor_nx {t : TV} {ρ : SEnv} : ∀ e ρ', bor t ρ ≠ .ex e ρ' := fun e ρ' h => by
  cases t with
  | pv k d => cases h
  | var i =>
    have h' : (match ρ[i]? with | some (some (k, d)) => RE.ok d (ρ.set i (some (min k 1, d))) | _ => .no) = .ex e ρ' := h
    cases e1 : ρ[i]? with
    | none => rw [e1] at h'; cases h'
    | some o =>
      cases o with
      | none => rw [e1] at h'; cases h'
      | some x => rw [e1] at h'; cases h'
theorem frz_nx {io : List Nat} {t : TV} {ρ : SEnv} : ∀ e ρ', frz io t ρ ≠ .ex e ρ' := fun e ρ' h => by
  cases t with
  | pv k d => cases h
  | var i =>
    have h' : (match ρ[i]? with | some (some (_, d)) => if io.contains i = true then RE.no else RE.ok d (ρ.set i (some (0, d))) | _ => .no) = .ex e ρ' := h
    cases e1 : ρ[i]? with
    | none => rw [e1] at h'; cases h'
    | some o =>
      cases o with
      | none => rw [e1] at h'; cases h'
      | some x =>
        rw [e1] at h'
        simp only at h'
        split at h' <;> cases h'
/-- nothing is raised -/
def NX {α : Type} (m : M α) : Prop := ∀ ρ e ρ', m ρ ≠ .ex e ρ'
theorem NX.bind {m : M α} {f : α → M β} (h1 : NX m) (h2 : ∀ a, NX (f a)) : NX (m.bind f) := fun ρ e ρ' h => by
  unfold M.bind at h
  cases e1 : m ρ with
  | ok a ρ1 => rw [e1] at h; exact h2 a ρ1 e ρ' h
  | ex x ρ1 => exact h1 _ _ _ e1
  | no => rw [e1] at h; cases h
theorem NX.pure {a : α} : NX (M.pure a) := fun _ _ _ h => by cases h
theorem NX.no : NX (M.no (α := α)) := fun _ _ _ h => by cases h
theorem NX.opt {o : Option α} : NX (M.opt o) := fun _ => opt_nx
theorem NX.bor {t : TV} : NX (bor t) := fun _ => bor_nx
theorem NX.frz {io : List Nat} {t : TV} : NX (frz io t) := fun _ => frz_nx
theorem NX.bors : ∀ {ts : List TV}, NX (bors ts)
  | [] => .pure
  | _ :: _ => .bind .bor fun _ => .bind NX.bors fun _ => .pure
theorem NX.frzs {io : List Nat} : ∀ {ts : List TV}, NX (frzs io ts)
  | [] => .pure
  | _ :: _ => .bind .frz fun _ => .bind NX.frzs fun _ => .pure
theorem NX.item {io : List Nat} : ∀ {t : TV}, NX (item io t)
  | .pv _ _ => .pure
  | .var _ => .bind .frz fun _ => .pure
theorem NX.items {io : List Nat} : ∀ {ts : List TV}, NX (items io ts)
  | [] => .pure
  | _ :: _ => .bind .item fun _ => .bind NX.items fun _ => .pure
theorem NX.pvOf {t : TV} : NX (pvOf t) := by cases t; exact .pure; exact .no
theorem NX.passIn {io : List Nat} : ∀ {bs : List Bool} {ts : List TV}, NX (passIn io bs ts)
  | [], [] => .pure
  | [], _ :: _ => .no
  | b :: bs, [] => by cases b <;> exact .no
  | false :: bs, t :: ts => .bind .frz fun _ => .bind NX.passIn fun _ => .pure
  | true :: bs, .pv k d :: ts => .no
  | true :: bs, .var i :: ts => fun ρ e ρ' h => by
    unfold PV.passIn at h
    split at h
    · exact NX.bind (NX.passIn (io := io) (bs := bs) (ts := ts)) (fun _ => .pure) _ _ _ h
    · cases h
theorem After.nx {m : M α} {post : α → SEnv → Prop} (h : After Z K W F B σ T (m ρ) post) (n : NX m) : ∃ a ρ', m ρ = .ok a ρ' ∧ post a ρ' := h.ok (n ρ)
theorem After.opt {o : Option α} {post : α → SEnv → Prop} (h : After Z K W F B σ T (M.opt o ρ) post) : ∃ a, o = some a ∧ post a ρ := by
  cases o with
  | none => exact h.elim
  | some a => exact ⟨a, rfl, h⟩
theorem After.optMap {o : Option α} {f : α → β} {post : β → SEnv → Prop} (h : After Z K W F B σ T (M.opt (o.map f) ρ) post) : ∃ a, o = some a ∧ post (f a) ρ := by
  cases o with
  | none => exact h.elim
  | some a => exact ⟨a, rfl, h⟩
/-- a value looked at, and still at hand -/
theorem bor_peek {t : TV} {v : V} {d : D} (s : StR K F B H σ ρ (pushT t v T)) (vr : VarR σ t v) (h : bor t ρ = .ok d ρ') : StR K F B H σ ρ' (pushT t v T) ∧ Rep K H v d := by
  cases t with
  | pv k d' =>
    cases h
    exact ⟨s, s.full (List.mem_append_right _ List.mem_cons_self)⟩
  | var i =>
    have h' : (match ρ[i]? with | some (some (k, d)) => RE.ok d (ρ.set i (some (min k 1, d))) | _ => .no) = .ok d ρ' := h
    cases e : ρ[i]? with
    | none => rw [e] at h'; cases h'
    | some o =>
      cases o with
      | none => rw [e] at h'; cases h'
      | some x =>
        obtain ⟨k, d'⟩ := x
        rw [e] at h'
        cases h'
        exact ⟨s.lowSlot e (Nat.min_le_left k 1), s.full (List.mem_append_left _ (slot_mem vr e))⟩
end
theorem VarRs.length {σ : L2.St} : ∀ {ts : List TV} {vs : List V}, VarRs σ ts vs → ts.length = vs.length
  | _, _, .nil => rfl
  | _, _, .cons _ t => congrArg (· + 1) (VarRs.length t)
/-! ### a def's promise -/
def spOf (Z : GD) (K : Frag) (r : List (Nat × D) → Option CRes) (np : Nat) (io : List Bool) : Sp := fun vs H Q E => ∃ F B args, vs.length = np ∧ args.length = np ∧ Roots K F B H (rootsOf vs args) ∧ match r args with
  | some (.ret k d ios) => ∀ v H', Roots K F B H' ((v, k, d) :: rootsOf (ioVs io vs) ios) → Q v H'
  | some (.exc e ios) => ∀ c d H', Roots K F B H' (rootsOf (ioVs io vs) ios) → Z.xr e c d H' → E c d H'
  | none => False
/-- a call, by values -/
theorem call_sp {Z : GD} {K : Frag} {W : WX} {F B H : Hp} {σ : L2.St} {ρ : SEnv} {T : List Root} {io : List Nat} {sig : Nat → List Bool} {φ : Calls} {f : Nat} {ts : List TV} {vs : List V} {Q : V → Hp → Prop}
    (s : StR K F B H σ ρ (pushAll ts vs T)) (vr : VarRs σ ts vs)
    (a : After Z K W F B σ T (callM io sig φ f ts ρ) fun t ρ' => ∀ v H', VarR σ t v → StR K F B H' σ ρ' (pushT t v T) → Q v H') : spOf Z K (φ f) (sig f).length (sig f) vs H Q (WE W σ) := by
  unfold callM at a
  cases e : passIn io (sig f) ts ρ with
  | no => rw [e] at a; exact a.elim
  | ex x ρ1 =>
    exact (NX.passIn _ _ _ e).elim
  | ok args ρ1 =>
    rw [e] at a
    simp only at a
    have s1 := passIn_ok s vr e
    obtain ⟨l1, l2⟩ := passIn_len e
    have lv : ts.length = vs.length := vr.length
    have r1 : Roots K F B H (rootsOf vs args ++ (slotsT σ ρ1 ++ T)) := s1.own.perm (perm_swap3 _ _ _)
    obtain ⟨F', B', r2, back⟩ := r1.frame
    have hl : ∀ (i : Nat) v, σ[i]? = some (some v) → i < ρ1.length := fun i v h => by
      rw [← s1.fit.length]
      exact (List.getElem?_eq_some_iff.mp h).1
    have hnp : vs.length = (sig f).length := by rw [← lv]; exact (passIn_len2 e).symm
    refine ⟨F', B', args, hnp, by rw [l1, lv, hnp], r2, ?_⟩
    cases e2 : φ f args with
    | none => rw [e2] at a; exact a.elim
    | some r =>
      rw [e2] at a
      cases r with
      | ret k d ios =>
        simp only at a ⊢
        refine fun v H' r3 => a v H' trivial ?_
        have r4 := back H' _ r3
        have s4 : StR K F B H' σ ρ1 (rootsOf (ioVs (sig f) vs) ios ++ ((v, k, d) :: T)) := ⟨s1.fit, by
          refine r4.perm ?_
          have p : ((v, k, d) :: rootsOf (ioVs (sig f) vs) ios ++ (slotsT σ ρ1 ++ T)).Perm (slotsT σ ρ1 ++ ((v, k, d) :: rootsOf (ioVs (sig f) vs) ios ++ T)) := perm_swap3 _ _ _
          refine p.trans (List.Perm.append_left _ ?_)
          exact List.perm_middle.symm⟩
        exact putBack_ok hl vr s4
      | exc x ios =>
        simp only at a ⊢
        refine fun c d H' r3 hx => a c d H' ?_ hx
        have r4 := back H' _ r3
        have s4 : StR K F B H' σ ρ1 (rootsOf (ioVs (sig f) vs) ios ++ T) := ⟨s1.fit, r4.perm (perm_swap3 _ _ _)⟩
        exact putBack_ok hl vr s4
end PV

/-! PV3c: from the text to the core language: expressions. -/
namespace PV
open PySem PySem.Spec L2

structure Gam where
  fn : Str → Option Nat
  cst : Str → Option D
  blt : Str → Bool
  exc : Str → Option (Nat × Bool)
structure Cmp where
  N : List Str
  sc : Scope
  loc : List Str
  io : List Nat

/-! ### names -/
def ixOf : List Str → Str → Option Nat
  | [], _ => none
  | y :: ys, x => if decide (y = x) then some 0 else (ixOf ys x).map (· + 1)
theorem ixOf_get : ∀ {N : List Str} {x : Str} {i : Nat}, ixOf N x = some i → N[i]? = some x
  | y :: ys, x, i, h => by
    unfold ixOf at h
    by_cases c : y = x
    · rw [if_pos (decide_eq_true c)] at h; cases h; subst c; rfl
    · rw [if_neg (by simpa using c)] at h
      obtain ⟨j, h1, rfl⟩ := map_some h
      simpa using ixOf_get h1
def vis (sc : Scope) (x : Str) : Bool := match sc.names.lookup x with
  | some .local => true
  | some .cell => true
  | some .free => true
  | _ => false
theorem vis_of {sc : Scope} {x : Str} (h : vis sc x = true) : Vis sc x := by
  unfold vis at h
  unfold Vis
  cases e : sc.names.lookup x with
  | none => rw [e] at h; cases h
  | some k => rw [e] at h; cases k <;> first | cases h; done | simp
def glo (sc : Scope) (x : Str) : Bool := match sc.names.lookup x with
  | some .globalImplicit => true
  | _ => false
theorem glo_of {sc : Scope} {x : Str} (h : glo sc x = true) : sc.names.lookup x = some .globalImplicit := by
  unfold glo at h
  cases e : sc.names.lookup x with
  | none => rw [e] at h; cases h
  | some k => rw [e] at h; cases k <;> first | cases h; done | rfl
def nameOk (x : Str) : Bool := !(x == ("__debug__" : Str)) && !(x == ("__classdict__" : Str)) && !(x == ("__name__" : Str))
theorem nameOk_of {x : Str} (h : nameOk x = true) : (x == ("__debug__" : Str)) = false ∧ (x == ("__classdict__" : Str)) = false ∧ x ≠ "__name__" := by
  have h1 := Bool.and_eq_true_iff.mp h
  have h2 := Bool.and_eq_true_iff.mp h1.1
  refine ⟨by simpa using h2.1, by simpa using h2.2, fun e => ?_⟩
  have h3 := h1.2
  rw [e] at h3
  simp at h3

/-- what the head tells -/
structure Facts (Z : GD) (Γ : Gam) (K : Frag) (mg : Str → Option Value) : Prop where
  fn : ∀ x f, Γ.fn x = some f → mg x = some (.ref (Z.fa f)) ∧ PySem.W.keepIn K (.ref (Z.fa f)) = true ∧ Binds K (Z.fd f) (Z.ps f) [] ∧ ∃ F, Z.PG[f]? = some F ∧ F.io.length = F.np
  cst : ∀ x d, Γ.cst x = some d → ∃ v u, mg x = some u ∧ RelV v u ∧ ∀ G, Rep K G v d
  blt : ∀ x, Γ.blt x = true → mg x = none
  exc : ∀ x j b, Γ.exc x = some (j, b) → j < Z.nc ∧ (x == ("__debug__" : Str)) = false ∧ (mg x = some (Z.xv j) ∨ (mg x = none ∧ bootBuiltins x = some (Z.xv j) ∧ x ≠ "__name__"))
  subs : ∀ i j, i < Z.nc → j < Z.nc → PySem.W.exmOne K (Z.xv i) (Z.xv j) = some (Z.sub i j)
  own : ∀ x j, Γ.exc x = some (j, false) → ∃ B newId initId bmB C, Z.xv j = .ref C ∧ mg x = some (.ref C) ∧ ExcBaseFacts B newId initId bmB ∧ PySem.W.excIn K C bmB newId = true ∧ PySem.W.keepIn K (.ref C) = true ∧
    (∀ (M : Model) (h : Heap), K.In h → PySem.W.Looks M h (isSubtype (.ref C) (.type "BaseException")) true ∧ PySem.W.Looks M h (typeOf (.ref C)) (.type "type"))
  xr : ∀ e cl d H, Z.xr e cl d H ↔ (e.c < Z.nc ∧ cl = Z.xv e.c ∧ match e.v with
    | none => d = none
    | some v => ∃ dx w, d = some dx ∧ H dx = some (.xd [(Z.xf e.c, w)]) ∧ isFlat v = true ∧ ∀ G, Rep K G w v)
/-- where an expression stands -/
structure Ok (Z : GD) (Γ : Gam) (lvl : Nat) (c : Cmp) (W : WX) (X : Cx) : Prop where
  facts : Facts Z Γ X.K X.mg
  snd : ∀ f F, Z.PG[f]? = some F → FnOk X.prog X.w X.K X.mg X.base (L2.CX X.prog X.w) lvl (Z.fa f) (Z.fd f) (Z.ps f) (spOf Z X.K (run Z.sub Z.PG lvl f) F.np F.io)
  N : X.N = c.N
  nd : c.N.Nodup
  sc : X.env.scope = c.sc
  loc : ∀ x ∈ c.loc, Loc X.env.scope x ∧ (X.fn x = true ∨ X.env.scope.names.lookup x = some .local)
  calm : X.calm = true
  room : Room lvl X.A
  tk : Takes X W
noncomputable def e0 (Z : GD) (lvl : Nat) (c : Cmp) : PV.Env0 := ⟨whileM, Z.sub, c.io, sigOf Z.PG, run Z.sub Z.PG lvl⟩
section
variable {Z : GD} {Γ : Gam} {lvl : Nat} {c : Cmp} {W : WX} {X : Cx}
theorem Ok.hu (o : Ok Z Γ lvl c W X) : X.A.units + 65 < cLine := by have := o.room.un; omega
theorem Ok.gl (o : Ok Z Γ lvl c W X) {x : Str} (h : glo c.sc x = true) : Gl X x := by
  show X.env.scope.names.lookup x = _
  rw [o.sc]; exact glo_of h
def SE (Z : GD) (Γ : Gam) (lvl : Nat) (c : Cmp) (e : Expr) (ce : CE) : Prop := ∀ X W, Ok Z Γ lvl c W X → PE X e (rdE Z X.K W (denE (e0 Z lvl c) ce))
def SA (Z : GD) (Γ : Gam) (lvl : Nat) (c : Cmp) (es : List Expr) (ces : CEs) : Prop := ∀ X W, Ok Z Γ lvl c W X → PA X es (rdA Z X.K W (denA (e0 Z lvl c) ces))
def SB (Z : GD) (Γ : Gam) (lvl : Nat) (c : Cmp) (e : Expr) (cb : CB) : Prop := ∀ X W, Ok Z Γ lvl c W X → PT X e (rdT Z X.K W (denT (e0 Z lvl c) cb))
theorem PE.weak {X : Cx} {e : Expr} {t t' : TE} (h : PE X e t) (w : ∀ σ H Q, t' σ H Q → t σ H Q) : PE X e t' := ⟨fun pins s σ H Q I q => h.run pins s σ H Q I (w σ H Q q)⟩
theorem PT.weak {X : Cx} {e : Expr} {t t' : TT} (h : PT X e t) (w : ∀ σ H Q, t' σ H Q → t σ H Q) : PT X e t' := ⟨fun pins s σ H Q I q => h.run pins s σ H Q I (w σ H Q q)⟩
theorem PA.weak {X : Cx} {e : List Expr} {t t' : TA} (h : PA X e t) (w : ∀ σ H Q, t' σ H Q → t σ H Q) : PA X e t' := ⟨fun pos pins s σ H Q I q => h.run pos pins s σ H Q I (w σ H Q q)⟩

/-! ### literals and names -/
theorem lit_rd {K : Frag} {W : WX} {v : V} {d : D} {σ : L2.St} {H : Hp} {Q : VK} (r : ∀ G, Rep K G v d) (h : rdE Z K W (M.pure (.pv 0 d)) σ H Q) : Q v H := by
  obtain ⟨F, B, ρ, T, s, a⟩ := h
  exact a v H trivial (s.behind fun S q => Roots.scal q r)
theorem s_int {i : Int} {k pos} : SE Z Γ lvl c (.Constant (.int i) k pos) (.lit (.int i)) := fun X W o => PE.weak pe_int fun σ H Q h => lit_rd (fun G => .int i) h
theorem s_bl {i : Bool} {k pos} : SE Z Γ lvl c (.Constant (.bool i) k pos) (.lit (.bool i)) := fun X W o => PE.weak pe_bl fun σ H Q h => lit_rd (fun G => .bl i) h
theorem s_str {i : Str} {k pos} : SE Z Γ lvl c (.Constant (.str i) k pos) (.lit (.str i)) := fun X W o => PE.weak pe_str fun σ H Q h => lit_rd (fun G => .str i) h
theorem s_non {k pos} : SE Z Γ lvl c (.Constant .none k pos) (.lit .none) := fun X W o => PE.weak pe_non fun σ H Q h => lit_rd (fun G => .non) h
theorem rd_ok {i : Nat} {t : TV} {ρ ρ' : SEnv} (h : rd i ρ = .ok t ρ') : ρ' = ρ ∧ ∃ k d, ρ[i]? = some (some (k, d)) ∧ ((t = .var i ∧ isC d = true ∧ k ≠ 0) ∨ (t = .pv 0 d ∧ (isC d = false ∨ k = 0))) := by
  unfold rd at h
  cases e : ρ[i]? with
  | none => rw [e] at h; cases h
  | some o =>
    cases o with
    | none => rw [e] at h; cases h
    | some x =>
      obtain ⟨k, d⟩ := x
      rw [e] at h
      simp only at h
      by_cases c : (isC d && k != 0) = true
      · rw [if_pos c] at h
        cases h
        have c := Bool.and_eq_true_iff.mp c
        exact ⟨rfl, k, d, rfl, .inl ⟨rfl, c.1, by simpa using c.2⟩⟩
      · rw [if_neg c] at h
        cases h
        refine ⟨rfl, k, d, rfl, .inr ⟨rfl, ?_⟩⟩
        cases hd : isC d with
        | false => exact .inl rfl
        | true => right; rw [hd] at c; simpa using c
theorem NX.rd {i : Nat} : NX (rd i) := fun ρ e ρ' h => by
  unfold PV.rd at h
  split at h
  · split at h <;> cases h
  · cases h
theorem s_var {x : Str} {i : Nat} {pos} (h1 : ixOf c.N x = some i) (h2 : vis c.sc x = true) (h3 : nameOk x = true) : SE Z Γ lvl c (.Name x pos) (.var i) := fun X W o => by
  have n := nameOk_of h3
  refine PE.weak (pe_var (by rw [o.N]; exact ixOf_get h1) (by rw [o.sc]; exact vis_of h2) n.1 n.2.1) fun σ H Q h => ?_
  obtain ⟨F, B, ρ, T, s, a⟩ := h
  obtain ⟨t, ρ', e, p⟩ := a.nx (m := rd i) NX.rd
  obtain ⟨rfl, k, d, e1, e2⟩ := rd_ok e
  obtain ⟨v, hv⟩ := s.fit.get e1
  refine ⟨v, hv, p v H ?_ ?_⟩
  · rcases e2 with ⟨rfl, _⟩ | ⟨rfl, _⟩
    · exact hv
    · trivial
  · rcases e2 with ⟨rfl, _⟩ | ⟨rfl, q⟩
    · exact s
    · exact s.dupSlot hv e1 q
theorem s_glob {x : Str} {d : D} {pos} (h1 : Γ.cst x = some d) (h2 : glo c.sc x = true) (h3 : nameOk x = true) : SE Z Γ lvl c (.Name x pos) (.glob x d) := fun X W o => by
  obtain ⟨v, u, e1, r, rp⟩ := o.facts.cst x d h1
  exact PE.weak (pe_glob (o.gl h2) e1 r (nameOk_of h3).1) fun σ H Q h => lit_rd rp h

/-! ### steps -/
theorem step {K : Frag} {W : WX} {F B H : Hp} {σ : L2.St} {ρ : SEnv} {T : List Root} {β : Type} {m : M TV} {f : TV → M β} {post : β → SEnv → Prop} {Q : V → Hp → Prop} (s : StR K F B H σ ρ T) (a : After Z K W F B σ T ((m.bind f) ρ) post)
    (k : ∀ t ρ' v H', VarR σ t v → StR K F B H' σ ρ' (pushT t v T) → After Z K W F B σ T (f t ρ') post → Q v H') : rdE Z K W m σ H Q :=
  ⟨F, B, ρ, T, s, a.bind.mono fun t ρ' _ q v H' vr s' => k t ρ' v H' vr s' q⟩
theorem stepT {K : Frag} {W : WX} {F B H : Hp} {σ : L2.St} {ρ : SEnv} {T : List Root} {β : Type} {m : M Bool} {f : Bool → M β} {post : β → SEnv → Prop} {Q : Bool → Hp → Prop} (s : StR K F B H σ ρ T) (a : After Z K W F B σ T ((m.bind f) ρ) post)
    (k : ∀ t ρ' H', StR K F B H' σ ρ' T → After Z K W F B σ T (f t ρ') post → Q t H') : rdT Z K W m σ H Q :=
  ⟨F, B, ρ, T, s, a.bind.mono fun t ρ' _ q H' s' => k t ρ' H' s' q⟩
theorem stepA {K : Frag} {W : WX} {F B H : Hp} {σ : L2.St} {ρ : SEnv} {T : List Root} {β : Type} {m : M (List TV)} {f : List TV → M β} {post : β → SEnv → Prop} {Q : List V → Hp → Prop} (s : StR K F B H σ ρ T) (a : After Z K W F B σ T ((m.bind f) ρ) post)
    (k : ∀ ts ρ' vs H', VarRs σ ts vs → StR K F B H' σ ρ' (pushAll ts vs T) → After Z K W F B σ T (f ts ρ') post → Q vs H') : rdA Z K W m σ H Q :=
  ⟨F, B, ρ, T, s, a.bind.mono fun t ρ' _ q v H' vr s' => k t ρ' v H' vr s' q⟩
/-- the same, what is held besides being more -/
theorem step2 {K : Frag} {W : WX} {F B H : Hp} {σ : L2.St} {ρ : SEnv} {T : List Root} {β : Type} {t0 : TV} {v0 : V} {m : M TV} {f : TV → M β} {post : β → SEnv → Prop} {Q : V → Hp → Prop} (s : StR K F B H σ ρ (pushT t0 v0 T)) (a : After Z K W F B σ T ((m.bind f) ρ) post)
    (k : ∀ t ρ' v H', VarR σ t v → StR K F B H' σ ρ' (pushT t v (pushT t0 v0 T)) → After Z K W F B σ T (f t ρ') post → Q v H') : rdE Z K W m σ H Q :=
  ⟨F, B, ρ, _, s, a.bind.push.mono fun t ρ' _ q v H' vr s' => k t ρ' v H' vr s' q⟩

/-! ### operators -/
theorem s_bin {op : BOp} {a b : Expr} {ca cb : CE} {pos} (ha : SE Z Γ lvl c a ca) (hb : SE Z Γ lvl c b cb) : SE Z Γ lvl c (.BinOp a (pyBin op) b pos) (.bin op ca cb) := fun X W o => by
  refine PE.weak (pe_op (op_bin op) (ha X W o) (hb X W o)) fun σ H Q h => ?_
  obtain ⟨F, B, ρ, T, s, p⟩ := h
  refine step s p fun t1 ρ1 v1 H1 r1 s1 p => ?_
  refine step2 s1 p fun t2 ρ2 v2 H2 r2 s2 p => ?_
  obtain ⟨ds, ρ3, e, p⟩ := p.bind.nx .bors
  obtain ⟨G, fp, fit, rg, ba⟩ := bors_use (ts := [t1, t2]) (vs := [v1, v2]) s2 (.cons r1 (.cons r2 .nil)) e
  cases ba with
  | cons b1 t =>
    cases t with
    | cons b2 t =>
      cases t
      obtain ⟨⟨k, d⟩, e5, p⟩ := p.optMap
      exact ⟨G, _, _, k, d, rg.gh, b1, b2, e5, yield_of fit rg fun v H' s' => p v H' trivial s'⟩
theorem s_un {op : UOp} {a : Expr} {ca : CE} {pos} (ha : SE Z Γ lvl c a ca) : SE Z Γ lvl c (.UnaryOp (pyUn op) a pos) (.un op ca) := fun X W o => by
  refine PE.weak (pe_un (op_un op) (ha X W o)) fun σ H Q h => ?_
  obtain ⟨F, B, ρ, T, s, p⟩ := h
  refine step s p fun t1 ρ1 v1 H1 r1 s1 p => ?_
  obtain ⟨d1, ρ3, e, p⟩ := p.bind.nx .bor
  have e' : bors [t1] ρ1 = .ok [d1] ρ3 := by unfold bors; unfold M.bind; rw [e]; rfl
  obtain ⟨G, fp, fit, rg, ba⟩ := bors_use (ts := [t1]) (vs := [v1]) s1 (.cons r1 .nil) e'
  cases ba with
  | cons b1 t =>
    cases t
    obtain ⟨d, e5, p⟩ := p.optMap
    exact ⟨G, _, d, rg.gh, b1, e5, yield_of fit rg fun v H' s' => p v H' trivial s'⟩
/-- two values looked at -/
theorem two_seen {K : Frag} {F B H : Hp} {σ : L2.St} {ρ ρ' : SEnv} {T : List Root} {t1 t2 : TV} {v1 v2 : V} {ds : List D} (s : StR K F B H σ ρ (pushT t2 v2 (pushT t1 v1 T))) (r1 : VarR σ t1 v1) (r2 : VarR σ t2 v2) (e : bors [t1, t2] ρ = .ok ds ρ') :
    ∃ d1 d2, ds = [d1, d2] ∧ Rep K H v1 d1 ∧ Rep K H v2 d2 ∧ StR K F B H σ ρ' T := by
  obtain ⟨G, fp, fit, rg, ba⟩ := bors_use (ts := [t1, t2]) (vs := [v1, v2]) s (.cons r1 (.cons r2 .nil)) e
  cases ba with
  | cons b1 t =>
    cases t with
    | cons b2 t =>
      cases t
      exact ⟨_, _, rfl, b1.full rg.gh, b2.full rg.gh, ⟨fit, _, _, rg⟩⟩
theorem s_cmp {op : COp} {a b : Expr} {ca cb : CE} {pos} (ha : SE Z Γ lvl c a ca) (hb : SE Z Γ lvl c b cb) (hm : behindInMarks (pyCmp op) b = false) : SE Z Γ lvl c (.Compare a [pyCmp op] [b] pos) (.cmp op ca cb) := fun X W o => by
  refine PE.weak (pe_cmpR (op_cmp op o.hu) (ha X W o) (hb X W o) hm) fun σ H Q h => ?_
  obtain ⟨F, B, ρ, T, s, p⟩ := h
  refine step s p fun t1 ρ1 v1 H1 r1 s1 p => ?_
  refine step2 s1 p fun t2 ρ2 v2 H2 r2 s2 p => ?_
  obtain ⟨ds, ρ3, e, p⟩ := p.bind.nx .bors
  obtain ⟨d1, d2, rfl, b1, b2, s3⟩ := two_seen s2 r1 r2 e
  obtain ⟨k, e5, p⟩ := p.optMap
  exact ⟨d1, d2, k, b1, b2, e5, p (.bl k) H2 trivial (s3.behind fun S q => q.scal fun G => .bl k)⟩
theorem t_cmp {op : COp} {a b : Expr} {ca cb : CE} {pos} (ha : SE Z Γ lvl c a ca) (hb : SE Z Γ lvl c b cb) (hm : behindInMarks (pyCmp op) b = false) : SB Z Γ lvl c (.Compare a [pyCmp op] [b] pos) (.cmp op ca cb) := fun X W o => by
  refine PT.weak (pt_cmpR (op_cmp op o.hu) (ha X W o) (hb X W o) hm) fun σ H Q h => ?_
  obtain ⟨F, B, ρ, T, s, p⟩ := h
  refine step s p fun t1 ρ1 v1 H1 r1 s1 p => ?_
  refine step2 s1 p fun t2 ρ2 v2 H2 r2 s2 p => ?_
  obtain ⟨ds, ρ3, e, p⟩ := p.bind.nx .bors
  obtain ⟨d1, d2, rfl, b1, b2, s3⟩ := two_seen s2 r1 r2 e
  obtain ⟨k, e4, p⟩ := p.opt
  exact ⟨d1, d2, k, b1, b2, e4, k, rfl, p H2 s3⟩
theorem pvOf_ok {t : TV} {d : D} {ρ ρ' : SEnv} (h : pvOf t ρ = .ok d ρ') : ρ' = ρ ∧ ∃ k, t = .pv k d := by
  cases t with
  | pv k d' => cases h; exact ⟨rfl, k, rfl⟩
  | var i => cases h
/-- a chain of two comparisons: what both forms have in common -/
theorem chain_rd {K : Frag} {op op2 : COp} {ca cb cc : CE} {α : Type} {fin : Bool → α} {σ : L2.St} {H : Hp} {post : V → Hp → Prop} {F B : Hp} {ρ : SEnv} {T : List Root} {E : PV.Env0} {po : α → SEnv → Prop}
    (s : StR K F B H σ ρ T)
    (p : After Z K W F B σ T (((denE E ca).bind fun s => (denE E cb).bind fun t => (bor s).bind fun x => (pvOf t).bind fun y => (M.opt (cmpop op x y)).bind fun k => if k = true then (denE E cc).bind fun u => (bor u).bind fun z => M.opt ((cmpop op2 y z).map fin) else M.pure (fin false)) ρ) po)
    (hp : ∀ k ρ' H', StR K F B H' σ ρ' T → po (fin k) ρ' → post (.bl k) H') :
    rdE Z K W (denE E ca) σ H fun x H1 => rdE Z K W (denE E cb) σ H1 fun y H2 => rCmp K op x y H2 fun z H3 => ∃ k, z = .bl k ∧ (if k = true then rdE Z K W (denE E cc) σ H3 fun w' H4 => rCmp K op2 y w' H4 post else post (.bl false) H3) := by
  refine step s p fun t1 ρ1 v1 H1 r1 s1 p => ?_
  refine step2 s1 p fun t2 ρ2 v2 H2 r2 s2 p => ?_
  obtain ⟨d1, ρ3, e1, p⟩ := p.bind.nx .bor
  obtain ⟨d2, ρ4, e2, p⟩ := p.bind.nx .pvOf
  obtain ⟨k0, e3, p⟩ := p.bind.opt
  obtain ⟨rfl, k2, rfl⟩ := pvOf_ok e2
  -- the first value is looked at
  have s2' : StR K F B H2 σ ρ2 (pushT t1 v1 (pushT (.pv k2 d2) v2 T)) := by
    cases t1 with
    | pv k d => exact s2.behind fun S r => r.perm (.swap _ _ _)
    | var i => exact s2
  obtain ⟨s3, b1⟩ := bor_peek s2' r1 e1
  have b2 : Rep K H2 v2 d2 := s3.full (k := k2) (List.mem_append_right _ (by cases t1; exact List.mem_cons_of_mem _ List.mem_cons_self; exact List.mem_cons_self))
  have s4 : StR K F B H2 σ ρ4 (pushT (.pv k2 d2) v2 T) := by
    cases t1 with
    | pv k d => exact s3.behind fun S r => r.drop
    | var i => exact s3
  refine ⟨d1, d2, k0, b1, b2, e3, k0, rfl, ?_⟩
  cases k0 with
  | false =>
    rw [if_neg Bool.false_ne_true] at p ⊢
    exact hp false _ H2 (s4.behind fun S r => r.drop) p
  | true =>
    rw [if_pos rfl] at p ⊢
    refine step2 s4 p fun t3 ρ6 v3 H3 r3 s5 p => ?_
    obtain ⟨d3, ρ7, e4, p⟩ := p.bind.nx .bor
    obtain ⟨s6, b3⟩ := bor_peek s5 r3 e4
    obtain ⟨k, e6, p⟩ := p.optMap
    have b2' : Rep K H3 v2 d2 := s6.full (k := k2) (List.mem_append_right _ (by cases t3; exact List.mem_cons_of_mem _ List.mem_cons_self; exact List.mem_cons_self))
    refine ⟨d2, d3, k, b2', b3, e6, hp k _ H3 ?_ p⟩
    cases t3 with
    | pv k' d' => exact s6.behind fun S r => r.drop.drop
    | var i => exact s6.behind fun S r => r.drop
theorem s_chain {op op2 : COp} {a b d : Expr} {ca cb cd : CE} {pos} (ha : SE Z Γ lvl c a ca) (hb : SE Z Γ lvl c b cb) (hd : SE Z Γ lvl c d cd) (hm : lastMarks [pyCmp op, pyCmp op2] [b, d] = false) : SE Z Γ lvl c (.Compare a [pyCmp op, pyCmp op2] [b, d] pos) (.chain op op2 ca cb cd) := fun X W o => by
  refine PE.weak (pe_chain (op_cmp op o.hu) (op_cmp op2 o.hu) (ha X W o) (hb X W o) (hd X W o) hm) fun σ H Q h => ?_
  obtain ⟨F, B, ρ, T, s, p⟩ := h
  exact chain_rd (fin := fun c => TV.pv 0 (.bool c)) s p fun k ρ' H' s' p => p (.bl k) H' trivial (s'.behind fun S q => q.scal fun G => .bl k)
theorem t_chain {op op2 : COp} {a b d : Expr} {ca cb cd : CE} {pos} (ha : SE Z Γ lvl c a ca) (hb : SE Z Γ lvl c b cb) (hd : SE Z Γ lvl c d cd) (hm : lastMarks [pyCmp op, pyCmp op2] [b, d] = false) : SB Z Γ lvl c (.Compare a [pyCmp op, pyCmp op2] [b, d] pos) (.chain op op2 ca cb cd) := fun X W o => by
  refine PT.weak (pt_chain (op_cmp op o.hu) (op_cmp op2 o.hu) (ha X W o) (hb X W o) (hd X W o) hm) fun σ H Q h => ?_
  obtain ⟨F, B, ρ, T, s, p⟩ := h
  exact chain_rd (fin := fun c => c) s p fun k ρ' H' s' p => ⟨k, rfl, p H' s'⟩

/-! ### tests -/
theorem t_val {a : Expr} {ca : CE} (ha : SE Z Γ lvl c a ca) (he : ∀ env whole, isTrue a env whole = (do let v ← whole; standAt a.pos; holding [v] (truthy v))) : SB Z Γ lvl c a (.val ca) := fun X W o => by
  refine PT.weak (pt_truth (ha X W o) (he X.env)) fun σ H Q h => ?_
  obtain ⟨F, B, ρ, T, s, p⟩ := h
  refine step s p fun t1 ρ1 v1 H1 r1 s1 p => ?_
  obtain ⟨d1, ρ3, e1, p⟩ := p.bind.nx .bor
  obtain ⟨s2, b1⟩ := bor_peek s1 r1 e1
  obtain ⟨k, e2, p⟩ := p.opt
  refine ⟨k, truV_of b1 e2, p H1 ?_⟩
  cases t1 with
  | pv k d => exact s2.behind fun S r => r.drop
  | var i => exact s2
theorem t_not {a : Expr} {ca : CB} {pos} (ha : SB Z Γ lvl c a ca) : SB Z Γ lvl c (.UnaryOp .Not a pos) (.not ca) := fun X W o => by
  refine PT.weak (pt_not (ha X W o)) fun σ H Q h => ?_
  obtain ⟨F, B, ρ, T, s, p⟩ := h
  exact stepT s p fun k ρ1 H1 s1 p => p H1 s1
/-- 'and', 'or' as tests: whatever the whole is -/
def SW (Z : GD) (Γ : Gam) (lvl : Nat) (c : Cmp) (e : Expr) (cb : CB) : Prop := ∀ X W, Ok Z Γ lvl c W X → PW X e (rdT Z X.K W (denT (e0 Z lvl c) cb))
theorem PW.weak {X : Cx} {e : Expr} {t t' : TT} (h : PW X e t) (w : ∀ σ H Q, t' σ H Q → t σ H Q) : PW X e t' := ⟨fun wh pins s σ H Q I q => h.run wh pins s σ H Q I (w σ H Q q)⟩
theorem w_and1 {a : Expr} {ca : CB} {pos} (ha : SB Z Γ lvl c a ca) : SW Z Γ lvl c (.BoolOp .And [a] pos) ca := fun X W o => pw_and1 (ha X W o)
theorem w_or1 {a : Expr} {ca : CB} {pos} (ha : SB Z Γ lvl c a ca) : SW Z Γ lvl c (.BoolOp .Or [a] pos) ca := fun X W o => pw_or1 (ha X W o)
theorem w_and {a b : Expr} {rest : List Expr} {ca cb : CB} {pos} (ha : SB Z Γ lvl c a ca) (hb : SW Z Γ lvl c (.BoolOp .And (b :: rest) pos) cb) : SW Z Γ lvl c (.BoolOp .And (a :: b :: rest) pos) (.and ca cb) := fun X W o => by
  refine PW.weak (pw_and (ha X W o) (hb X W o)) fun σ H Q h => ?_
  obtain ⟨F, B, ρ, T, s, p⟩ := h
  refine stepT s p fun k ρ1 H1 s1 p => ?_
  cases k with
  | true => rw [if_pos rfl] at p ⊢; exact ⟨F, B, ρ1, T, s1, p⟩
  | false => rw [if_neg Bool.false_ne_true] at p ⊢; exact p H1 s1
theorem w_or {a b : Expr} {rest : List Expr} {ca cb : CB} {pos} (ha : SB Z Γ lvl c a ca) (hb : SW Z Γ lvl c (.BoolOp .Or (b :: rest) pos) cb) : SW Z Γ lvl c (.BoolOp .Or (a :: b :: rest) pos) (.or ca cb) := fun X W o => by
  refine PW.weak (pw_or (ha X W o) (hb X W o)) fun σ H Q h => ?_
  obtain ⟨F, B, ρ, T, s, p⟩ := h
  refine stepT s p fun k ρ1 H1 s1 p => ?_
  cases k with
  | false => rw [if_neg Bool.false_ne_true] at p ⊢; exact ⟨F, B, ρ1, T, s1, p⟩
  | true => rw [if_pos rfl] at p ⊢; exact p H1 s1
theorem SW.sb {e : Expr} {cb : CB} (h : SW Z Γ lvl c e cb) : SB Z Γ lvl c e cb := fun X W o => (h X W o).pt
/-- a test as a value -/
theorem s_not {a : Expr} {ca : CE} {pos} (ha : SE Z Γ lvl c a ca) : SE Z Γ lvl c (.UnaryOp .Not a pos) (.not (.val ca)) := fun X W o => by
  refine PE.weak (pe_notT (ha X W o)) fun σ H Q h => ?_
  obtain ⟨F, B, ρ, T, s, p⟩ := h
  have p := p.bind.bind
  refine ⟨F, B, ρ, T, s, p.mono fun t1 ρ1 _ p v1 H1 r1 s1 => ?_⟩
  obtain ⟨d1, ρ3, e1, p⟩ := p.bind.nx .bor
  obtain ⟨s2, b1⟩ := bor_peek s1 r1 e1
  obtain ⟨k, e2, p⟩ := p.opt
  refine ⟨k, truV_of b1 e2, p (.bl !k) H1 trivial ?_⟩
  cases t1 with
  | pv k' d => exact s2.behind fun S r => r.drop.scal fun G => .bl _
  | var i => exact s2.behind fun S r => r.scal fun G => .bl _
theorem s_one {op : BoolOp} {a : Expr} {ca : CE} {pos} (ha : SE Z Γ lvl c a ca) : SE Z Γ lvl c (.BoolOp op [a] pos) ca := fun X W o => pe_one (ha X W o)
theorem s_and {a b : Expr} {rest : List Expr} {ca cb : CE} {pos} (ha : SE Z Γ lvl c a ca) (hb : SE Z Γ lvl c (.BoolOp .And (b :: rest) pos) cb) : SE Z Γ lvl c (.BoolOp .And (a :: b :: rest) pos) (.and ca cb) := fun X W o => by
  refine PE.weak (pe_andT (ha X W o) (hb X W o)) fun σ H Q h => ?_
  obtain ⟨F, B, ρ, T, s, p⟩ := h
  refine step s p fun t1 ρ1 v1 H1 r1 s1 p => ?_
  obtain ⟨d1, ρ3, e1, p⟩ := p.bind.nx .bor
  obtain ⟨s2, b1⟩ := bor_peek s1 r1 e1
  obtain ⟨k, e2, p⟩ := p.bind.opt
  refine ⟨k, truV_of b1 e2, ?_⟩
  cases k with
  | true =>
    rw [if_pos rfl] at p ⊢
    refine ⟨F, B, ρ3, T, ?_, p⟩
    cases t1 with
    | pv k d => exact s2.behind fun S r => r.drop
    | var i => exact s2
  | false =>
    rw [if_neg Bool.false_ne_true] at p ⊢
    obtain ⟨d2, ρ4, e3, p⟩ := p.bind.nx .frz
    exact p v1 H1 trivial (frz_hold s2 r1 e3)
theorem s_or {a b : Expr} {rest : List Expr} {ca cb : CE} {pos} (ha : SE Z Γ lvl c a ca) (hb : SE Z Γ lvl c (.BoolOp .Or (b :: rest) pos) cb) : SE Z Γ lvl c (.BoolOp .Or (a :: b :: rest) pos) (.or ca cb) := fun X W o => by
  refine PE.weak (pe_orT (ha X W o) (hb X W o)) fun σ H Q h => ?_
  obtain ⟨F, B, ρ, T, s, p⟩ := h
  refine step s p fun t1 ρ1 v1 H1 r1 s1 p => ?_
  obtain ⟨d1, ρ3, e1, p⟩ := p.bind.nx .bor
  obtain ⟨s2, b1⟩ := bor_peek s1 r1 e1
  obtain ⟨k, e2, p⟩ := p.bind.opt
  refine ⟨k, truV_of b1 e2, ?_⟩
  cases k with
  | false =>
    rw [if_neg Bool.false_ne_true] at p ⊢
    refine ⟨F, B, ρ3, T, ?_, p⟩
    cases t1 with
    | pv k d => exact s2.behind fun S r => r.drop
    | var i => exact s2
  | true =>
    rw [if_pos rfl] at p ⊢
    obtain ⟨d2, ρ4, e3, p⟩ := p.bind.nx .frz
    exact p v1 H1 trivial (frz_hold s2 r1 e3)
theorem s_ite {t a b : Expr} {ct : CB} {ca cb : CE} {pos} (ht : SB Z Γ lvl c t ct) (ha : SE Z Γ lvl c a ca) (hb : SE Z Γ lvl c b cb) : SE Z Γ lvl c (.IfExp t a b pos) (.ite ct ca cb) := fun X W o => by
  refine PE.weak (pe_ifExp (ht X W o) (ha X W o) (hb X W o)) fun σ H Q h => ?_
  obtain ⟨F, B, ρ, T, s, p⟩ := h
  refine stepT s p fun k ρ1 H1 s1 p => ?_
  cases k with
  | true => rw [if_pos rfl] at p ⊢; exact ⟨F, B, ρ1, T, s1, p⟩
  | false => rw [if_neg Bool.false_ne_true] at p ⊢; exact ⟨F, B, ρ1, T, s1, p⟩
/-! ### arguments, displays -/
def notStar : Expr → Bool
  | .Starred .. => false
  | _ => true
theorem star1 {e : Expr} {es : List Expr} {env : Env} (h : notStar e = true) : starEach (e :: es) env = (false, eval e env) :: starEach es env := by
  cases e <;> first | rfl | cases h
theorem plainArgs {pos : Pos} {env : Env} : ∀ {es : List Expr}, es.all notStar = true → (backTo pos (starEach es env)).any (·.1) = false
  | [], _ => rfl
  | e :: es, h => by
    have h := Bool.and_eq_true_iff.mp h
    rw [star1 h.1]
    show (false || (backTo pos (starEach es env)).any (·.1)) = false
    rw [Bool.false_or]
    exact plainArgs h.2
theorem a_nil : SA Z Γ lvl c [] .nil := fun X W o => PA.weak pa_nil fun σ H Q h => by
  obtain ⟨F, B, ρ, T, s, p⟩ := h
  exact p [] H .nil s
theorem a_cons {e : Expr} {es : List Expr} {ce : CE} {ces : CEs} (hn : notStar e = true) (he : SE Z Γ lvl c e ce) (hs : SA Z Γ lvl c es ces) : SA Z Γ lvl c (e :: es) (.cons ce ces) := fun X W o => by
  refine PA.weak (pa_cons (he X W o) (hs X W o) (star1 hn)) fun σ H Q h => ?_
  obtain ⟨F, B, ρ, T, s, p⟩ := h
  refine step s p fun t1 ρ1 v1 H1 r1 s1 p => ?_
  refine ⟨F, B, ρ1, _, s1, p.bind.push.mono fun ts ρ2 _ q vs H2 rs s2 => ?_⟩
  exact q (v1 :: vs) H2 (.cons r1 rs) s2
theorem s_tup {es : List Expr} {ces : CEs} {k pos} (hs : SA Z Γ lvl c es ces) : SE Z Γ lvl c (.Tuple es k pos) (.tup ces) := fun X W o => by
  refine PE.weak (pe_tup (hs X W o)) fun σ H Q h => ?_
  obtain ⟨F, B, ρ, T, s, p⟩ := h
  refine stepA s p fun ts ρ1 vs H1 rs s1 p => ?_
  obtain ⟨ds, ρ2, e, p⟩ := p.bind.nx .frzs
  obtain ⟨G, fp, fit, rg, ra⟩ := frzs_use s1 rs e
  by_cases hz : sizeOk ds.length = true
  · rw [if_pos hz] at p
    refine ⟨by rw [ra.length]; exact of_decide_eq_true hz, fun q hq => ?_⟩
    exact Yields.tup rg.gh (yield_of fit rg fun v H' s' => p v H' trivial s') ra q hq
  · rw [if_neg hz] at p; exact p.elim
theorem s_lst {es : List Expr} {ces : CEs} {pos} (hs : SA Z Γ lvl c es ces) : SE Z Γ lvl c (.List es pos) (.lst ces) := fun X W o => by
  refine PE.weak (pe_lst (hs X W o)) fun σ H Q h => ?_
  obtain ⟨F, B, ρ, T, s, p⟩ := h
  refine stepA s p fun ts ρ1 vs H1 rs s1 p => ?_
  obtain ⟨xs, ρ2, e, p⟩ := p.bind.nx .items
  obtain ⟨s2, hl⟩ := items_ok s1 rs e
  by_cases hz : sizeOk xs.length = true
  · rw [if_pos hz] at p
    exact ⟨by rw [hl]; exact of_decide_eq_true hz, fun q hq => p _ _ trivial (s2.newList hl hq)⟩
  · rw [if_neg hz] at p; exact p.elim
/-! ### subscripts -/
theorem plainIx {b : Expr} (h : (match b with | .Slice .. => false | _ => true) = true) : PlainIx b := by
  intro o i
  cases b <;> first | rfl | cases h
theorem s_idx {a b : Expr} {ca cb : CE} {pos} (hn : (match b with | .Slice .. => false | _ => true) = true) (ha : SE Z Γ lvl c a ca) (hb : SE Z Γ lvl c b cb) : SE Z Γ lvl c (.Subscript a b pos) (.idx ca cb) := fun X W o => by
  refine PE.weak (pe_ix ix_d (ha X W o) (hb X W o) (plainIx hn)) fun σ H Q h => ?_
  obtain ⟨F, B, ρ, T, s, p⟩ := h
  refine step s p fun t1 ρ1 v1 H1 r1 s1 p => ?_
  refine step2 s1 p fun t2 ρ2 v2 H2 r2 s2 p => ?_
  obtain ⟨ds, ρ3, e, p⟩ := p.bind.nx .bors
  obtain ⟨G, fp, fit, rg, ba⟩ := bors_use (ts := [t1, t2]) (vs := [v1, v2]) s2 (.cons r1 (.cons r2 .nil)) e
  cases ba with
  | cons b1 t =>
    cases t with
    | cons b2 t =>
      cases t
      obtain ⟨d, e5, p⟩ := p.optMap
      exact ⟨G, _, _, d, rg.gh, b1, b2, e5, yield_of fit rg fun v H' s' => p v H' trivial s'⟩
def SO (Z : GD) (Γ : Gam) (lvl : Nat) (c : Cmp) (e : Option Expr) (ce : CO) : Prop := ∀ X W, Ok Z Γ lvl c W X → PO X e (rdO Z X.K W (denO (e0 Z lvl c) ce))
theorem PO.weak {X : Cx} {e : Option Expr} {t t' : TO} (h : PO X e t) (w : ∀ σ H Q, t' σ H Q → t σ H Q) : PO X e t' := ⟨fun pins s σ H Q I q => h.run pins s σ H Q I (w σ H Q q)⟩
theorem o_none : SO Z Γ lvl c none .none := fun X W o => PO.weak po_none fun σ H Q h => by
  obtain ⟨F, B, ρ, T, s, p⟩ := h
  exact p H s
theorem o_some {e : Expr} {ce : CE} (he : SE Z Γ lvl c e ce) : SO Z Γ lvl c (some e) (.some ce) := fun X W o => by
  refine PO.weak (po_some (he X W o)) fun σ H Q h => ?_
  obtain ⟨F, B, ρ, T, s, p⟩ := h
  refine step s p fun t1 ρ1 v1 H1 r1 s1 p => ?_
  obtain ⟨d, ρ2, e1, p⟩ := p.bind.nx .bor
  obtain ⟨s2, b1⟩ := bor_peek s1 r1 e1
  cases d with
  | int i =>
    cases b1
    refine ⟨i, rfl, p H1 ?_⟩
    cases t1 with
    | pv k d => exact s2.behind fun S r => r.drop
    | var i => exact s2
  | _ => exact p.elim
theorem s_sl {a : Expr} {lo hi : Option Expr} {ca : CE} {cl ch : CO} {p2 pos} (ha : SE Z Γ lvl c a ca) (hl : SO Z Γ lvl c lo cl) (hh : SO Z Γ lvl c hi ch) : SE Z Γ lvl c (.Subscript a (.Slice lo hi none p2) pos) (.sl ca cl ch) := fun X W o => by
  refine PE.weak (pe_slice sl_d (ha X W o) (hl X W o) (hh X W o)) fun σ H Q h => ?_
  obtain ⟨F, B, ρ, T, s, p⟩ := h
  refine step s p fun t1 ρ1 v1 H1 r1 s1 p => ?_
  refine ⟨F, B, ρ1, _, s1, p.bind.push.mono fun l ρ2 _ q H2 s2 => ?_⟩
  refine ⟨F, B, ρ2, _, s2, (After.bind q).push.mono fun h ρ3 _ q H3 s3 => ?_⟩
  obtain ⟨d1, ρ4, e, p⟩ := (After.bind q).nx .bor
  have e' : bors [t1] ρ3 = .ok [d1] ρ4 := by unfold bors; unfold M.bind; rw [e]; rfl
  obtain ⟨G, fp, fit, rg, ba⟩ := bors_use (ts := [t1]) (vs := [v1]) s3 (.cons r1 .nil) e'
  cases ba with
  | cons b1 t =>
    cases t
    obtain ⟨⟨k, d⟩, e5, p⟩ := p.optMap
    exact ⟨G, _, k, d, rg.gh, b1, e5, yield_of fit rg fun v H' s' => p v H' trivial s'⟩
/-! ### calls of defs -/
theorem s_call {x : Str} {e : Expr} {es : List Expr} {ces : CEs} {f : Nat} {p0 pos} (h1 : Γ.fn x = some f) (h2 : glo c.sc x = true) (h3 : nameOk x = true) (hn : (e :: es).all notStar = true)
    (hs : SA Z Γ lvl c (e :: es) ces) : SE Z Γ lvl c (.Call (.Name x p0) (e :: es) [] pos) (.call f ces) := fun X W o => by
  obtain ⟨g1, g2, g3, F0, g4, g5⟩ := o.facts.fn x f h1
  have hn' := Bool.and_eq_true_iff.mp hn
  refine PE.weak (pe_callS (o.snd f F0 g4) o.room (o.gl h2) g1 g2 g3 (E := WE W) (fun σ => passAt o.tk σ) (hs X W o) (nameOk_of h3).1 (star1 hn'.1) (plainArgs hn'.2)) fun σ H Q h => ?_
  obtain ⟨F, B, ρ, T, s, p⟩ := h
  refine stepA s p fun ts ρ1 vs H1 rs s1 p => ?_
  have e : sigOf Z.PG f = F0.io := by unfold sigOf; rw [g4]
  have z := call_sp s1 rs p
  rw [show (e0 Z lvl c).φ f = run Z.sub Z.PG lvl f from rfl, show (e0 Z lvl c).sig f = F0.io from e, g5] at z
  exact z
theorem run_np {sub : Nat → Nat → Bool} {P : Prog} {lvl f : Nat} {F : FnC} {args : List (Nat × PV.D)} {r : CRes} (h : P[f]? = some F) (e : run sub P lvl f args = some r) : args.length = F.np := by
  cases lvl with
  | zero => cases e
  | succ n =>
    unfold run runW at e
    simp only [h] at e
    unfold runF at e
    by_cases c : args.length = F.np
    · exact c
    · rw [if_neg c] at e; cases e
theorem s_call0 {x : Str} {f : Nat} {p0 pos} (h1 : Γ.fn x = some f) (h2 : glo c.sc x = true) (h3 : nameOk x = true) : SE Z Γ lvl c (.Call (.Name x p0) [] [] pos) (.call0 f) := fun X W o => by
  obtain ⟨g1, g2, g3, F0, g4, g5⟩ := o.facts.fn x f h1
  refine PE.weak (pe_call0 (o.snd f F0 g4) o.room (o.gl h2) g1 g2 g3 .nil (E := fun _ _ _ => False) (fun pins σ H s e s' I q => o.tk e s' (XE.of_call (E := fun _ _ _ => False) I (fun _ _ _ h => h.elim) q)) (nameOk_of h3).1) fun σ H Q h => ?_
  obtain ⟨F, B, ρ, T, s, p⟩ := h
  have r : Roots X.K F B H ([] ++ (slotsT σ ρ ++ T)) := s.own
  obtain ⟨F', B', r2, back⟩ := r.frame
  have p' : After Z X.K W F B σ T ((match run Z.sub Z.PG lvl f [] with | some (CRes.ret k d []) => RE.ok (TV.pv k d) ρ | _ => RE.no : RE TV)) (fun t ρ' => ∀ (v : V) (H' : Hp), VarR σ t v → StR X.K F B H' σ ρ' (pushT t v T) → Q v H') := p
  have hz : F0.np = 0 := by
    cases e : run Z.sub Z.PG lvl f [] with
    | none => rw [e] at p'; exact p'.elim
    | some q => exact (run_np g4 e).symm
  have hio : F0.io = [] := List.length_eq_zero_iff.mp (g5.trans hz)
  refine ⟨F', B', [], hz.symm, hz.symm, r2, ?_⟩
  cases e : run Z.sub Z.PG lvl f [] with
  | none => rw [e] at p'; exact p'.elim
  | some q =>
    rw [e] at p'
    cases q with
    | exc x ios => exact p'.elim
    | ret k d ios =>
      cases ios with
      | cons x xs => exact p'.elim
      | nil =>
        simp only at p' ⊢
        refine fun v H' r3 => p' v H' trivial ⟨s.fit, ?_⟩
        have r4 := back H' [(v, k, d)] (by rw [rootsOf_nil] at r3; exact r3)
        have p4 : ((v, k, d) :: (slotsT σ ρ ++ T)).Perm (slotsT σ ρ ++ ((v, k, d) :: T)) := List.perm_middle.symm
        exact r4.perm p4
/-! ### built-ins -/
def bltTab : List (Str × Nat × Blt × Value) := [("len", 1, .len, .builtin "len"), ("abs", 1, .abs, .builtin "abs"), ("int", 1, .int, .type "int"), ("str", 1, .str, .type "str"), ("tuple", 1, .tup, .type "tuple"), ("list", 1, .lst, .type "list"),
  ("sum", 1, .sum, .builtin "sum"), ("all", 1, .all, .builtin "all"), ("any", 1, .any, .builtin "any"), ("max", 1, .max1, .builtin "max"), ("min", 1, .min1, .builtin "min"), ("max", 2, .max2, .builtin "max"), ("min", 2, .min2, .builtin "min"), ("sorted", 1, .sorted, .builtin "sorted")]
def bltFind (x : Str) (n : Nat) : Option (Str × Nat × Blt × Value) := bltTab.find? fun r => decide (r.1 = x) && decide (r.2.1 = n)
theorem bltFind_of {x : Str} {n : Nat} {r : Str × Nat × Blt × Value} (h : bltFind x n = some r) : bootBuiltins x = some r.2.2.2 ∧ bltV r.2.2.1 = some r.2.2.2 ∧ ((∃ id, r.2.2.2 = .builtin id) ∨ ∃ T, r.2.2.2 = .type T) := by
  have h1 := List.find?_some h
  have h2 := List.mem_of_find?_eq_some h
  have h3 := Bool.and_eq_true_iff.mp h1
  obtain rfl : r.1 = x := of_decide_eq_true h3.1
  simp only [bltTab, List.mem_cons, List.mem_nil_iff, or_false] at h2
  rcases h2 with rfl | rfl | rfl | rfl | rfl | rfl | rfl | rfl | rfl | rfl | rfl | rfl | rfl | rfl
  · exact ⟨PySem.boot_len, rfl, .inl ⟨_, rfl⟩⟩
  · exact ⟨PyProof.Rows.boot_abs, rfl, .inl ⟨_, rfl⟩⟩
  · exact ⟨PyProof.Rows.boot_int, rfl, .inr ⟨_, rfl⟩⟩
  · exact ⟨PyProof.Rows.boot_str, rfl, .inr ⟨_, rfl⟩⟩
  · exact ⟨PyProof.Rows.boot_tuple, rfl, .inr ⟨_, rfl⟩⟩
  · exact ⟨PyProof.Rows.boot_list, rfl, .inr ⟨_, rfl⟩⟩
  · exact ⟨PyProof.Rows.boot_sum, rfl, .inl ⟨_, rfl⟩⟩
  · exact ⟨PyProof.Rows.boot_all, rfl, .inl ⟨_, rfl⟩⟩
  · exact ⟨PyProof.Rows.boot_any, rfl, .inl ⟨_, rfl⟩⟩
  · exact ⟨PyProof.Rows.boot_max, rfl, .inl ⟨_, rfl⟩⟩
  · exact ⟨PyProof.Rows.boot_min, rfl, .inl ⟨_, rfl⟩⟩
  · exact ⟨PyProof.Rows.boot_max, rfl, .inl ⟨_, rfl⟩⟩
  · exact ⟨PyProof.Rows.boot_min, rfl, .inl ⟨_, rfl⟩⟩
  · exact ⟨PyProof.Rows.boot_sorted, rfl, .inl ⟨_, rfl⟩⟩
theorem blt_rd {X : Cx} {b : Blt} {ces : CEs} {σ : L2.St} {H : Hp} {Q : VK} {E : PV.Env0} (h : rdE Z X.K W (denE E (.blt b ces)) σ H Q) : tCB (rBlt X.K b) (rdA Z X.K W (denA E ces)) σ H Q := by
  obtain ⟨F, B, ρ, T, s, p⟩ := h
  refine stepA s p fun ts ρ1 vs H1 rs s1 p => ?_
  obtain ⟨ds, ρ2, e, p⟩ := p.bind.nx .bors
  obtain ⟨G, fp, fit, rg, ba⟩ := bors_use s1 rs e
  obtain ⟨⟨k, d⟩, e5, p⟩ := p.optMap
  exact ⟨G, ds, k, d, rg.gh, ba, e5, yield_of fit rg fun v H' s' => p v H' trivial s'⟩
theorem s_blt {x : Str} {e : Expr} {es : List Expr} {ces : CEs} {r : Str × Nat × Blt × Value} {n : Nat} {p0 pos} (h0 : bltFind x n = some r) (h1 : Γ.blt x = true) (h2 : glo c.sc x = true) (h3 : nameOk x = true) (hn : (e :: es).all notStar = true) (hs : SA Z Γ lvl c (e :: es) ces) :
    SE Z Γ lvl c (.Call (.Name x p0) (e :: es) [] pos) (.blt r.2.2.1 ces) := fun X W o => by
  obtain ⟨b1, b2, b3⟩ := bltFind_of h0
  have hn' := Bool.and_eq_true_iff.mp hn
  have n3 := nameOk_of h3
  have cb := call_blt (X := X) r.2.2.1 r.2.2.2 b2 o.calm
  rcases b3 with ⟨id, e3⟩ | ⟨TT, e3⟩
  · rw [e3] at b1 cb
    exact PE.weak (pe_callB cb (o.gl h2) (o.facts.blt x h1) b1 (hs X W o) n3.2.2 n3.1 (star1 hn'.1) (plainArgs hn'.2)) fun σ H Q h => blt_rd h
  · rw [e3] at b1 cb
    exact PE.weak (pe_callTy cb (o.gl h2) (o.facts.blt x h1) b1 (hs X W o) n3.2.2 n3.1 (star1 hn'.1) (plainArgs hn'.2)) fun σ H Q h => blt_rd h
end
end PV

/-! PV3d: what is walked, targets, comprehensions. -/
namespace PV
open PySem PySem.Spec L2

/-! ### what is walked -/
/-- the iterator J yields the items xs while S is held -/
def Walk (K : Frag) (J : It) (xs : List D) (S : List Root) : Prop := ∀ F B H σ ρ T, StR K F B H σ ρ (S ++ T) →
  (∀ i d, xs[i]? = some d → J.go i H ∧ ∀ x H', J.yld i H x H' → StR K F B H' σ ρ ((x, 0, d) :: (S ++ T))) ∧ ∀ i, xs.length ≤ i → J.stop i H
def rdI (Z : GD) (K : Frag) (W : WX) (m : M (List D)) : TI := fun σ H R => ∃ F B ρ T, StR K F B H σ ρ T ∧ After Z K W F B σ T (m ρ) fun xs ρ' => ∀ J S H', Walk K J xs S → StR K F B H' σ ρ' (S ++ T) → R J H'
theorem PI.weak {X : Cx} {tg e : Expr} {t t' : TI} (h : PI X tg e t) (w : ∀ σ H Q, t' σ H Q → t σ H Q) : PI X tg e t' := ⟨fun pins s σ H Q I q => h.run pins s σ H Q I (w σ H Q q)⟩
theorem PI.or {X : Cx} {tg e : Expr} {t t' : TI} (h : PI X tg e t) (h' : PI X tg e t') : PI X tg e (fun σ H R => t σ H R ∨ t' σ H R) := ⟨fun pins s σ H R I q => q.elim (h.run pins s σ H R I) (h'.run pins s σ H R I)⟩
section
variable {K : Frag} {F B H H' G G' : Hp} {T U R S : List Root} {fp : List Addr} {v : V} {k : Nat} {d : D} {σ : L2.St} {ρ ρ' : SEnv}
/-- a part of what is frozen is held, too -/
theorem StR.part (s : StR K F B H σ ρ T) {y : V} {e : D} (h : (v, 0, d) ∈ slotsT σ ρ ++ T) (q : ∀ G, Same G H → Rep K G v d → Rep K G y e) : StR K F B H σ ρ ((y, 0, e) :: T) := by
  obtain ⟨G, fp, r⟩ := s.own
  have r1 := q G r.gh (r.rep0 h)
  refine ⟨s.fit, Roots.perm ⟨G, [] ++ fp, r.fg, r.gh, r.bh, r.nd, r.out, r.bg, .cons (.frz r1) r.own⟩ List.perm_middle.symm⟩
theorem walk_list {a : Addr} {ds : List D} : Walk K (Itl K a) ds [(.ref a, 0, .list ds)] := by
  intro F B H σ ρ T s
  have full := s.full (k := 0) (v := .ref a) (d := .list ds) (List.mem_append_right _ List.mem_cons_self)
  have s0 := s
  cases full with
  | lst q r =>
    rename_i vs
    refine ⟨fun i d e => ?_, fun i h => ⟨vs, q.sq, by rw [r.length]; exact h⟩⟩
    obtain ⟨x, hx, _⟩ := r.get e
    refine ⟨⟨vs, x, q.sq, hx⟩, fun y H' hy => ?_⟩
    obtain ⟨rfl, hy⟩ := hy
    refine s0.part (v := .ref a) (d := .list ds) (List.mem_append_right _ List.mem_cons_self) fun G gh r => ?_
    cases r with
    | lst q2 r2 =>
      obtain ⟨x2, hx2, rx⟩ := r2.get e
      have z := hy _ (q2.same gh).sq
      rw [hx2] at z
      cases z
      exact rx
theorem walk_tup {a : Addr} {ds : List D} : Walk K (Itt K a) ds [(.ref a, 0, .tuple ds)] := by
  intro F B H σ ρ T s
  have full := s.full (k := 0) (v := .ref a) (d := .tuple ds) (List.mem_append_right _ List.mem_cons_self)
  have s0 := s
  cases full with
  | tup q r =>
    rename_i vs
    refine ⟨fun i d e => ?_, fun i h => ⟨vs, q, by rw [r.length]; exact h⟩⟩
    obtain ⟨x, hx, _⟩ := r.get e
    refine ⟨⟨vs, x, q, hx⟩, fun y H' hy => ?_⟩
    obtain ⟨rfl, hy⟩ := hy
    refine s0.part (v := .ref a) (d := .tuple ds) (List.mem_append_right _ List.mem_cons_self) fun G gh r => ?_
    cases r with
    | tup q2 r2 =>
      obtain ⟨x2, hx2, rx⟩ := r2.get e
      have z := hy _ (SqT.same gh q2)
      rw [hx2] at z
      cases z
      exact rx
theorem walk_str {z : Str} : Walk K (Its z) (strItems z) [] := by
  intro F B H σ ρ T s
  have hl : (strItems z).length = z.cps.size := by simp [strItems]
  refine ⟨fun i d e => ?_, fun i h => by show z.cps.size ≤ i; rw [← hl]; exact h⟩
  have hi : i < z.cps.size := by rw [← hl]; exact (List.getElem?_eq_some_iff.mp e).1
  refine ⟨hi, fun x H' hy => ?_⟩
  obtain ⟨rfl, c, hc, rfl⟩ := hy
  have e2 : d = .str ⟨#[c]⟩ := by
    simp only [strItems, List.getElem?_map, Option.map_eq_some_iff] at e
    obtain ⟨c', h1, h2⟩ := e
    rw [Array.getElem?_toList, hc] at h1
    cases h1
    exact h2.symm
  subst e2
  exact s.behind fun S r => r.scal fun G => .str _
theorem walk_rng {lo : Int} {n : Nat} {hi : Int} (hn : (hi - lo).toNat = n) : Walk K (Itr lo n) (rngItems lo hi) [] := by
  intro F B H σ ρ T s
  have hl : (rngItems lo hi).length = n := by simp [rngItems, hn]
  refine ⟨fun i d e => ?_, fun i h => by show n ≤ i; rw [← hl]; exact h⟩
  have hi' : i < n := by rw [← hl]; exact (List.getElem?_eq_some_iff.mp e).1
  refine ⟨hi', fun x H' hy => ?_⟩
  obtain ⟨rfl, rfl⟩ := hy
  have e2 : d = .int (lo + (i : Int)) := by
    have h0 : (List.range (hi - lo).toNat)[i]? = some i := List.getElem?_range (by rw [hn]; exact hi')
    simp only [rngItems, List.getElem?_map, h0, Option.map_some, Option.some.injEq] at e
    exact e.symm
  subst e2
  exact s.behind fun S r => r.scal fun G => .int _
/-- a new tuple -/
theorem StR.newTup {p : Addr} {vs : List V} {ds : List D} (s : StR K F B H σ ρ T) (hp : H p = none) (h : ∀ G, RootsG K F B H (slotsT σ ρ ++ T) G fp → RepAll K G vs ds) : True := trivial
theorem tup_new {p : Addr} {vs : List V} {ds : List D} {fp : List Addr} (fit : Fits σ ρ) (rg : RootsG K F B H (slotsT σ ρ ++ T) G fp) (hp : H p = none) (ra : RepAll K G vs ds) : StR K F B (upd H p (.tup vs)) σ ρ ((.ref p, 0, .tuple ds) :: T) :=
  Yields.tup rg.gh (yield_of fit rg fun v H' s => s) ra p hp |> fun z => z
theorem walk_zip {a b : Addr} {xs ys : List D} : Walk K (Itz K a b) ((xs.zip ys).map fun p => .tuple [p.1, p.2]) [(.ref a, 0, .list xs), (.ref b, 0, .list ys)] := by
  intro F B H σ ρ T s
  obtain ⟨G, fp, rg⟩ := s.own
  have ra := rg.rep0 (v := .ref a) (d := .list xs) (List.mem_append_right _ List.mem_cons_self)
  have rb := rg.rep0 (v := .ref b) (d := .list ys) (List.mem_append_right _ (List.mem_cons_of_mem _ List.mem_cons_self))
  cases ra with
  | lst qa ra =>
    cases rb with
    | lst qb rb =>
      rename_i us ws
      refine ⟨fun i d e => ?_, fun i h => ⟨us, ws, (qa.same rg.gh).sq, (qb.same rg.gh).sq, ?_⟩⟩
      · simp only [List.getElem?_map, Option.map_eq_some_iff] at e
        obtain ⟨⟨d1, d2⟩, h1, rfl⟩ := e
        obtain ⟨e1, e2⟩ := List.getElem?_zip_eq_some.mp h1
        obtain ⟨x, hx, rx⟩ := ra.get e1
        obtain ⟨y, hy, ry⟩ := rb.get e2
        refine ⟨⟨us, ws, x, y, (qa.same rg.gh).sq, (qb.same rg.gh).sq, hx, hy⟩, fun t H' hz => ?_⟩
        obtain ⟨TT, x', y', rfl, hT, rfl, z1, z2⟩ := hz
        have z1 := z1 _ (qa.same rg.gh).sq
        have z2 := z2 _ (qb.same rg.gh).sq
        rw [hx] at z1; rw [hy] at z2
        cases z1; cases z2
        exact tup_new s.fit rg hT (.cons rx (.cons ry .nil))
      · rw [List.length_map, List.length_zip] at h
        rw [ra.length, rb.length]
        omega
theorem walk_enum {a : Addr} {xs : List D} : Walk K (Ite K a) (xs.mapIdx fun i x => .tuple [.int (i : Int), x]) [(.ref a, 0, .list xs)] := by
  intro F B H σ ρ T s
  obtain ⟨G, fp, rg⟩ := s.own
  have ra := rg.rep0 (v := .ref a) (d := .list xs) (List.mem_append_right _ List.mem_cons_self)
  cases ra with
  | lst qa ra =>
    rename_i us
    refine ⟨fun i d e => ?_, fun i h => ⟨us, (qa.same rg.gh).sq, by rw [ra.length]; simpa using h⟩⟩
    simp only [List.getElem?_mapIdx, Option.map_eq_some_iff] at e
    obtain ⟨d1, h1, rfl⟩ := e
    obtain ⟨x, hx, rx⟩ := ra.get h1
    refine ⟨⟨us, x, (qa.same rg.gh).sq, hx⟩, fun t H' hz => ?_⟩
    obtain ⟨TT, x', rfl, hT, rfl, z1⟩ := hz
    have z1 := z1 _ (qa.same rg.gh).sq
    rw [hx] at z1
    cases z1
    exact tup_new s.fit rg hT (.cons (.int _) (.cons rx .nil))
end
section
variable {Z : GD} {Γ : Gam} {lvl : Nat} {c : Cmp} {W : WX} {X : Cx}
def SI (Z : GD) (Γ : Gam) (lvl : Nat) (c : Cmp) (tg e : Expr) (ci : CI) : Prop := ∀ X W, Ok Z Γ lvl c W X → PI X tg e (rdI Z X.K W (denI (e0 Z lvl c) ci))
theorem stepE_hold {K : Frag} {W : WX} {F B H : Hp} {σ : L2.St} {ρ : SEnv} {T : List Root} {β : Type} {io : List Nat} {m : M TV} {f : D → M β} {post : β → SEnv → Prop} {Q : V → Hp → Prop} (s : StR K F B H σ ρ T) (a : After Z K W F B σ T ((m.bind fun s => (frz io s).bind f) ρ) post)
    (k : ∀ d ρ' v H', StR K F B H' σ ρ' ((v, 0, d) :: T) → After Z K W F B σ T (f d ρ') post → Q v H') : rdE Z K W m σ H Q :=
  step s a fun t ρ1 v H1 r s1 p => by
    obtain ⟨d, ρ2, e, p⟩ := p.bind.nx .frz
    exact k d ρ2 v H1 (frz_hold s1 r e) p
theorem i_seq {tg e : Expr} {ce : CE} (he : SE Z Γ lvl c e ce) : SI Z Γ lvl c tg e (.seq ce) := fun X W o => by
  refine PI.weak (PI.or (pi_list (he X W o)) (PI.or (pi_tup (he X W o)) (pi_str (he X W o)))) fun σ H R h => ?_
  obtain ⟨F, B, ρ, T, s, p⟩ := h
  have p0 := p.bind
  -- which kind it is, the denotation tells
  have key : ∀ {t : TV} {ρ1 : SEnv}, denE (e0 Z lvl c) ce ρ = .ok t ρ1 → After Z X.K W F B σ T (((frz c.io t).bind fun d => M.opt (seqItems d)) ρ1) (fun xs ρ' => ∀ J S H', Walk X.K J xs S → StR X.K F B H' σ ρ' (S ++ T) → R J H') → ∃ d ρ2, frz c.io t ρ1 = .ok d ρ2 ∧ ∃ xs, seqItems d = some xs ∧ ∀ J S H', Walk X.K J xs S → StR X.K F B H' σ ρ2 (S ++ T) → R J H' := by
    intro t ρ1 _ p
    obtain ⟨d, ρ2, e, p⟩ := p.bind.nx .frz
    obtain ⟨xs, e2, p⟩ := p.opt
    exact ⟨d, ρ2, e, xs, e2, p⟩
  cases em : denE (e0 Z lvl c) ce ρ with
  | no => rw [em] at p0; exact p0.elim
  | ex x ρ1 =>
    rw [em] at p0
    left
    exact ⟨F, B, ρ, T, s, by rw [em]; exact p0⟩
  | ok t ρ1 =>
    rw [em] at p0
    obtain ⟨d, ρ2, e1, xs, e2, p⟩ := key em p0
    cases d with
    | list ds =>
      cases e2
      refine .inl ⟨F, B, ρ, T, s, ?_⟩
      rw [em]
      intro v H1 r s1
      have s2 := frz_hold s1 r e1
      have full := s2.full (k := 0) (v := v) (d := .list _) (List.mem_append_right _ List.mem_cons_self)
      cases full with
      | lst q ra => exact ⟨_, rfl, ⟨_, q.sq⟩, p _ [_] H1 walk_list s2⟩
    | tuple ds =>
      cases e2
      refine .inr (.inl ⟨F, B, ρ, T, s, ?_⟩)
      rw [em]
      intro v H1 r s1
      have s2 := frz_hold s1 r e1
      have full := s2.full (k := 0) (v := v) (d := .tuple _) (List.mem_append_right _ List.mem_cons_self)
      cases full with
      | tup q ra => exact ⟨_, rfl, ⟨_, q⟩, p _ [_] H1 walk_tup s2⟩
    | str z =>
      cases e2
      refine .inr (.inr ⟨F, B, ρ, T, s, ?_⟩)
      rw [em]
      intro v H1 r s1
      have s2 := frz_hold s1 r e1
      have full := s2.full (k := 0) (v := v) (d := .str z) (List.mem_append_right _ List.mem_cons_self)
      cases full with
      | str => exact ⟨z, rfl, p _ [] H1 walk_str (s2.behind fun S r => r.drop)⟩
    | _ => cases e2
theorem borAll_one {K : Frag} {H G : Hp} {vs : List V} {d : D} (h : BorAll K H G vs [d]) : ∃ v, vs = [v] ∧ Bor K H G v d := by
  cases h with
  | cons r t => cases t; exact ⟨_, rfl, r⟩
theorem borAll_two {K : Frag} {H G : Hp} {vs : List V} {d e : D} (h : BorAll K H G vs [d, e]) : ∃ v w, vs = [v, w] ∧ Bor K H G v d ∧ Bor K H G w e := by
  cases h with
  | cons r t => cases t with | cons r2 t => cases t; exact ⟨_, _, rfl, r, r2⟩
def CEs.len : CEs → Nat
  | .nil => 0
  | .cons _ es => es.len + 1
theorem denA_len {E : PV.Env0} : ∀ {es : CEs} {ρ ρ' : SEnv} {ts : List TV}, denA E es ρ = .ok ts ρ' → ts.length = es.len
  | .nil, ρ, ρ', ts, h => by cases h; rfl
  | .cons e es, ρ, ρ', ts, h => by
    obtain ⟨t, ρ1, h1, h⟩ := M.bind_ok h
    obtain ⟨us, ρ2, h2, h⟩ := M.bind_ok h
    cases h
    exact congrArg (· + 1) (denA_len h2)
theorem stepL {K : Frag} {W : WX} {F B H : Hp} {σ : L2.St} {ρ : SEnv} {T : List Root} {β : Type} {E : PV.Env0} {es : CEs} {f : List TV → M β} {post : β → SEnv → Prop} {Q : List V → Hp → Prop} (s : StR K F B H σ ρ T) (a : After Z K W F B σ T (((denA E es).bind f) ρ) post)
    (k : ∀ ts ρ' vs H', ts.length = es.len → VarRs σ ts vs → StR K F B H' σ ρ' (pushAll ts vs T) → After Z K W F B σ T (f ts ρ') post → Q vs H') : rdA Z K W (denA E es) σ H Q :=
  ⟨F, B, ρ, T, s, a.bind.mono fun t ρ' e q v H' vr s' => k t ρ' v H' (denA_len e) vr s' q⟩
theorem borAll_len {K : Frag} {H G : Hp} : ∀ {vs : List V} {ds : List D}, BorAll K H G vs ds → vs.length = ds.length
  | _, _, .nil => rfl
  | _, _, .cons _ t => congrArg (· + 1) (borAll_len t)
theorem i_rng1 {tg a : Expr} {ces : CEs} {p0 pos} (h1 : Γ.blt "range" = true) (h2 : glo c.sc "range" = true) (hn : notStar a = true) (hs : SA Z Γ lvl c [a] ces) (hl : ces.len = 1) : SI Z Γ lvl c tg (.Call (.Name "range" p0) [a] [] pos) (.rng ces) := fun X W o => by
  refine PI.weak (pi_range1 (o.gl h2) (o.facts.blt _ h1) (hs X W o) (star1 hn)) fun σ H R h => ?_
  obtain ⟨F, B, ρ, T, s, p⟩ := h
  refine stepL s p fun ts ρ1 vs H1 hlen rs s1 p => ?_
  obtain ⟨ds, ρ2, e, p⟩ := p.bind.nx .bors
  obtain ⟨G, fp, fit, rg, ba⟩ := bors_use s1 rs e
  obtain ⟨xs, e2, p⟩ := p.opt
  have l1 : ds.length = 1 := by rw [← borAll_len ba, ← rs.length, hlen, hl]
  unfold rngOf at e2
  split at e2
  · rename_i j
    obtain ⟨v, rfl, b1⟩ := borAll_one ba
    obtain rfl := b1.int
    obtain ⟨cc, rfl⟩ := ite_some e2
    have cc := Bool.and_eq_true_iff.mp cc
    exact ⟨j, rfl, of_decide_eq_true cc.1, of_decide_eq_true cc.2, p _ [] H1 (walk_rng (by rw [Int.sub_zero])) ⟨fit, _, _, rg⟩⟩
  · cases l1
  · cases e2
theorem i_rng2 {tg a b : Expr} {ces : CEs} {p0 pos} (h1 : Γ.blt "range" = true) (h2 : glo c.sc "range" = true) (hn : notStar a = true) (hn2 : notStar b = true) (hs : SA Z Γ lvl c [a, b] ces) (hl : ces.len = 2) : SI Z Γ lvl c tg (.Call (.Name "range" p0) [a, b] [] pos) (.rng ces) := fun X W o => by
  have st1 := star1 (es := []) (env := X.env) hn2
  refine PI.weak (pi_range2 (o.gl h2) (o.facts.blt _ h1) (hs X W o) (by rw [star1 hn, st1]; rfl) (by rw [st1]; rfl)) fun σ H R h => ?_
  obtain ⟨F, B, ρ, T, s, p⟩ := h
  refine stepL s p fun ts ρ1 vs H1 hlen rs s1 p => ?_
  obtain ⟨ds, ρ2, e, p⟩ := p.bind.nx .bors
  obtain ⟨G, fp, fit, rg, ba⟩ := bors_use s1 rs e
  obtain ⟨xs, e2, p⟩ := p.opt
  have l1 : ds.length = 2 := by rw [← borAll_len ba, ← rs.length, hlen, hl]
  unfold rngOf at e2
  split at e2
  · cases l1
  · rename_i i j
    obtain ⟨v, w, rfl, b1, b2⟩ := borAll_two ba
    obtain rfl := b1.int
    obtain rfl := b2.int
    obtain ⟨cc, rfl⟩ := ite_some e2
    have cc := Bool.and_eq_true_iff.mp cc
    have c1 := Bool.and_eq_true_iff.mp cc.1
    have c2 := Bool.and_eq_true_iff.mp cc.2
    exact ⟨i, j, rfl, ⟨of_decide_eq_true c1.1, of_decide_eq_true c1.2, of_decide_eq_true c2.1, of_decide_eq_true c2.2⟩, p _ [] H1 (walk_rng rfl) ⟨fit, _, _, rg⟩⟩
  · cases e2
/-- frozen values, held -/
theorem frzs_hold {K : Frag} {F B H : Hp} {σ : L2.St} {io : List Nat} : ∀ {ts : List TV} {vs : List V} {ds : List D} {ρ ρ' : SEnv} {T : List Root}, StR K F B H σ ρ (pushAll ts vs T) → VarRs σ ts vs → frzs io ts ρ = .ok ds ρ' →
    StR K F B H σ ρ' (rootsOf vs (ds.map fun d => (0, d)) ++ T) ∧ vs.length = ds.length
  | [], [], ds, ρ, ρ', T, s, _, h => by cases h; exact ⟨s, rfl⟩
  | t :: ts, v :: vs, ds, ρ, ρ', T, s, .cons vr vrs, h => by
    obtain ⟨x, ρ1, h1, h⟩ := M.bind_ok h
    obtain ⟨ys, ρ2, h2, h⟩ := M.bind_ok h
    cases h
    have s0 : StR K F B H σ ρ (pushT t v (pushAll ts vs T)) := by
      have e : pushAll (t :: ts) (v :: vs) T = pushAll ts vs (pushT t v T) := rfl
      rw [e, pushAll_split] at s
      rw [pushAll_split ts vs T]
      cases t with
      | pv k d => exact s.behind fun S r => r.perm (List.perm_middle.append_right S)
      | var i => exact s
    have s1 := frz_hold s0 vr h1
    have s1' : StR K F B H σ ρ1 (pushAll ts vs ((v, 0, x) :: T)) := by
      rw [pushAll_split] at s1 ⊢
      exact s1.behind fun S r => r.perm (List.perm_middle.symm.append_right S)
    obtain ⟨s2, hl⟩ := frzs_hold s1' vrs h2
    exact ⟨s2.behind fun S r => r.perm (List.perm_middle.append_right S), congrArg (· + 1) hl⟩
theorem i_zip {elts : List Expr} {kk : Nat} {tpos : Pos} {a b : Expr} {ces : CEs} {p0 pos} (h1 : Γ.blt "zip" = true) (h2 : glo c.sc "zip" = true) (hn : notStar a = true) (hn2 : notStar b = true) (hs : SA Z Γ lvl c [a, b] ces) : SI Z Γ lvl c (.Tuple elts kk tpos) (.Call (.Name "zip" p0) [a, b] [] pos) (.zip ces) := fun X W o => by
  have st1 := star1 (es := []) (env := X.env) hn2
  refine PI.weak (pi_zip (o.gl h2) (o.facts.blt _ h1) (hs X W o) (star1 hn) (by rw [st1]; rfl)) fun σ H R h => ?_
  obtain ⟨F, B, ρ, T, s, p⟩ := h
  refine stepA s p fun ts ρ1 vs H1 rs s1 p => ?_
  obtain ⟨ds, ρ2, e, p⟩ := p.bind.nx .frzs
  obtain ⟨s2, hl⟩ := frzs_hold s1 rs e
  split at p
  · rename_i xs ys
    obtain ⟨v, w, rfl⟩ : ∃ v w, vs = [v, w] := by
      match vs, hl with
      | [v, w], _ => exact ⟨v, w, rfl⟩
    have f1 := s2.full (k := 0) (v := v) (d := .list xs) (List.mem_append_right _ List.mem_cons_self)
    have f2 := s2.full (k := 0) (v := w) (d := .list ys) (List.mem_append_right _ (List.mem_cons_of_mem _ List.mem_cons_self))
    cases f1 with
    | lst q1 r1 =>
      cases f2 with
      | lst q2 r2 => exact ⟨_, _, _, _, rfl, q1.sq, q2.sq, p _ _ H1 walk_zip s2⟩
  · exact p.elim
theorem i_enum {elts : List Expr} {kk : Nat} {tpos : Pos} {a : Expr} {ces : CEs} {p0 pos} (h1 : Γ.blt "enumerate" = true) (h2 : glo c.sc "enumerate" = true) (hn : notStar a = true) (hs : SA Z Γ lvl c [a] ces) : SI Z Γ lvl c (.Tuple elts kk tpos) (.Call (.Name "enumerate" p0) [a] [] pos) (.enum ces) := fun X W o => by
  refine PI.weak (pi_enum (o.gl h2) (o.facts.blt _ h1) (hs X W o) (star1 hn)) fun σ H R h => ?_
  obtain ⟨F, B, ρ, T, s, p⟩ := h
  refine stepA s p fun ts ρ1 vs H1 rs s1 p => ?_
  obtain ⟨ds, ρ2, e, p⟩ := p.bind.nx .frzs
  obtain ⟨s2, hl⟩ := frzs_hold s1 rs e
  split at p
  · rename_i xs
    obtain ⟨v, rfl⟩ : ∃ v, vs = [v] := by
      match vs, hl with
      | [v], _ => exact ⟨v, rfl⟩
    have f1 := s2.full (k := 0) (v := v) (d := .list xs) (List.mem_append_right _ List.mem_cons_self)
    cases f1 with
    | lst q1 r1 => exact ⟨_, _, rfl, q1.sq, p _ _ H1 walk_enum s2⟩
  · exact p.elim

/-! ### targets -/
/-- only the slots ts may be others -/
def Chg (ts : List Nat) (σ σ' : L2.St) : Prop := σ'.length = σ.length ∧ ∀ i, i ∉ ts → σ'[i]? = σ[i]?
theorem Chg.refl {ts : List Nat} {σ : L2.St} : Chg ts σ σ := ⟨rfl, fun _ _ => rfl⟩
theorem Chg.trans {ts : List Nat} {a b d : L2.St} (h : Chg ts a b) (g : Chg ts b d) : Chg ts a d := ⟨g.1.trans h.1, fun i q => (g.2 i q).trans (h.2 i q)⟩
theorem Chg.mono {ts us : List Nat} {a b : L2.St} (h : Chg ts a b) (q : ∀ i ∈ ts, i ∈ us) : Chg us a b := ⟨h.1, fun i z => h.2 i fun y => z (q i y)⟩
mutual
def slotsOf : CT → List Nat
  | .name i => [i]
  | .tup ts => slotsOfs ts
  | _ => []
def slotsOfs : CTs → List Nat
  | .nil => []
  | .cons t ts => slotsOf t ++ slotsOfs ts
end
def rdG (K : Frag) (E : PV.Env0) (t : CT) : TG := fun v σ H Q => ∃ F B ρ T d ρ', StR K F B H σ ρ ((v, 0, d) :: T) ∧ bindN E t d ρ = .ok () ρ' ∧ ∀ σ' H', StR K F B H' σ' ρ' T → Chg (slotsOf t) σ σ' → (∀ i ∈ E.io, σ'[i]? = σ[i]?) → Q σ' H'
def rdGs (K : Frag) (E : PV.Env0) (t : CTs) : TGs := fun vs σ H Q => ∃ F B ρ T ds ρ', StR K F B H σ ρ (rootsOf vs (ds.map fun d => (0, d)) ++ T) ∧ vs.length = ds.length ∧ bindNs E t ds ρ = .ok () ρ' ∧ ∀ σ' H', StR K F B H' σ' ρ' T → Chg (slotsOfs t) σ σ' → (∀ i ∈ E.io, σ'[i]? = σ[i]?) → Q σ' H'
def SG (Z : GD) (Γ : Gam) (lvl : Nat) (c : Cmp) (tg : Expr) (t : CT) : Prop := ∀ X W, Ok Z Γ lvl c W X → PG X tg (rdG X.K (e0 Z lvl c) t)
def SGs (Z : GD) (Γ : Gam) (lvl : Nat) (c : Cmp) (tg : List Expr) (t : CTs) : Prop := ∀ X W, Ok Z Γ lvl c W X → PGs X tg (rdGs X.K (e0 Z lvl c) t)
theorem PG.weak {X : Cx} {e : Expr} {t t' : TG} (h : PG X e t) (w : ∀ v σ H Q, t' v σ H Q → t v σ H Q) : PG X e t' := ⟨fun pins s σ H v u Q I r q => h.run pins s σ H v u Q I r (w v σ H Q q)⟩
theorem PG.or {X : Cx} {e : Expr} {t t' : TG} (h : PG X e t) (h' : PG X e t') : PG X e (fun v σ H Q => t v σ H Q ∨ t' v σ H Q) := ⟨fun pins s σ H v u Q I r q => q.elim (h.run pins s σ H v u Q I r) (h'.run pins s σ H v u Q I r)⟩
theorem PGs.weak {X : Cx} {e : List Expr} {t t' : TGs} (h : PGs X e t) (w : ∀ v σ H Q, t' v σ H Q → t v σ H Q) : PGs X e t' := ⟨fun pins s σ H v u Q I r q => h.run pins s σ H v u Q I r (w v σ H Q q)⟩
theorem setSlot_ok {io : List Nat} {i k : Nat} {d : D} {ρ ρ' : SEnv} (h : setSlot io i k d ρ = .ok () ρ') : i ∉ io ∧ i < ρ.length ∧ ρ' = ρ.set i (some (if isC d then k else 0, d)) := by
  unfold setSlot at h
  by_cases c : (io.contains i || decide (ρ.length ≤ i)) = true
  · rw [if_pos c] at h; cases h
  · rw [if_neg c] at h
    cases h
    simp only [Bool.or_eq_true, decide_eq_true_eq, not_or, Nat.not_le] at c
    exact ⟨fun z => c.1 (List.contains_iff_mem.mpr z), c.2, rfl⟩
theorem Chg.set {σ : L2.St} {i : Nat} {x : Option V} : Chg [i] σ (σ.set i x) := ⟨List.length_set, fun j h => List.getElem?_set_ne (by simpa using Ne.symm (by simpa using h))⟩
theorem g_name {x : Str} {i : Nat} {pos} (h1 : ixOf c.N x = some i) (h2 : x ∈ c.loc) : SG Z Γ lvl c (.Name x pos) (.name i) := fun X W o => by
  obtain ⟨l1, l2⟩ := o.loc x h2
  refine PG.weak (pg_name (by rw [o.N]; exact o.nd) (by rw [o.N]; exact ixOf_get h1) l1 l2) fun v σ H Q h => ?_
  obtain ⟨F, B, ρ, T, d, ρ', s, e, q⟩ := h
  obtain ⟨e1, e2, rfl⟩ := setSlot_ok (show setSlot c.io i 0 d ρ = .ok () ρ' from e)
  have e0 : (if isC d = true then 0 else 0) = 0 := by split <;> rfl
  rw [e0] at q
  refine q _ H (s.store e2) Chg.set fun j hj => List.getElem?_set_ne (by intro z; subst z; exact e1 hj)
theorem gs_nil : SGs Z Γ lvl c [] .nil := fun X W o => PGs.weak pgs_nil fun vs σ H Q h => by
  obtain ⟨F, B, ρ, T, ds, ρ', s, hl, e, q⟩ := h
  cases ds with
  | cons d ds => cases e
  | nil =>
    cases vs with
    | cons v vs => cases hl
    | nil =>
      cases e
      exact ⟨rfl, q σ H s .refl fun _ _ => rfl⟩
theorem tgt1 {t : Expr} {ts : List Expr} {env : Env} (h : notStar t = true) : (assignEach (t :: ts) env).map (·.2) = assign t env :: (assignEach ts env).map (·.2) := by
  cases t <;> first | rfl | cases h
theorem tgtLen {env : Env} : ∀ {ts : List Expr}, ts.all notStar = true → (assignEach ts env).length = ts.length ∧ (assignEach ts env).findIdx? (·.1) = none
  | [], _ => ⟨rfl, rfl⟩
  | t :: ts, h => by
    have h := Bool.and_eq_true_iff.mp h
    obtain ⟨a, b⟩ := tgtLen (env := env) h.2
    have e : assignEach (t :: ts) env = (false, assign t env) :: assignEach ts env := by
      have h1 := h.1
      cases t <;> first | rfl | cases h1
    rw [e]
    refine ⟨congrArg (· + 1) a, ?_⟩
    rw [List.findIdx?_cons, b]
    rfl
theorem gs_cons {t : Expr} {ts : List Expr} {ct : CT} {cts : CTs} (hn : notStar t = true) (ht : SG Z Γ lvl c t ct) (hts : SGs Z Γ lvl c ts cts) : SGs Z Γ lvl c (t :: ts) (.cons ct cts) := fun X W o => by
  refine PGs.weak (pgs_cons (ht X W o) (hts X W o) (tgt1 hn)) fun vs σ H Q h => ?_
  obtain ⟨F, B, ρ, T, ds, ρ', s, hl, e, q⟩ := h
  cases ds with
  | nil => cases e
  | cons d ds =>
    cases vs with
    | nil => cases hl
    | cons v vs =>
      obtain ⟨_, ρ1, e1, e2⟩ := M.bind_ok (show ((bindN (e0 Z lvl c) ct d).bind fun _ => bindNs (e0 Z lvl c) cts ds) ρ = .ok () ρ' from e)
      refine ⟨v, vs, rfl, F, B, ρ, _, d, ρ1, s, e1, fun σ1 H1 s1 g1 i1 => ?_⟩
      refine ⟨F, B, ρ1, T, ds, ρ', s1, Nat.succ.inj hl, e2, fun σ2 H2 s2 g2 i2 => ?_⟩
      exact q σ2 H2 s2 ((g1.mono fun i h => List.mem_append_left _ h).trans (g2.mono fun i h => List.mem_append_right _ h)) fun i h => (i2 i h).trans (i1 i h)
theorem bindNs_len {E : PV.Env0} : ∀ {ts : CTs} {ds : List D} {ρ ρ' : SEnv}, bindNs E ts ds ρ = .ok () ρ' → ∃ n, ds.length = n := fun _ => ⟨_, rfl⟩
def CTs.len : CTs → Nat
  | .nil => 0
  | .cons _ ts => ts.len + 1
theorem bindNs_size {E : PV.Env0} : ∀ {ts : CTs} {ds : List D} {ρ ρ' : SEnv}, bindNs E ts ds ρ = .ok () ρ' → ds.length = ts.len
  | .nil, [], ρ, ρ', h => rfl
  | .nil, _ :: _, ρ, ρ', h => by cases h
  | .cons _ _, [], ρ, ρ', h => by cases h
  | .cons t ts, d :: ds, ρ, ρ', h => by
    obtain ⟨_, ρ1, e1, e2⟩ := M.bind_ok (show ((bindN E t d).bind fun _ => bindNs E ts ds) ρ = .ok () ρ' from h)
    exact congrArg (· + 1) (bindNs_size e2)
theorem g_tup {ts : List Expr} {cts : CTs} {k pos} (hn : ts.all notStar = true) (hl : cts.len = ts.length) (hts : SGs Z Γ lvl c ts cts) : SG Z Γ lvl c (.Tuple ts k pos) (.tup cts) := fun X W o => by
  obtain ⟨a, b⟩ := tgtLen (env := X.env) hn
  refine PG.weak (PG.or (pg_tup o.calm (hts X W o) a b) (pg_lst o.calm (hts X W o) a b)) fun v σ H Q h => ?_
  obtain ⟨F, B, ρ, T, d, ρ', s, e, q⟩ := h
  obtain ⟨ds, ρ1, e1, e'⟩ := M.bind_ok (show ((M.opt (unTup d)).bind fun xs => bindNs (e0 Z lvl c) cts xs) ρ = .ok () ρ' from e)
  obtain ⟨e1, er⟩ := opt_ok e1
  rw [er] at e'
  obtain ⟨G, fp, rg⟩ := s.own
  have r := rg.rep0 (v := v) (d := d) (List.mem_append_right _ List.mem_cons_self)
  -- the items are held
  have hold : ∀ {vs : List V}, RepAll X.K G vs ds → rdGs X.K (e0 Z lvl c) cts vs σ H Q := by
    intro vs ra
    refine ⟨F, B, ρ, T, ds, ρ', ?_, ra.length, e', q⟩
    obtain ⟨f2, rg2⟩ := rg.perm (T' := (v, 0, d) :: (slotsT σ ρ ++ T)) List.perm_middle
    obtain ⟨f3, rg3⟩ := rg2.drop
    refine ⟨s.fit, ?_⟩
    have key : ∀ {vs : List V} {ds : List D}, RepAll X.K G vs ds → RootsG X.K F B H (rootsOf vs (ds.map fun d => (0, d)) ++ (slotsT σ ρ ++ T)) G f3 := by
      intro vs
      induction vs with
      | nil => intro ds h; cases h; exact rg3
      | cons v vs ih =>
        intro ds h
        cases h with
        | cons r t =>
          have z := ih t
          exact ⟨z.fg, z.gh, z.bh, z.nd, z.out, z.bg, .cons (f1 := []) (.frz r) z.own⟩
    exact Roots.perm ⟨G, f3, key ra⟩ (perm_swap3 _ _ _)
  cases d with
  | tuple ds' =>
    cases e1
    cases r with
    | tup t ra =>
      rename_i vs
      exact .inl ⟨_, vs, rfl, SqT.same rg.gh t, by rw [ra.length, bindNs_size e', hl], hold ra⟩
  | list ds' =>
    cases e1
    cases r with
    | lst t ra =>
      rename_i vs
      exact .inr ⟨_, vs, rfl, (t.same rg.gh).sq, by rw [ra.length, bindNs_size e', hl], hold ra⟩
  | _ => cases e1
end
end PV

/-! PV3e: comprehensions of one clause. -/
namespace PV
open PySem PySem.Spec L2
section
variable {K : Frag} {F B H H' : Hp} {T : List Root} {v : V} {k : Nat} {d : D} {σ : L2.St} {ρ ρ' : SEnv}
theorem Fits.sub : ∀ {σ σ' : L2.St} {ρ : SEnv}, Fits σ ρ → σ'.length = σ.length → (∀ (i : Nat) x, ρ[i]? = some (some x) → σ'[i]? = σ[i]?) → Fits σ' ρ
  | [], [], [], h, _, _ => h
  | a :: σ, b :: σ', c :: ρ, h, hl, q => by
    refine ⟨fun z => ?_, Fits.sub h.2 (Nat.succ.inj hl) fun i x e => by have := q (i + 1) x (by simpa using e); simpa using this⟩
    cases c with
    | none => cases z
    | some x =>
      have := q 0 x rfl
      simp at this
      rw [this]; exact h.1 rfl
  | [], _ :: _, [], _, hl, _ => by cases hl
  | _ :: _, [], _ :: _, _, hl, _ => by cases hl
theorem slotsT_sub : ∀ {σ σ' : L2.St} {ρ : SEnv}, σ'.length = σ.length → (∀ (i : Nat) x, ρ[i]? = some (some x) → σ'[i]? = σ[i]?) → slotsT σ' ρ = slotsT σ ρ
  | [], [], ρ, _, _ => rfl
  | a :: σ, b :: σ', [], _, _ => by simp [slotsT]
  | a :: σ, b :: σ', c :: ρ, hl, q => by
    have ih := slotsT_sub (σ := σ) (σ' := σ') (ρ := ρ) (Nat.succ.inj hl) fun i x e => by have := q (i + 1) x (by simpa using e); simpa using this
    cases c with
    | none => cases a <;> cases b <;> simp [slotsT, ih]
    | some x =>
      have := q 0 x rfl
      simp at this
      subst this
      obtain ⟨k, d⟩ := x
      cases b <;> simp [slotsT, ih]
  | [], _ :: _, _, hl, _ => by cases hl
  | _ :: _, [], _, hl, _ => by cases hl
/-- the state differs only where nothing is known -/
theorem StR.sub {σ' : L2.St} (s : StR K F B H σ ρ T) (hl : σ'.length = σ.length) (q : ∀ (i : Nat) x, ρ[i]? = some (some x) → σ'[i]? = σ[i]?) : StR K F B H σ' ρ T :=
  ⟨s.fit.sub hl q, by rw [slotsT_sub hl q]; exact s.own⟩
theorem wipeE_length (ρ : SEnv) : ∀ vs : List Nat, (wipeE ρ vs).length = ρ.length
  | [] => rfl
  | v :: vs => by unfold wipeE; rw [List.length_set, wipeE_length ρ vs]
theorem wipeE_out {ρ : SEnv} {i : Nat} : ∀ {vs : List Nat}, i ∉ vs → (wipeE ρ vs)[i]? = ρ[i]?
  | [], _ => rfl
  | v :: vs, h => by
    unfold wipeE
    rw [List.getElem?_set_ne (by intro z; subst z; exact h List.mem_cons_self), wipeE_out fun z => h (List.mem_cons_of_mem _ z)]
theorem wipeE_in {ρ : SEnv} {i : Nat} {x : Nat × D} : ∀ {vs : List Nat}, i ∈ vs → (wipeE ρ vs)[i]? ≠ some (some x)
  | v :: vs, h => by
    unfold wipeE
    by_cases e : v = i
    · subst e
      by_cases hl : v < (wipeE ρ vs).length
      · rw [List.getElem?_set_self hl]; intro z; cases z
      · rw [List.getElem?_eq_none (by simpa using hl)]; intro z; cases z
    · rw [List.getElem?_set_ne e]
      exact wipeE_in (by rcases List.mem_cons.mp h with z | z; exact absurd z.symm e; exact z)
theorem wipe_in {σ : L2.St} {i : Nat} : ∀ {vs : List Nat}, i ∈ vs → (wipe σ vs)[i]? = if i < σ.length then some none else none
  | v :: vs, h => by
    unfold wipe
    by_cases e : v = i
    · subst e
      by_cases hl : v < σ.length
      · rw [List.getElem?_set_self (by rw [wipe_length]; exact hl), if_pos hl]
      · rw [List.getElem?_eq_none (by rw [List.length_set, wipe_length]; exact Nat.le_of_not_lt hl), if_neg hl]
    · rw [List.getElem?_set_ne e]
      exact wipe_in (by rcases List.mem_cons.mp h with z | z; exact absurd z.symm e; exact z)
theorem wipe_eq {σ σ' : L2.St} {vs : List Nat} (h : Chg vs σ σ') : wipe σ' vs = wipe σ vs := by
  apply List.ext_getElem?
  intro i
  by_cases hi : i ∈ vs
  · rw [wipe_in hi, wipe_in hi, h.1]
  · rw [wipe_out hi, wipe_out hi, h.2 i hi]
theorem wipe_wipe {σ : L2.St} {vs : List Nat} : wipe (wipe σ vs) vs = wipe σ vs := wipe_eq ⟨wipe_length σ vs, fun i h => wipe_out h⟩
/-- the block's own slots emptied -/
theorem StR.wipe {vs : List Nat} (s : StR K F B H σ ρ T) : StR K F B H (L2.wipe σ vs) (wipeE ρ vs) T := by
  have s1 : StR K F B H σ (wipeE ρ vs) T := by
    induction vs with
    | nil => exact s
    | cons v vs ih => exact ih.emptySlot v
  refine s1.sub (wipe_length σ vs) fun i x e => wipe_out fun hi => ?_
  exact wipeE_in hi e
/-- what the block's own slots held -/
def saved (σ : L2.St) (ρ : SEnv) : List Nat → List Root
  | [] => []
  | v :: vs => (match σ[v]?, ρ[v]? with
    | some (some w), some (some (k, d)) => [(w, k, d)]
    | _, _ => []) ++ saved σ ρ vs
theorem StR.save {vs : List Nat} (s : StR K F B H σ ρ T) (nd : vs.Nodup) : StR K F B H (L2.wipe σ vs) (wipeE ρ vs) (saved σ ρ vs ++ T) := by
  have s1 : StR K F B H σ (wipeE ρ vs) (saved σ ρ vs ++ T) := by
    induction vs with
    | nil => exact s
    | cons v vs ih =>
      have nd := List.nodup_cons.mp nd
      have ih := ih nd.2
      have e := wipeE_out (ρ := ρ) nd.1
      cases e1 : σ[v]? with
      | none => unfold saved wipeE; rw [e1]; exact ih.emptySlot v
      | some o =>
        cases o with
        | none => unfold saved wipeE; rw [e1]; exact ih.emptySlot v
        | some w =>
          cases e2 : ρ[v]? with
          | none => unfold saved wipeE; rw [e1, e2]; exact ih.emptySlot v
          | some o =>
            cases o with
            | none => unfold saved wipeE; rw [e1, e2]; exact ih.emptySlot v
            | some x =>
              obtain ⟨k, d⟩ := x
              unfold saved wipeE
              rw [e1, e2]
              exact ih.takeSlot e1 (e.trans e2)
  refine s1.sub (wipe_length σ vs) fun i x e => wipe_out fun hi => ?_
  exact wipeE_in hi e
theorem restore_length (ρ ρ' : SEnv) : ∀ vs : List Nat, (restore ρ ρ' vs).length = ρ'.length
  | [] => rfl
  | v :: vs => by unfold restore; rw [List.length_set, restore_length ρ ρ' vs]
theorem StR.restAux {vs : List Nat} {ρ0 : SEnv} {T' : List Root} (z : StR K F B H σ ρ (saved σ ρ0 vs ++ T')) (fit : Fits σ ρ0) (hl0 : ρ.length = σ.length) : StR K F B H σ (PV.restore ρ0 ρ vs) T' := by
    induction vs generalizing T' with
    | nil => exact z
    | cons v vs ih =>
      unfold PV.restore
      have hl : (PV.restore ρ0 ρ vs).length = σ.length := (restore_length _ _ _).trans hl0
      unfold saved at z
      cases e2 : ρ0[v]? with
      | none =>
        rw [e2] at z
        have z : StR K F B H σ ρ (saved σ ρ0 vs ++ T') := by cases e1 : σ[v]? with
          | none => rw [e1] at z; exact z
          | some o => rw [e1] at z; cases o <;> exact z
        exact (ih z).emptySlot v
      | some o =>
        cases o with
        | none =>
          rw [e2] at z
          have z : StR K F B H σ ρ (saved σ ρ0 vs ++ T') := by cases e1 : σ[v]? with
            | none => rw [e1] at z; exact z
            | some o => rw [e1] at z; cases o <;> exact z
          exact (ih z).emptySlot v
        | some x =>
          obtain ⟨k, d⟩ := x
          obtain ⟨w, e1⟩ := fit.get e2
          rw [e1, e2] at z
          have s2 : StR K F B H σ ρ (saved σ ρ0 vs ++ ((w, k, d) :: T')) := z.behind fun S r => by
            rw [List.append_assoc, List.cons_append]
            refine r.perm ?_
            simp only [List.nil_append, List.singleton_append, List.cons_append, List.append_assoc]
            exact List.perm_middle.symm
          exact StR.fillSlot e1 (by rw [hl]; exact (List.getElem?_eq_some_iff.mp e1).1) (ih s2)
theorem StR.restore {vs : List Nat} {ρ0 : SEnv} (s : StR K F B H (L2.wipe σ vs) ρ (saved σ ρ0 vs ++ T)) (fit : Fits σ ρ0) (hn : ∀ i ∈ vs, ∀ x, ρ[i]? ≠ some (some x)) : StR K F B H σ (PV.restore ρ0 ρ vs) T := by
  have hl0 : ρ.length = σ.length := s.fit.length.symm.trans (wipe_length σ vs)
  have s1 : StR K F B H σ ρ (saved σ ρ0 vs ++ T) := s.sub (wipe_length σ vs).symm fun i x e => (wipe_out fun hi => hn i hi x e).symm
  exact s1.restAux fit hl0
end

section
variable {Z : GD} {Γ : Gam} {lvl : Nat} {c : Cmp} {W : WX} {X : Cx}
def SC (Z : GD) (Γ : Gam) (lvl : Nat) (c : Cmp) (es : List Expr) (cc : CC) : Prop := ∀ X W, Ok Z Γ lvl c W X → PTs X es (rdT Z X.K W (denC (e0 Z lvl c) cc))
theorem PTs.weak {X : Cx} {e : List Expr} {t t' : TT} (h : PTs X e t) (w : ∀ σ H Q, t' σ H Q → t σ H Q) : PTs X e t' := ⟨fun pins s σ H Q I q => h.run pins s σ H Q I (w σ H Q q)⟩
theorem c_none : SC Z Γ lvl c [] .none := fun X W o => PTs.weak pts_nil fun σ H Q h => by
  obtain ⟨F, B, ρ, T, s, p⟩ := h
  exact p H s
theorem c_some {e : Expr} {b : CB} (h : SB Z Γ lvl c e b) : SC Z Γ lvl c [e] (.some b) := fun X W o => pts_one (h X W o)
/-- the block of a comprehension -/
def blkCmp (c : Cmp) (scope : Scope) (own : List (Str × Nat)) : Cmp := ⟨c.N, relS scope c.sc, own.map (·.1), c.io⟩
def locC (sc scope : Scope) (x : Str) : Bool := match scope.names.lookup x with
  | some .cell => decide ((relS scope sc).names.lookup x = some .cell)
  | some .local => decide ((relS scope sc).names.lookup x = some .local)
  | _ => false
def compC (c : Cmp) (scope : Scope) (own : List (Str × Nat)) : Bool := blkC c.N c.sc scope own && (own.map (·.1)).all (locC c.sc scope) && decide (own.map (·.2)).Nodup
theorem Ok.blk {scope : Scope} {own : List (Str × Nat)} (o : Ok Z Γ lvl c W X) (h : compC c scope own = true) (s : Shared) (H : Hp) (C : Addr) (cl : List (Str × Addr)) (fp : List Addr) :
    Ok Z Γ lvl (blkCmp c scope own) (fun _ _ _ _ => False) (X.blk s H scope (compEnvC scope cl C X.env) fp) where
  facts := o.facts
  snd := o.snd
  N := o.N
  nd := o.nd
  sc := by show relS scope X.env.scope = relS scope c.sc; rw [o.sc]
  loc := fun x hx => by
    have h1 := (Bool.and_eq_true_iff.mp (Bool.and_eq_true_iff.mp h).1).2
    have h2 := List.all_eq_true.mp h1 x hx
    show Loc (relS scope X.env.scope) x ∧ ((scope.names.lookup x == some .cell) = true ∨ (relS scope X.env.scope).names.lookup x = some .local)
    rw [o.sc]
    unfold locC at h2
    cases e : scope.names.lookup x with
    | none => rw [e] at h2; cases h2
    | some k =>
      rw [e] at h2
      cases k <;> first | cases h2; done | skip
      · have z := of_decide_eq_true h2
        exact ⟨.inl z, .inr z⟩
      · have z := of_decide_eq_true h2
        exact ⟨.inr z, .inl rfl⟩
  calm := o.calm
  room := o.room
  tk := fun u s' z => by
    obtain ⟨_, _, _, _, _, _, _, _, _, _, _, _, _, _, _, _, f⟩ := z
    exact f.elim
def plainIt : Expr → Bool
  | .Set .. => false
  | _ => true
theorem plainIt_of {e : Expr} {env : Env} (h : plainIt e = true) : ∀ x, foldedSetIterable e env x = pure x := by
  intro x
  cases e <;> first | rfl | cases h
theorem if_yes {p q : Prop} (h : p) : if true = true then p else q := by rw [if_pos rfl]; exact h
theorem if_no {p q : Prop} (h : q) : if false = true then p else q := by rw [if_neg Bool.false_ne_true]; exact h
theorem well_ok {α β : Type} {r : RE α} {f : α → SEnv → RE β} {b : β} {ρ' : SEnv} (h : r.well f = .ok b ρ') : ∃ a ρ2, r = .ok a ρ2 ∧ f a ρ2 = .ok b ρ' := by
  cases r with
  | ok a ρ2 => exact ⟨a, ρ2, rfl, h⟩
  | ex e ρ2 => cases h
  | no => cases h
theorem well_nx {α β : Type} {r : RE α} {f : α → SEnv → RE β} (hf : ∀ a ρ2 e ρ', f a ρ2 ≠ .ex e ρ') : ∀ e ρ', r.well f ≠ .ex e ρ' := by
  intro e ρ' h
  cases r with
  | ok a ρ2 => exact hf _ _ _ _ h
  | ex e ρ2 => cases h
  | no => cases h
/-- a denotation that ends well serves the reading -/
theorem After.of {K : Frag} {F B : Hp} {σ : L2.St} {T : List Root} {α : Type} {r : RE α} {a : α} {ρ : SEnv} {post : α → SEnv → Prop} (e : r = .ok a ρ) (h : post a ρ) : After Z K W F B σ T r post := by rw [e]; exact h
/-- what a turn's test and item make of the list -/
theorem acc_rd {K : Frag} {W0 : WX} {F B : Hp} {σ : L2.St} {T : List Root} {E : PV.Env0} {ce : CE} {D : Addr} {k : Nat} {acc : List PV.D} {a2 : Nat × List PV.D} {ρ ρ2 : SEnv} {H : Hp} {Nx : Hp → Prop}
    (s : StR K F B H σ ρ ((.ref D, k + 1, .list acc) :: T)) (e : denG E (.done ce) (k + 1, acc) ρ = .ok a2 ρ2) (hN : ∀ k2 H', a2.1 = k2 + 1 → StR K F B H' σ ρ2 ((.ref D, k2 + 1, .list a2.2) :: T) → Nx H') :
    rdE Z K W0 (denE E ce) σ H fun y H4 => ∃ acc, H4 D = some (.lst acc) ∧ acc.length < sizeLine ∧ Nx (upd H4 D (.lst (acc ++ [y]))) := by
  obtain ⟨t, ρ1, e1, e2⟩ := M.bind_ok (show ((denE E ce).bind fun t => accum E.io (k + 1, acc) t) ρ = .ok a2 ρ2 from e)
  refine ⟨F, B, ρ, _, s, After.of e1 fun y H4 vr s1 => ?_⟩
  obtain ⟨x, ρ3, e3, e4⟩ := M.bind_ok e2
  have s2 := item_hold s1 vr e3
  by_cases hz : sizeOk (acc.length + 1) = true
  · rw [if_pos hz] at e4
    cases e4
    have s3 : StR K F B H4 σ ρ2 ((y, x.1, x.2) :: (.ref D, k + 1, .list acc) :: T) := s2
    obtain ⟨S, r⟩ : ∃ S, S = slotsT σ ρ2 ++ T := ⟨_, rfl⟩
    have r1 : Roots K F B H4 ((y, x.1, x.2) :: (.ref D, k + 1, .list acc) :: (slotsT σ ρ2 ++ T)) := s3.own.perm (by
      refine (List.perm_middle).trans (.cons _ ?_)
      exact List.perm_middle)
    obtain ⟨xs, hD, hl, r2⟩ := r1.app
    refine ⟨xs, hD, by rw [hl]; exact of_decide_eq_true hz, hN (min k x.1) _ (by show min (k + 1) (x.1 + 1) = _; omega) ⟨s3.fit, ?_⟩⟩
    have em : min (k + 1) (x.1 + 1) = min k x.1 + 1 := by omega
    rw [em] at r2
    exact r2.perm List.perm_middle.symm
  · rw [if_neg hz] at e4
    cases e4
theorem turns_split {α : Type} {f : α → PV.D → M α} {x : PV.D} {xs : List PV.D} {a b : α} {ρ ρ' : SEnv} (h : turns f (x :: xs) a ρ = .ok b ρ') : ∃ a1 ρ1, f a x ρ = .ok a1 ρ1 ∧ turns f xs a1 ρ1 = .ok b ρ' := M.bind_ok h
theorem still_get {ρ : SEnv} : ∀ {vs : List Nat}, still ρ vs = true → ∀ i ∈ vs, ∀ x, ρ[i]? = some (some x) → x.1 = 0
  | v :: vs, h, i, hi, x, e => by
    have h := Bool.and_eq_true_iff.mp h
    rcases List.mem_cons.mp hi with rfl | hi
    · have h1 := h.1
      rw [e] at h1
      obtain ⟨k, d⟩ := x
      cases k with
      | zero => rfl
      | succ k => cases h1
    · exact still_get h.2 i hi x e
theorem comp_rd {K : Frag} {own : List Nat} {t : CT} {it : CI} {cc : CC} {ce : CE} {W W0 : WX} {σ : L2.St} {H : Hp} {Q : VK} {E : PV.Env0} (nd : own.Nodup) (ht : ∀ i ∈ slotsOf t, i ∈ own)
    (h : rdE Z K W (denE E (.comp own t it cc (.done ce))) σ H Q) : tLc (rdI Z K W (denI E it)) (rdG K E t) (rdT Z K W0 (denC E cc)) (rdE Z K W0 (denE E ce)) own σ H Q := by
  obtain ⟨F, B, ρ, T, s, p⟩ := h
  have p := After.bind (m := denI E it) p
  refine ⟨F, B, ρ, T, s, p.mono fun xs ρ1 _ p J S H1 wk s1 => ?_⟩
  intro D hD
  -- the denotation taken apart
  by_cases st : still ρ1 own = true
  · rw [if_pos st] at p
    obtain ⟨tv, ρ3, e0, p⟩ := p.ok (well_nx fun a ρ2 e ρ' h => by cases h)
    obtain ⟨acc, ρ2, e1, e2⟩ := well_ok e0
    cases e2
    generalize hf : (fun (acc : Nat × List PV.D) (x : PV.D) => turnM own (bindN E t x) (denC E cc) (denG E (.done ce) acc) acc) = f at e1
    have hl1 : ρ1.length = σ.length := s1.fit.length.symm
    refine ⟨fun i m H => m = xs.length - i ∧ ∃ ρi k a, StR K F B H (L2.wipe σ own) ρi ((.ref D, k + 1, .list a) :: (S ++ (saved σ ρ1 own ++ T))) ∧ (∀ i ∈ own, ∀ x, ρi[i]? ≠ some (some x)) ∧ turns f (xs.drop i) (k + 1, a) ρi = .ok acc ρ2, ⟨xs.length, rfl, wipeE ρ1 own, 8, [], ?_, fun i hi x => wipeE_in hi, e1⟩, ?_⟩
    · -- the new list
      have s2 := s1.save nd
      have s3 : StR K F B (upd H1 D (.lst [])) (L2.wipe σ own) (wipeE ρ1 own) ((.ref D, kMin [] + 1, .list []) :: (saved σ ρ1 own ++ (S ++ T))) := StR.newList (vs := []) (xs := []) rfl s2 hD
      exact s3.behind fun U r => r.perm (((perm_swap3 _ _ _).cons _).append_right U)
    · rintro i m H2 ⟨rfl, ρi, k, a, s2, hn, e3⟩
      have s2' : StR K F B H2 (L2.wipe σ own) ρi (S ++ ((.ref D, k + 1, .list a) :: (saved σ ρ1 own ++ T))) := s2.behind fun U r => r.perm (List.perm_middle.symm.append_right U)
      obtain ⟨w1, w2⟩ := wk _ _ _ _ _ _ s2'
      cases hx : xs[i]? with
      | none =>
        have hi : xs.length ≤ i := List.getElem?_eq_none_iff.mp hx
        rw [List.drop_of_length_le hi] at e3
        cases e3
        refine .inl ⟨w2 i hi, p (.ref D) H2 trivial ?_⟩
        -- the own slots again
        have s3 : StR K F B H2 (L2.wipe σ own) ρ2 (saved σ ρ1 own ++ ((.ref D, k + 1, .list a) :: T)) := s2.behind fun U r => by
          refine (Roots.perm (T' := S ++ ((saved σ ρ1 own ++ ((.ref D, k + 1, .list a) :: T)) ++ U)) r ?_).dropL
          simp only [List.cons_append, List.append_assoc]
          refine List.perm_middle.symm.trans (List.Perm.append_left _ ?_)
          exact List.perm_middle.symm
        exact s3.restore s1.fit hn
      | some x =>
        have hi : i < xs.length := (List.getElem?_eq_some_iff.mp hx).1
        obtain ⟨w3, w4⟩ := w1 i x hx
        have ed : xs.drop i = x :: xs.drop (i + 1) := by
          rw [List.drop_eq_getElem_cons hi]
          congr 1
          exact Option.some.inj ((List.getElem?_eq_getElem hi).symm.trans hx)
        rw [ed] at e3
        obtain ⟨a1, ρ4, e4, e5⟩ := turns_split e3
        rw [← hf] at e4
        obtain ⟨a2, ρ5, e6, e7⟩ := well_ok e4
        cases e7
        obtain ⟨_, ρ6, e7, e6⟩ := M.bind_ok e6
        obtain ⟨kc, ρ7, e8, e6⟩ := M.bind_ok e6
        refine .inr ⟨w3, fun H' => ∃ k2, a1.1 = k2 + 1 ∧ StR K F B H' (L2.wipe σ own) (wipeE ρ5 own) ((.ref D, k2 + 1, .list a1.2) :: (S ++ (saved σ ρ1 own ++ T))), fun H' ⟨k2, z1, z2⟩ => ?_, fun y H3 hy => ?_⟩
        · refine ⟨xs.length - (i + 1), by omega, rfl, wipeE ρ5 own, k2, a1.2, z2, fun i hi x => wipeE_in hi, ?_⟩
          rw [← z1]; exact e5
        · refine ⟨F, B, ρi, _, x, ρ6, w4 y H3 hy, e7, fun σ2 H4 s4 ch _ => ?_⟩
          have ew : L2.wipe σ2 own = L2.wipe σ own := (wipe_eq (ch.mono ht)).trans wipe_wipe
          refine ⟨ew, F, B, ρ6, _, s4, After.of e8 fun H5 s5 => ?_⟩
          have s6 : StR K F B H5 σ2 ρ7 ((.ref D, k + 1, .list a) :: (S ++ (saved σ ρ1 own ++ T))) := s5.behind fun U r => r.perm (List.perm_middle.append_right U)
          cases kc with
          | false =>
            rw [if_neg Bool.false_ne_true] at e6
            refine if_no ?_
            cases e6
            refine ⟨k, rfl, ?_⟩
            rw [← ew]; exact s6.wipe
          | true =>
            rw [if_pos rfl] at e6
            refine if_yes (acc_rd (Nx := fun H' => ∃ k2, a1.1 = k2 + 1 ∧ StR K F B H' (L2.wipe σ own) (wipeE ρ5 own) ((.ref D, k2 + 1, .list a1.2) :: (S ++ (saved σ ρ1 own ++ T)))) s6 e6 fun k2 H' z1 z2 => ⟨k2, z1, by rw [← ew]; exact z2.wipe⟩)
  · rw [if_neg st] at p
    exact p.elim
theorem s_comp {elt tg iter : Expr} {ifs : List Expr} {scope : Scope} {own : List (Str × Nat)} {pos : Pos} {t : CT} {it : CI} {cc : CC} {ce : CE} (h : compC c scope own = true) (hp : plainIt iter = true) (ht : (slotsOf t).all (fun i => decide (i ∈ own.map (·.2))) = true)
    (hi : SI Z Γ lvl c tg iter it) (hg : SG Z Γ lvl (blkCmp c scope own) tg t) (hc : SC Z Γ lvl (blkCmp c scope own) ifs cc) (he : SE Z Γ lvl (blkCmp c scope own) elt ce) :
    SE Z Γ lvl c (.ListComp elt [⟨tg, iter, ifs, 0⟩] scope pos) (.comp (own.map (·.2)) t it cc (.done ce)) := fun X W o => by
  have h1 := Bool.and_eq_true_iff.mp h
  have h2 := Bool.and_eq_true_iff.mp h1.1
  have bk : BlkOk X.N X.env.scope scope own := by rw [o.N, o.sc]; exact blkOk_by h2.1
  refine PE.weak (pe_lc (g := rdG X.K (e0 Z lvl c) t) (tt := rdT Z X.K (fun _ _ _ _ => False) (denC (e0 Z lvl c) cc)) (te := rdE Z X.K (fun _ _ _ _ => False) (denE (e0 Z lvl c) ce)) o.calm (by rw [o.N]; exact o.nd) (hi X W o) bk (fun s H C cl fp => hg _ _ (o.blk h s H C cl fp)) (fun s H C cl fp => hc _ _ (o.blk h s H C cl fp)) (fun s H C cl fp => he _ _ (o.blk h s H C cl fp)) (plainIt_of hp)) fun σ H Q z => ?_
  exact comp_rd (of_decide_eq_true h1.2) (fun i hi => of_decide_eq_true (List.all_eq_true.mp ht i hi)) z
end
end PV

/-! PV3f: isinstance, methods of texts. -/
namespace PV
open PySem PySem.Spec L2
def tyS : D → String
  | .none => "NoneType"
  | .bool _ => "bool"
  | .int _ => "int"
  | .str _ => "str"
  | .list _ => "list"
  | .tuple _ => "tuple"
  | .dict _ => "dict"
def Ty.nm : Ty → String
  | .int => "int"
  | .bool => "bool"
  | .str => "str"
  | .tup => "tuple"
  | .lst => "list"
  | .dic => "dict"
  | .non => "NoneType"
theorem isTy_kit {K : Frag} (d : D) (t : Ty) : PySem.W.kitOne K (.type (tyS d)) (.type t.nm) = some (isTy t d) := by
  apply kit_ty
  cases d <;> cases t <;> rfl
theorem isTy_any {K : Frag} (d : D) : ∀ ts : List Ty, PySem.W.kitAny K (.type (tyS d)) (ts.map fun t => Value.type t.nm) = some (ts.any fun t => isTy t d)
  | [] => kitAny_nil
  | t :: ts => by
    have ih := isTy_any (K := K) d ts
    refine kitAny_cons (isTy_kit d t) (fun h => ?_) fun h => ?_
    · rw [List.any_cons, h]; exact ih
    · rw [List.any_cons, h]; rfl
theorem Rep.tyX {K : Frag} {H : Hp} {v : V} {d : D} (r : Rep K H v d) : TyX K H v (.type (tyS d)) := by
  cases r with
  | non => exact .base .non
  | bl b => exact .base (.bl b)
  | int b => exact .base (.int b)
  | str b => exact .base (.str b)
  | lst q _ =>
    rcases q with (q | ⟨o, q⟩) | ⟨its, n, q, _⟩
    · exact .base (.lst q)
    · exact .base (.frz q)
    · exact .kList q rfl
  | tup q _ =>
    rcases q with (q | ⟨o, q⟩) | ⟨o, its, n, q, c, _⟩
    · exact .base (.tup q)
    · exact .fTuple q
    · exact .kTuple q c
  | dic q _ => exact .base (.dK q)
  | dicT q _ => exact .base (.dT q)
def tyTab : List (Str × Ty) := [("int", .int), ("bool", .bool), ("str", .str), ("tuple", .tup), ("list", .lst), ("dict", .dic)]
def tyFind (x : Str) : Option Ty := (tyTab.find? fun r => decide (r.1 = x)).map (·.2)
theorem tyFind_of {x : Str} {t : Ty} (h : tyFind x = some t) : bootBuiltins x = some (.type t.nm) ∧ (x == ("__debug__" : Str)) = false ∧ x ≠ "__name__" := by
  unfold tyFind at h
  obtain ⟨r, h1, h2⟩ := map_some h
  have h3 := List.find?_some h1
  have h4 := List.mem_of_find?_eq_some h1
  obtain rfl : r.1 = x := of_decide_eq_true h3
  subst h2
  simp only [tyTab, List.mem_cons, List.mem_nil_iff, or_false] at h4
  rcases h4 with rfl | rfl | rfl | rfl | rfl | rfl
  · exact ⟨PyProof.Rows.boot_int, by decide, by decide⟩
  · exact ⟨PyProof.Rows.boot_bool, by decide, by decide⟩
  · exact ⟨PyProof.Rows.boot_str, by decide, by decide⟩
  · exact ⟨PyProof.Rows.boot_tuple, by decide, by decide⟩
  · exact ⟨PyProof.Rows.boot_list, by decide, by decide⟩
  · exact ⟨PyProof.Rows.boot_dict, by decide, by decide⟩
section
variable {Z : GD} {Γ : Gam} {lvl : Nat} {c : Cmp} {W : WX} {X : Cx}
theorem t_name {x : Str} {t : Ty} {pos : Pos} (o : Ok Z Γ lvl c W X) (h : tyFind x = some t) (h1 : Γ.blt x = true) (h2 : glo c.sc x = true) : PE X (.Name x pos) (tC (.ty t.nm)) := by
  obtain ⟨a, b, d⟩ := tyFind_of h
  exact pe_bltn (o.gl h2) (o.facts.blt x h1) a rfl d b
theorem s_isi {e : Expr} {x : Str} {t : Ty} {ce : CE} {p0 p1 pos : Pos} (hb : Γ.blt "isinstance" = true) (hg : glo c.sc "isinstance" = true) (hn : notStar e = true) (he : SE Z Γ lvl c e ce) (h : tyFind x = some t) (h1 : Γ.blt x = true) (h2 : glo c.sc x = true) :
    SE Z Γ lvl c (.Call (.Name "isinstance" p0) [e, .Name x p1] [] pos) (.isi ce [t]) := fun X W o => by
  refine PE.weak (pe_callB call_isi (o.gl hg) (o.facts.blt _ hb) PyProof.Rows.boot_isinstance (pa_cons (he X W o) (pa_cons (t_name o h h1 h2) pa_nil) (star1 hn)) (he := star1 hn)) fun σ H Q z => ?_
  obtain ⟨F, B, ρ, T, s, p⟩ := z
  refine step s p fun t1 ρ1 v1 H1 r1 s1 p => ?_
  obtain ⟨d1, ρ3, e1, p⟩ := p.bind.nx .bor
  obtain ⟨s2, b1⟩ := bor_peek s1 r1 e1
  refine ⟨v1, .ty t.nm, _, _, _, rfl, .ty _, b1.tyX, isTy_kit d1 t, p _ H1 trivial ?_⟩
  have e2 : (d1 : D) = d1 := rfl
  cases t1 with
  | pv k' d => exact s2.behind fun S r => (r.drop.scal fun G => by rw [List.any_cons, List.any_nil, Bool.or_false]; exact .bl _)
  | var i => exact s2.behind fun S r => r.scal fun G => by rw [List.any_cons, List.any_nil, Bool.or_false]; exact .bl _
theorem StR.newDead {K : Frag} {F B H : Hp} {σ : L2.St} {ρ : SEnv} {T : List Root} {p : Addr} {u : HO} (s : StR K F B H σ ρ T) (hp : H p = none) : StR K F B (upd H p u) σ ρ T := by
  obtain ⟨G, fp, r⟩ := s.own
  exact ⟨s.fit, _, fp, r.ext (Ext.owned r.gh hp)⟩
theorem s_isi2 {e : Expr} {x y : Str} {t t' : Ty} {ce : CE} {k : Nat} {p0 p1 p2 p3 pos : Pos} (hb : Γ.blt "isinstance" = true) (hg : glo c.sc "isinstance" = true) (hn : notStar e = true) (he : SE Z Γ lvl c e ce)
    (h : tyFind x = some t) (h1 : Γ.blt x = true) (h2 : glo c.sc x = true) (h' : tyFind y = some t') (h1' : Γ.blt y = true) (h2' : glo c.sc y = true) :
    SE Z Γ lvl c (.Call (.Name "isinstance" p0) [e, .Tuple [.Name x p1, .Name y p2] k p3] [] pos) (.isi ce [t, t']) := fun X W o => by
  refine PE.weak (pe_callB call_isiT (o.gl hg) (o.facts.blt _ hb) PyProof.Rows.boot_isinstance (pa_cons (he X W o) (pa_cons (pe_tup (pa_cons (t_name o h h1 h2) (pa_cons (t_name o h' h1' h2') pa_nil))) pa_nil) (star1 hn)) (he := star1 hn)) fun σ H Q z => ?_
  obtain ⟨F, B, ρ, T, s, p⟩ := z
  refine step s p fun t1 ρ1 v1 H1 r1 s1 p => ?_
  refine ⟨by show 2 ≤ sizeLine; decide, fun q hq => ?_⟩
  have s1 := s1.newDead (u := .tup [.ty t.nm, .ty t'.nm]) hq
  obtain ⟨d1, ρ3, e1, p⟩ := p.bind.nx .bor
  obtain ⟨s2, b1⟩ := bor_peek s1 r1 e1
  refine ⟨v1, q, _, _, _, _, rfl, upd_same, .cons (.ty _) (.cons (.ty _) .nil), b1.tyX, isTy_any d1 [t, t'], p _ _ trivial ?_⟩
  cases t1 with
  | pv k' d => exact s2.behind fun S r => (r.drop.scal fun G => .bl _)
  | var i => exact s2.behind fun S r => r.scal fun G => .bl _

/-! ### methods of texts -/
def notSuper : Expr → Bool
  | .Call (.Name id _) [] [] _ => !(id == ("super" : Str))
  | _ => true
theorem base_of {e : Expr} {nm : Str} {env : Env} {w : Sem Value} (h : notSuper e = true) : attributeBase e nm env w = w := by
  unfold attributeBase
  split
  · rename_i id p p'
    have h1 : (id != ("super" : Str)) = true := h
    rw [h1]; rfl
  · rfl
def methTab : List (Str × Blt) := [("split", .split), ("partition", .partition), ("join", .join)]
def methFind (x : Str) : Option Blt := (methTab.find? fun r => decide (r.1 = x)).map (·.2)
theorem methFind_of {x : Str} {b : Blt} (h : methFind x = some b) : ∃ id, strM b = some (x, id) ∧ PySem.Slot "str" x id ∧ typeOf (.builtin id) = pure (.type "method_descriptor") := by
  unfold methFind at h
  obtain ⟨r, h1, h2⟩ := map_some h
  have h3 := List.find?_some h1
  have h4 := List.mem_of_find?_eq_some h1
  obtain rfl : r.1 = x := of_decide_eq_true h3
  subst h2
  simp only [methTab, List.mem_cons, List.mem_nil_iff, or_false] at h4
  rcases h4 with rfl | rfl | rfl
  · exact ⟨_, rfl, F.slot_str_split, F.type_str_split⟩
  · exact ⟨_, rfl, F.slot_str_partition, F.type_str_partition⟩
  · exact ⟨_, rfl, F.slot_str_join, F.type_str_join⟩
theorem s_meth {o e : Expr} {nm : Str} {b : Blt} {co ce : CE} {apos pos : Pos} (hm : methFind nm = some b) (hs : notSuper o = true) (hl : (apos.endLine == pos.line) = true) (hn : notStar e = true) (ho : SE Z Γ lvl c o co) (he : SE Z Γ lvl c e ce) :
    SE Z Γ lvl c (.Call (.Attribute o nm apos) [e] [] pos) (.meth b co ce) := fun X W ok => by
  obtain ⟨id, h1, h2, h3⟩ := methFind_of hm
  refine PE.weak (pe_m1 h2 h3 (meth_blt b nm id h1) (ho X W ok) (he X W ok) (star1 hn) (base_of hs) hl) fun σ H Q z => ?_
  obtain ⟨F, B, ρ, T, s, p⟩ := z
  refine step s p fun t1 ρ1 v1 H1 r1 s1 p => ?_
  obtain ⟨d1, ρ2, e1, p⟩ := p.bind.nx .bor
  obtain ⟨s2, b1⟩ := bor_peek s1 r1 e1
  cases d1 with
  | str z =>
    obtain rfl : v1 = .str z := by cases b1; rfl
    refine ⟨⟨z, rfl⟩, ?_⟩
    refine step2 s2 p fun t2 ρ3 v2 H2 r2 s3 p => ?_
    obtain ⟨d2, ρ4, e2, p⟩ := p.bind.nx .bor
    obtain ⟨⟨k, d⟩, e5, p⟩ := p.optMap
    -- the first one is a text, whatever held it
    have s3' : StR X.K F B H2 σ ρ3 (pushT t2 v2 T) := by
      cases t1 with
      | pv k' d' => cases t2 with
        | pv k2 d2 => exact s3.behind fun S r => (r.perm (.swap _ _ _)).drop
        | var i => exact s3.behind fun S r => r.drop
      | var i => exact s3
    have e' : bors [t2] ρ3 = .ok [d2] ρ4 := by unfold bors; unfold M.bind; rw [e2]; rfl
    obtain ⟨G, fp, fit, rg, ba⟩ := bors_use (ts := [t2]) (vs := [v2]) s3' (.cons r2 .nil) e'
    obtain ⟨w, hw, b2⟩ := borAll_one ba
    cases hw
    exact ⟨G, _, _, _, k, d, rg.gh, rfl, .rep (.str z), b2, e5, yield_of fit rg fun v H' s' => p v H' trivial s'⟩
  | _ => exact p.elim
end
end PV

/-! PV4a: statements. -/
namespace PV
open PySem PySem.Spec L2
/-- the io places hold what they held -/
def Pin (io : List Nat) (σ σ' : L2.St) : Prop := ∀ i ∈ io, σ'[i]? = σ[i]?
theorem Pin.refl {io : List Nat} {σ : L2.St} : Pin io σ σ := fun _ _ => rfl
theorem Pin.trans {io : List Nat} {a b d : L2.St} (h : Pin io a b) (g : Pin io b d) : Pin io a d := fun i hi => (g i hi).trans (h i hi)
def AfterS (Z : GD) (K : Frag) (W : WX) (F B : Hp) (io : List Nat) (σ : L2.St) (T : List Root) (En : Ends) (r : RS) : Prop := match r with
  | .nx ρ => ∀ σ' H, StR K F B H σ' ρ T → Pin io σ σ' → En.nx σ' H
  | .rt k d ρ => ∀ v σ' H, StR K F B H σ' ρ ((v, k, d) :: T) → Pin io σ σ' → En.rt v H
  | .bk ρ => ∀ σ' H, StR K F B H σ' ρ T → Pin io σ σ' → En.bk σ' H
  | .ct ρ => ∀ σ' H, StR K F B H σ' ρ T → Pin io σ σ' → En.ct σ' H
  | .ex e ρ => ∀ c d σ' H, StR K F B H σ' ρ T → Pin io σ σ' → Z.xr e c d H → W c d σ' H
  | .no => False
def rdS (Z : GD) (K : Frag) (W : WX) (io : List Nat) (m : MS) : TS := fun En σ H => ∃ F B ρ T, StR K F B H σ ρ T ∧ AfterS Z K W F B io σ T En (m ρ)
structure OkS (Z : GD) (Γ : Gam) (lvl : Nat) (c : Cmp) (W : WX) (X : Cx) : Prop extends Ok Z Γ lvl c W X where
  hp : PassesOwn (model X.prog X.w) X.A X.env X.xe
  hs : X.stack = X.env :: X.outer
  hf : X.env.frame = some X.env.locals
  kind : X.env.scope.kind = .function
def SS (Z : GD) (Γ : Gam) (lvl : Nat) (c : Cmp) (st : Stmt) (cs : CS) : Prop := ∀ X W, OkS Z Γ lvl c W X → PS X st (rdS Z X.K W c.io (denS (e0 Z lvl c) cs))
def SSs (Z : GD) (Γ : Gam) (lvl : Nat) (c : Cmp) (st : List Stmt) (cs : CSs) : Prop := ∀ X W, OkS Z Γ lvl c W X → PSs X st (rdS Z X.K W c.io (denSs (e0 Z lvl c) cs))
theorem PS.weak {X : Cx} {e : Stmt} {t t' : TS} (h : PS X e t) (w : ∀ D σ H, t' D σ H → t D σ H) : PS X e t' := ⟨fun pins s σ H D I q => h.run pins s σ H D I (w D σ H q)⟩
theorem PSs.weak {X : Cx} {e : List Stmt} {t t' : TS} (h : PSs X e t) (w : ∀ D σ H, t' D σ H → t D σ H) : PSs X e t' := ⟨fun pins s σ H D I q => h.run pins s σ H D I (w D σ H q)⟩
section
variable {Z : GD} {K : Frag} {W : WX} {F B H H' : Hp} {io : List Nat} {σ σ' : L2.St} {ρ ρ' : SEnv} {T S : List Root} {En En' : Ends} {α : Type}
theorem AfterS.pin {r : RS} (h : AfterS Z K W F B io σ T En r) (p : Pin io σ σ') : AfterS Z K W F B io σ' T En r := by
  cases r with
  | nx ρ => exact fun s H a q => h s H a (p.trans q)
  | rt k d ρ => exact fun v s H a q => h v s H a (p.trans q)
  | bk ρ => exact fun s H a q => h s H a (p.trans q)
  | ct ρ => exact fun s H a q => h s H a (p.trans q)
  | ex e ρ => exact fun c d s H a q => h c d s H a (p.trans q)
  | no => exact h
/-- more is held -/
theorem AfterS.held {r : RS} (h : AfterS Z K W F B io σ T En r) : AfterS Z K W F B io σ (S ++ T) En r := by
  have d : ∀ {H σ' ρ}, StR K F B H σ' ρ (S ++ T) → StR K F B H σ' ρ T := fun s => s.behind fun U r => by rw [List.append_assoc] at r; exact r.dropL
  cases r with
  | nx ρ => exact fun s H a q => h s H (d a) q
  | rt k x ρ => exact fun v s H a q => h v s H (a.behind fun U r => by
      have r : Roots K F B H (((v, k, x) :: (S ++ T)) ++ U) := r
      have r2 : Roots K F B H (S ++ ((v, k, x) :: (T ++ U))) := r.perm (by
        simp only [List.cons_append, List.append_assoc]
        exact List.perm_middle.symm)
      exact r2.dropL) q
  | bk ρ => exact fun s H a q => h s H (d a) q
  | ct ρ => exact fun s H a q => h s H (d a) q
  | ex e ρ => exact fun c x s H a q => h c x s H (d a) q
  | no => exact h
theorem AfterS.ends {r : RS} (h : AfterS Z K W F B io σ T En r) (h1 : ∀ ρ, r = .nx ρ → (∀ σ' H, StR K F B H σ' ρ T → Pin io σ σ' → En.nx σ' H) → ∀ σ' H, StR K F B H σ' ρ T → Pin io σ σ' → En'.nx σ' H) (h2 : En'.rt = En.rt) (h3 : En'.bk = En.bk) (h4 : En'.ct = En.ct) : AfterS Z K W F B io σ T En' r := by
  cases r with
  | nx ρ => exact h1 ρ rfl h
  | rt k x ρ => show ∀ v s H, _ → _ → En'.rt v H; rw [h2]; exact h
  | bk ρ => show ∀ s H, _ → _ → En'.bk s H; rw [h3]; exact h
  | ct ρ => show ∀ s H, _ → _ → En'.ct s H; rw [h4]; exact h
  | ex e ρ => exact h
  | no => exact h
theorem AfterS.of {m : M α} {f : α → MS} (h : AfterS Z K W F B io σ T En ((MS.of m f) ρ)) : After Z K W F B σ T (m ρ) fun a ρ' => AfterS Z K W F B io σ T En (f a ρ') := by
  unfold MS.of at h
  cases e : m ρ with
  | ok a ρ' => rw [e] at h; exact h
  | ex x ρ' => rw [e] at h; exact fun c d H s q => h c d σ H s .refl q
  | no => rw [e] at h; exact h
/-- an exception that an expression lets out, as a statement's -/
theorem AfterS.ofEx {m : M α} {f : α → MS} {e : Ex} (h : AfterS Z K W F B io σ T En ((MS.of m f) ρ)) (he : m ρ = .ex e ρ') : AfterS Z K W F B io σ T En (.ex e ρ') := by
  unfold MS.of at h
  rw [he] at h
  exact h
end
section
variable {Z : GD} {Γ : Gam} {lvl : Nat} {c : Cmp} {W : WX} {X : Cx}
theorem ss_nil : SSs Z Γ lvl c [] .nil := fun X W o => PSs.weak pss_nil fun D σ H h => by
  obtain ⟨F, B, ρ, T, s, p⟩ := h
  exact p σ H s .refl
theorem ss_cons {st : Stmt} {rest : List Stmt} {cs : CS} {css : CSs} (h1 : SS Z Γ lvl c st cs) (h2 : SSs Z Γ lvl c rest css) : SSs Z Γ lvl c (st :: rest) (.cons cs css) := fun X W o => by
  refine PSs.weak (pss_cons (h1 X W o) (h2 X W o)) fun D σ H h => ?_
  obtain ⟨F, B, ρ, T, s, p⟩ := h
  refine ⟨F, B, ρ, T, s, ?_⟩
  have p : AfterS Z X.K W F B c.io σ T D ((denS (e0 Z lvl c) cs).seq (denSs (e0 Z lvl c) css) ρ) := p
  unfold MS.seq at p
  cases e : denS (e0 Z lvl c) cs ρ with
  | nx ρ1 =>
    rw [e] at p
    exact fun σ1 H1 s1 q1 => ⟨F, B, ρ1, T, s1, p.pin q1⟩
  | rt k d ρ1 => rw [e] at p; exact p
  | bk ρ1 => rw [e] at p; exact p
  | ct ρ1 => rw [e] at p; exact p
  | ex x ρ1 => rw [e] at p; exact p
  | no => rw [e] at p; exact p
theorem st_pass {pos : Pos} : SS Z Γ lvl c (.Pass pos) .pass := fun X W o => PS.weak ps_pass fun D σ H h => by
  obtain ⟨F, B, ρ, T, s, p⟩ := h
  exact p σ H s .refl
theorem st_break {pos : Pos} : SS Z Γ lvl c (.Break pos) .brk := fun X W o => PS.weak ps_break fun D σ H h => by
  obtain ⟨F, B, ρ, T, s, p⟩ := h
  exact p σ H s .refl
theorem st_cont {pos : Pos} : SS Z Γ lvl c (.Continue pos) .cont := fun X W o => PS.weak ps_continue fun D σ H h => by
  obtain ⟨F, B, ρ, T, s, p⟩ := h
  exact p σ H s .refl
theorem st_retN {pos : Pos} : SS Z Γ lvl c (.Return none pos) .retN := fun X W o => PS.weak ps_retN fun D σ H h => by
  obtain ⟨F, B, ρ, T, s, p⟩ := h
  exact p .non σ H (s.behind fun S r => r.scal fun G => .non) .refl
theorem st_ret {e : Expr} {ce : CE} {pos : Pos} (he : SE Z Γ lvl c e ce) : SS Z Γ lvl c (.Return (some e) pos) (.ret ce) := fun X W o => PS.weak (ps_ret (he X W o.toOk)) fun D σ H h => by
  obtain ⟨F, B, ρ, T, s, p⟩ := h
  have p := p.of
  refine step s p fun t1 ρ1 v1 H1 r1 s1 p => ?_
  obtain ⟨x, ρ2, e1, p⟩ := p.nx .item
  exact p v1 σ H1 (item_hold s1 r1 e1) .refl
theorem st_if {e : Expr} {a b : List Stmt} {ce : CB} {ca cb : CSs} {pos : Pos} (he : SB Z Γ lvl c e ce) (ha : SSs Z Γ lvl c a ca) (hb : SSs Z Γ lvl c b cb) : SS Z Γ lvl c (.If e a b pos) (.ite ce ca cb) := fun X W o => PS.weak (ps_if (he X W o.toOk) (ha X W o) (hb X W o)) fun D σ H h => by
  obtain ⟨F, B, ρ, T, s, p⟩ := h
  refine ⟨F, B, ρ, T, s, p.of.mono fun k ρ1 _ p H1 s1 => ?_⟩
  cases k with
  | true => exact if_yes ⟨F, B, ρ1, T, s1, p⟩
  | false => exact if_no ⟨F, B, ρ1, T, s1, p⟩
def notComp : Expr → Bool
  | .ListComp .. => false
  | .SetComp .. => false
  | .DictComp .. => false
  | _ => true
theorem swaps_no {e : Expr} {t : Option Expr} {l : Nat} {env : Env} (h : notComp e = true) : swapsWith e t l env = pure false := by
  cases e <;> first | rfl | cases h
theorem st_expr {e : Expr} {ce : CE} {pos : Pos} (hn : notComp e = true) (he : SE Z Γ lvl c e ce) : SS Z Γ lvl c (.Expr e pos) (.expr ce) := fun X W o => PS.weak (ps_expr (he X W o.toOk) (swaps_no hn)) fun D σ H h => by
  obtain ⟨F, B, ρ, T, s, p⟩ := h
  refine ⟨F, B, ρ, T, s, p.of.mono fun t1 ρ1 _ p v1 H1 r1 s1 => ?_⟩
  refine p σ H1 ?_ .refl
  cases t1 with
  | pv k d => exact s1.behind fun S r => r.drop
  | var i => exact s1
theorem st_doc {x : Str} {j p1 p2} : SS Z Γ lvl c (.Expr (.Constant (.str x) j p1) p2) .pass := fun X W o => PS.weak ps_doc fun D σ H h => by
  obtain ⟨F, B, ρ, T, s, p⟩ := h
  exact p σ H s .refl
theorem setSlot_nx {io : List Nat} {i k : Nat} {d : PV.D} {ρ : SEnv} : ∀ e ρ', setSlot io i k d ρ ≠ .ex e ρ' := fun e ρ' h => by
  unfold setSlot at h
  split at h <;> cases h
theorem setSlot_pin {io : List Nat} {i k : Nat} {d : PV.D} {ρ ρ' : SEnv} {σ : L2.St} {v : V} (h : setSlot io i k d ρ = .ok () ρ') : Pin io σ (σ.set i (some v)) := fun j hj => by
  obtain ⟨e1, _, _⟩ := setSlot_ok h
  exact List.getElem?_set_ne (by intro z; subst z; exact e1 hj)
theorem StR.setSlot {K : Frag} {F B H : Hp} {io : List Nat} {i k : Nat} {d : PV.D} {ρ ρ' : SEnv} {σ : L2.St} {v : V} {T : List Root} (s : StR K F B H σ ρ ((v, k, d) :: T)) (h : PV.setSlot io i k d ρ = .ok () ρ') : StR K F B H (σ.set i (some v)) ρ' T := by
  obtain ⟨e1, e2, rfl⟩ := setSlot_ok h
  cases hc : isC d with
  | true => rw [if_pos rfl]; exact s.store e2
  | false => rw [if_neg Bool.false_ne_true]; exact StR.store e2 (s.behind fun S r => r.freeze)
/-- name = value -/
theorem set_rd {i : Nat} {ce : CE} {W : WX} {K : Frag} {D : Ends} {σ : L2.St} {H : Hp} (h : rdS Z K W c.io (denS (e0 Z lvl c) (.asg (.name i) ce)) D σ H) : tAsg (rdE Z K W (denE (e0 Z lvl c) ce)) (gName i) D σ H := by
  obtain ⟨F, B, ρ, T, s, p⟩ := h
  refine ⟨F, B, ρ, T, s, p.of.mono fun t1 ρ1 _ p v1 H1 r1 s1 => ?_⟩
  have p := AfterS.of (m := (item c.io t1).bind fun x => setSlot c.io i x.1 x.2) p
  obtain ⟨x, ρ2, e1, p⟩ := p.bind.nx .item
  have s2 := item_hold s1 r1 e1
  obtain ⟨_, ρ3, e2, p⟩ := p.ok setSlot_nx
  exact p _ H1 (s2.setSlot e2) (setSlot_pin e2)
theorem st_set {x : Str} {i : Nat} {e : Expr} {ce : CE} {p1 pos : Pos} (hn : notComp e = true) (h1 : ixOf c.N x = some i) (h2 : x ∈ c.loc) (he : SE Z Γ lvl c e ce) : SS Z Γ lvl c (.Assign [.Name x p1] e pos) (.asg (.name i) ce) := fun X W o => by
  obtain ⟨l1, l2⟩ := o.loc x h2
  exact PS.weak (ps_set (by rw [o.N]; exact o.nd) (by rw [o.N]; exact ixOf_get h1) l1 (he X W o.toOk) (swaps_no hn) l2) fun D σ H h => set_rd h
/-- a comprehension stored in a name -/
def swapB (sc : Scope) (scope : Scope) (x : Str) (p1 p2 : Pos) : Bool := decide (sc.names.lookup x = some .local) && (p1.line == p2.line) && !(scope.names.any fun (n, k) => n == x && (k == .local || k == .cell))
theorem swaps_lc {env : Env} {elt : Expr} {gens : List Comprehension} {scope : Scope} {pos p1 : Pos} {x : Str} {l : Nat} (hk : env.scope.kind = .function) : swapsWith (.ListComp elt gens scope pos) (some (.Name x p1)) l env = pure (swapB env.scope scope x p1 pos) := by
  unfold swapsWith swapB
  have e1 : (env.blockKind == .function) = true := by unfold Env.blockKind; rw [hk]; rfl
  have e2 : (env.kindOf x == some .local) = decide (env.scope.names.lookup x = some .local) := by
    unfold Env.kindOf
    cases env.scope.names.lookup x with
    | none => rfl
    | some k => cases k <;> rfl
  show pure (env.blockKind == .function && env.kindOf x == some .local && _ && _) = _
  rw [e1, e2, Bool.true_and]
  rfl
end
end PV

/-! PV4b: stores. -/
namespace PV
open PySem PySem.Spec L2
section
variable {Z : GD} {Γ : Gam} {lvl : Nat} {c : Cmp} {W : WX} {X : Cx}
theorem st_setLc {x : Str} {i : Nat} {p1 spos : Pos} {elt tg iter : Expr} {ifs : List Expr} {scope : Scope} {own : List (Str × Nat)} {pos : Pos} {t : CT} {it : CI} {cc : CC} {ce : CE} (hsw : swapB c.sc scope x p1 pos = true) (h1 : ixOf c.N x = some i) (hl : c.sc.names.lookup x = some .local)
    (h : compC c scope own = true) (hp : plainIt iter = true) (ht : (slotsOf t).all (fun i => decide (i ∈ own.map (·.2))) = true)
    (hi : SI Z Γ lvl c tg iter it) (hg : SG Z Γ lvl (blkCmp c scope own) tg t) (hc : SC Z Γ lvl (blkCmp c scope own) ifs cc) (he : SE Z Γ lvl (blkCmp c scope own) elt ce) :
    SS Z Γ lvl c (.Assign [.Name x p1] (.ListComp elt [⟨tg, iter, ifs, 0⟩] scope pos) spos) (.asg (.name i) (.comp (own.map (·.2)) t it cc (.done ce))) := fun X W o => by
  have h1' := Bool.and_eq_true_iff.mp h
  have h2 := Bool.and_eq_true_iff.mp h1'.1
  have bk : BlkOk X.N X.env.scope scope own := by rw [o.N, o.sc]; exact blkOk_by h2.1
  have sw : swapsWith (.ListComp elt [⟨tg, iter, ifs, 0⟩] scope pos) (some (.Name x p1)) spos.line X.env = pure true := by rw [swaps_lc o.kind, o.sc, hsw]
  refine PS.weak (ps_setLc (g := rdG X.K (e0 Z lvl c) t) (tt := rdT Z X.K (fun _ _ _ _ => False) (denC (e0 Z lvl c) cc)) (te := rdE Z X.K (fun _ _ _ _ => False) (denE (e0 Z lvl c) ce)) o.calm (by rw [o.N]; exact o.nd) (by rw [o.N]; exact ixOf_get h1) (by rw [o.sc]; exact hl) sw
    (hi X W o.toOk) bk (fun s H C cl fp => hg _ _ (o.toOk.blk h s H C cl fp)) (fun s H C cl fp => hc _ _ (o.toOk.blk h s H C cl fp)) (fun s H C cl fp => he _ _ (o.toOk.blk h s H C cl fp)) (plainIt_of hp)) fun D σ H z => ?_
  exact comp_rd (of_decide_eq_true h1'.2) (fun i hi => of_decide_eq_true (List.all_eq_true.mp ht i hi)) (set_rd z)
/-- a comprehension stored where no line is one with it -/
theorem st_setLn {x : Str} {i : Nat} {p1 spos : Pos} {elt : Expr} {gens : List Comprehension} {scope : Scope} {pos : Pos} {ce : CE} (hsw : swapB c.sc scope x p1 pos = false) (h1 : ixOf c.N x = some i) (h2 : x ∈ c.loc) (he : SE Z Γ lvl c (.ListComp elt gens scope pos) ce) :
    SS Z Γ lvl c (.Assign [.Name x p1] (.ListComp elt gens scope pos) spos) (.asg (.name i) ce) := fun X W o => by
  obtain ⟨l1, l2⟩ := o.loc x h2
  have sw : swapsWith (.ListComp elt gens scope pos) (some (.Name x p1)) spos.line X.env = pure false := by rw [swaps_lc o.kind, o.sc, hsw]
  exact PS.weak (ps_set (by rw [o.N]; exact o.nd) (by rw [o.N]; exact ixOf_get h1) l1 (he X W o.toOk) sw l2) fun D σ H h => set_rd h
/-! ### many at once -/
def setV : L2.St → List Nat → List V → L2.St
  | σ, i :: is, v :: vs => setV (σ.set i (some v)) is vs
  | σ, _, _ => σ
theorem setSlots_nx {io : List Nat} : ∀ {is : List Nat} {xs : List (Nat × PV.D)}, NX (setSlots io is xs)
  | [], [] => .pure
  | i :: is, x :: xs => .bind (fun _ => setSlot_nx) fun _ => setSlots_nx
  | [], _ :: _ => .no
  | _ :: _, [] => .no
theorem setSlots_len {io : List Nat} : ∀ {is : List Nat} {xs : List (Nat × PV.D)} {ρ ρ' : SEnv}, setSlots io is xs ρ = .ok () ρ' → is.length = xs.length
  | [], [], _, _, _ => rfl
  | i :: is, x :: xs, _, _, h => by
    obtain ⟨_, ρ1, h1, h2⟩ := M.bind_ok h
    exact congrArg (· + 1) (setSlots_len h2)
  | [], _ :: _, _, _, h => by cases h
  | _ :: _, [], _, _, h => by cases h
theorem setSlots_ok {K : Frag} {F B H : Hp} {io : List Nat} : ∀ {is : List Nat} {xs : List (Nat × PV.D)} {vs : List V} {σ : L2.St} {ρ ρ' : SEnv} {T : List Root}, vs.length = xs.length → StR K F B H σ ρ (rootsOf vs xs ++ T) → setSlots io is xs ρ = .ok () ρ' →
    StR K F B H (setV σ is vs) ρ' T ∧ Pin io σ (setV σ is vs)
  | [], [], [], σ, ρ, ρ', T, _, s, h => by cases h; exact ⟨s, .refl⟩
  | i :: is, x :: xs, v :: vs, σ, ρ, ρ', T, hl, s, h => by
    obtain ⟨_, ρ1, h1, h2⟩ := M.bind_ok h
    have s1 : StR K F B H σ ρ ((v, x.1, x.2) :: (rootsOf vs xs ++ T)) := s
    obtain ⟨a, b⟩ := setSlots_ok (Nat.succ.inj hl) (s1.setSlot h1) h2
    exact ⟨a, (setSlot_pin h1).trans b⟩
  | [], _ :: _, _, _, _, _, _, _, _, h => by cases h
  | _ :: _, [], _, _, _, _, _, _, _, h => by cases h
  | _, _ :: _, [], _, _, _, _, hl, _, _ => by cases hl
  | [], [], _ :: _, _, _, _, _, hl, _, _ => by cases hl
theorem par_rd {is : List Nat} {es : CEs} {K : Frag} {D : Ends} {σ : L2.St} {H : Hp} (h : rdS Z K W c.io (denS (e0 Z lvl c) (.par is es)) D σ H) : rdA Z K W (denA (e0 Z lvl c) es) σ H fun vs H1 => is.length = vs.length ∧ D.nx (setV σ is vs) H1 := by
  obtain ⟨F, B, ρ, T, s, p⟩ := h
  have p := p.of
  refine stepA s p fun ts ρ1 vs H1 rs s1 p => ?_
  obtain ⟨xs, ρ2, e, p⟩ := p.bind.nx .items
  obtain ⟨s2, hl⟩ := items_ok s1 rs e
  obtain ⟨_, ρ3, e2, p⟩ := p.nx setSlots_nx
  obtain ⟨s3, pn⟩ := setSlots_ok hl s2 e2
  exact ⟨(setSlots_len e2).trans hl.symm, p _ H1 s3 pn⟩
/-- the names that change places -/
def pickN (sc : Scope) (line : Nat) : Expr → Option Str
  | .Name id pos => if (sc.names.lookup id == some NameKind.local && pos.line == line) = true then some id else none
  | _ => none
def lineOf (ts : List Expr) : Nat := (ts.head?.map (·.pos.line)).getD 0
def tgNames (sc : Scope) (ts : List Expr) : List Str := ts.filterMap (pickN sc (lineOf ts))
def swE (sc : Scope) (ts vs : List Expr) : Option (Option (List Str)) :=
  if (!(ts.length == 2 || ts.length == 3) || vs.length != ts.length) = true then some none
  else if (vs.any fun e => !notStar e) = true then some none
  else if ((tgNames sc ts).length != ts.length || (tgNames sc ts).eraseDups.length != (tgNames sc ts).length) = true then some none
  else if vs.all (foldedForSure 8) = true then some none
  else if vs.all (constantsAlone 8) = true then none
  else some (some (tgNames sc ts))
theorem fm_eq {α β : Type} {f g : α → Option β} {l : List α} (h : ∀ x, f x = g x) : l.filterMap f = l.filterMap g := by rw [funext h]
theorem any_eq {α : Type} {f g : α → Bool} {l : List α} (h : ∀ x, f x = g x) : l.any f = l.any g := by rw [funext h]
theorem sw_eq {env : Env} {ts vs : List Expr} {k k2 : Nat} {p p2 : Pos} {r : Option (List Str)} (hk : env.scope.kind = .function) (h : swE env.scope ts vs = some r) : swappedStores [.Tuple ts k p] (.Tuple vs k2 p2) env = pure r := by
  have e1 : (env.blockKind != .function) = false := by unfold Env.blockKind; rw [hk]; rfl
  unfold swE at h
  unfold swappedStores
  simp only [e1, Bool.or_false]
  rw [any_eq (l := vs) (g := fun e => !notStar e) (by intro x; cases x <;> rfl), fm_eq (l := ts) (g := pickN env.scope (lineOf ts)) (by intro x; cases x <;> rfl)]
  rw [show ts.filterMap (pickN env.scope (lineOf ts)) = tgNames env.scope ts from rfl]
  split at h
  · rename_i c1; cases h; rw [if_pos c1]
  · rename_i c1
    rw [if_neg c1]
    split at h
    · rename_i c2; cases h; rw [if_pos c2]
    · rename_i c2
      rw [if_neg c2]
      split at h
      · rename_i c3; cases h; rw [if_pos c3]
      · rename_i c3
        rw [if_neg c3]
        split at h
        · rename_i c4; cases h; rw [if_pos c4]
        · rename_i c4
          rw [if_neg c4]
          split at h
          · cases h
          · rename_i c5; cases h; rw [if_neg c5]
mutual
theorem bindN_NX {E : PV.Env0} : ∀ (t : CT) (d : PV.D), NX (bindN E t d)
  | .name i, d => fun _ => setSlot_nx
  | .tup ts, d => by unfold bindN; exact .bind .opt fun xs => bindNs_NX ts xs
  | .sub _ _, d => .no
  | .sub2 _ _ _, d => .no
theorem bindNs_NX {E : PV.Env0} : ∀ (t : CTs) (d : List PV.D), NX (bindNs E t d)
  | .nil, [] => .pure
  | .cons t ts, d :: ds => by unfold bindNs; exact .bind (bindN_NX t d) fun _ => bindNs_NX ts ds
  | .nil, _ :: _ => .no
  | .cons _ _, [] => .no
end
theorem list2 {α : Type} {vs : List α} (h : 2 = vs.length) : ∃ v w, vs = [v, w] := by
  match vs, h with
  | [v, w], _ => exact ⟨v, w, rfl⟩
theorem list3 {α : Type} {vs : List α} (h : 3 = vs.length) : ∃ u v w, vs = [u, v, w] := by
  match vs, h with
  | [u, v, w], _ => exact ⟨u, v, w, rfl⟩
theorem st_par2 {x y : Str} {i j : Nat} {a b : Expr} {es : CEs} {px py pt pt2 pos : Pos} {kt k2 : Nat} (hsw : swE c.sc [.Name x px, .Name y py] [a, b] = some (some [x, y])) (h1 : ixOf c.N x = some i) (h2 : ixOf c.N y = some j) (hij : i ≠ j) (hx : c.sc.names.lookup x = some .local) (hy : c.sc.names.lookup y = some .local)
    (hs : SA Z Γ lvl c [a, b] es) : SS Z Γ lvl c (.Assign [.Tuple [.Name x px, .Name y py] kt pt] (.Tuple [a, b] k2 pt2) pos) (.par [i, j] es) := fun X W o => by
  refine PS.weak (ps_par o.calm (by rw [o.N]; exact o.nd) (by rw [o.N]; exact ixOf_get h1) (by rw [o.N]; exact ixOf_get h2) hij (by rw [o.sc]; exact hx) (by rw [o.sc]; exact hy) (hs X W o.toOk) (sw_eq o.kind (by rw [o.sc]; exact hsw))) fun D σ H h => ?_
  obtain ⟨F, B, ρ, T, s, p⟩ := par_rd h
  refine ⟨F, B, ρ, T, s, p.mono fun ts ρ' _ q vs H' a b => ?_⟩
  obtain ⟨hl, q⟩ := q vs H' a b
  obtain ⟨v, w, rfl⟩ := list2 hl
  exact ⟨v, w, rfl, q⟩
theorem st_par3 {x y z : Str} {i j l : Nat} {a b d : Expr} {es : CEs} {px py pz pt pt2 pos : Pos} {kt k2 : Nat} (hsw : swE c.sc [.Name x px, .Name y py, .Name z pz] [a, b, d] = some (some [x, y, z])) (h1 : ixOf c.N x = some i) (h2 : ixOf c.N y = some j) (h3 : ixOf c.N z = some l) (hij : i ≠ j) (hil : i ≠ l) (hjl : j ≠ l)
    (hx : c.sc.names.lookup x = some .local) (hy : c.sc.names.lookup y = some .local) (hz : c.sc.names.lookup z = some .local)
    (hs : SA Z Γ lvl c [a, b, d] es) : SS Z Γ lvl c (.Assign [.Tuple [.Name x px, .Name y py, .Name z pz] kt pt] (.Tuple [a, b, d] k2 pt2) pos) (.par [i, j, l] es) := fun X W o => by
  refine PS.weak (ps_par3 o.calm (by rw [o.N]; exact o.nd) (by rw [o.N]; exact ixOf_get h1) (by rw [o.N]; exact ixOf_get h2) (by rw [o.N]; exact ixOf_get h3) hij hil hjl (by rw [o.sc]; exact hx) (by rw [o.sc]; exact hy) (by rw [o.sc]; exact hz) (hs X W o.toOk) (sw_eq o.kind (by rw [o.sc]; exact hsw))) fun D σ H h => ?_
  obtain ⟨F, B, ρ, T, s, p⟩ := par_rd h
  refine ⟨F, B, ρ, T, s, p.mono fun ts ρ' _ q vs H' a b => ?_⟩
  obtain ⟨hl, q⟩ := q vs H' a b
  obtain ⟨u, v, w, rfl⟩ := list3 hl
  exact ⟨u, v, w, rfl, q⟩
/-- names in a row -/
def nameTgs (c : Cmp) : List Expr → Option (List Nat)
  | [] => some []
  | .Name x _ :: r => if decide (x ∈ c.loc) = true then (match ixOf c.N x, nameTgs c r with
    | some i, some is => some (i :: is)
    | _, _ => none) else none
  | _ => none
def gNames (is : List Nat) : TGs := fun vs σ H Q => is.length = vs.length ∧ Q (setV σ is vs) H
theorem gs_names {X : Cx} {W : WX} (o : Ok Z Γ lvl c W X) : ∀ {ts : List Expr} {is : List Nat}, nameTgs c ts = some is → PGs X ts (gNames is) ∧ ts.all notStar = true ∧ ts.length = is.length
  | [], is, h => by
    cases h
    refine ⟨PGs.weak pgs_nil fun vs σ H Q q => ?_, rfl, rfl⟩
    obtain ⟨q1, q⟩ := q
    cases vs with
    | nil => exact ⟨rfl, q⟩
    | cons v vs => cases q1
  | t :: r, is, h => by
    cases t <;> first | cases h; done | skip
    rename_i x pos
    unfold nameTgs at h
    by_cases hc : decide (x ∈ c.loc) = true
    · rw [if_pos hc] at h
      cases e1 : ixOf c.N x with
      | none => rw [e1] at h; cases h
      | some i =>
        cases e2 : nameTgs c r with
        | none => rw [e1, e2] at h; cases h
        | some js =>
          rw [e1, e2] at h
          cases h
          obtain ⟨a, b, d⟩ := gs_names o e2
          obtain ⟨l1, l2⟩ := o.loc x (of_decide_eq_true hc)
          refine ⟨PGs.weak (pgs_cons (pg_name (by rw [o.N]; exact o.nd) (by rw [o.N]; exact ixOf_get e1) l1 l2) a) fun vs σ H Q q => ?_, by rw [List.all_cons, b]; rfl, congrArg (· + 1) d⟩
          obtain ⟨q1, q⟩ := q
          cases vs with
          | nil => cases q1
          | cons v vs => exact ⟨v, vs, rfl, Nat.succ.inj q1, q⟩
    · rw [if_neg hc] at h; cases h
theorem st_parN {ts vs : List Expr} {is : List Nat} {es : CEs} {pt pt2 pos : Pos} {kt k2 : Nat} (hsw : swE c.sc ts vs = some none) (h1 : nameTgs c ts = some is) (hz : sizeOk is.length = true) (hs : SA Z Γ lvl c vs es) :
    SS Z Γ lvl c (.Assign [.Tuple ts kt pt] (.Tuple vs k2 pt2) pos) (.par is es) := fun X W o => by
  obtain ⟨g, ns, hl⟩ := gs_names o.toOk h1
  obtain ⟨a, b⟩ := tgtLen (env := X.env) ns
  refine PS.weak (ps_asg (pe_tup (hs X W o.toOk)) (pg_tup o.calm g a b) rfl (sw_eq o.kind (by rw [o.sc]; exact hsw))) fun D σ H h => ?_
  obtain ⟨F, B, ρ, T, s, p⟩ := par_rd h
  refine ⟨F, B, ρ, T, s, p.mono fun ts' ρ' _ q vs' H' a b => ?_⟩
  obtain ⟨hl', _⟩ := q vs' H' a b
  refine ⟨by rw [← hl']; exact of_decide_eq_true hz, fun p hp => ?_⟩
  obtain ⟨_, q⟩ := q vs' _ a (b.newDead (u := .tup vs') hp)
  exact ⟨p, vs', rfl, .inl (.inl upd_same), by rw [hl, hl'], hl', q⟩
theorem st_asgT {ts : List Expr} {cts : CTs} {e : Expr} {ce : CE} {pt pos : Pos} {kt : Nat} (hn : (match e with | .Tuple .. => false | _ => true) = true) (hc : notComp e = true ∨ True) (ht : SG Z Γ lvl c (.Tuple ts kt pt) (.tup cts)) (he : SE Z Γ lvl c e ce) : SS Z Γ lvl c (.Assign [.Tuple ts kt pt] e pos) (.asg (.tup cts) ce) := fun X W o => by
  have h1 : swapsWithSole [.Tuple ts kt pt] e pos.line X.env = pure false := by cases e <;> rfl
  have h2 : swappedStores [.Tuple ts kt pt] e X.env = pure none := by cases e <;> first | rfl | cases hn
  refine PS.weak (ps_asg (he X W o.toOk) (ht X W o.toOk) h1 h2) fun D σ H h => ?_
  obtain ⟨F, B, ρ, T, s, p⟩ := h
  refine ⟨F, B, ρ, T, s, p.of.mono fun t1 ρ1 _ p v1 H1 r1 s1 => ?_⟩
  have p := AfterS.of (m := (frz c.io t1).bind fun d => bindN (e0 Z lvl c) (.tup cts) d) p
  obtain ⟨d, ρ2, e1, p⟩ := p.bind.nx .frz
  have s2 := frz_hold s1 r1 e1
  obtain ⟨_, ρ3, e2, p⟩ := p.ok (bindN_nx (.tup cts) d ρ2)
  exact ⟨F, B, ρ2, T, d, ρ3, s2, e2, fun σ' H' s' ch pn => p σ' H' s' pn⟩
where bindN_nx : ∀ (t : CT) (d : PV.D) (ρ : SEnv) (e : Ex) (ρ' : SEnv), bindN (e0 Z lvl c) t d ρ ≠ .ex e ρ' := fun t d => (bindN_NX t d)
end
end PV

/-! PV4c: items stored, loops, errors raised. -/
namespace PV
open PySem PySem.Spec L2
section
variable {K : Frag} {F B H H' G : Hp} {T R : List Root} {v : V} {k : Nat} {d : D} {σ : L2.St} {ρ ρ' : SEnv}
theorem OwnAll.length {K : Frag} {H G : Hp} : ∀ {k : Nat} {vs : List V} {ds : List D} {f : List Addr}, OwnAll K H G k vs ds f → vs.length = ds.length
  | _, _, _, _, .nil => rfl
  | _, _, _, _, .cons _ t => congrArg (· + 1) (OwnAll.length t)
/-- an item that stands still, in the place of another -/
theorem OwnAll.set {K : Frag} {H G : Hp} {k : Nat} {v : V} {d : D} (hv : ∀ f, f = [] → Own K H G k v d f) : ∀ {vs : List V} {ds : List D} {f : List Addr} (i : Nat), OwnAll K H G k vs ds f → ∃ f', OwnAll K H G k (vs.set i v) (ds.set i d) f' ∧ f'.Sublist f
  | _, _, _, _, .nil => ⟨[], .nil, .refl _⟩
  | _, _, _, 0, .cons (f1 := f1) (f2 := f2) r t => ⟨[] ++ f2, .cons (hv [] rfl) t, by rw [List.nil_append]; exact List.sublist_append_right ..⟩
  | _, _, _, i + 1, .cons (f1 := f1) (f2 := f2) r t => by
    obtain ⟨f', h1, h2⟩ := OwnAll.set hv i t
    exact ⟨f1 ++ f', .cons r h1, h2.append_left f1⟩
theorem Roots.put {a : Addr} {ds : List D} {j : Nat} (r : Roots K F B H ((v, 0, d) :: (.ref a, k + 1, .list ds) :: R)) (hd : isC d = false ∨ k = 0) : ∃ xs, H a = some (.lst xs) ∧ xs.length = ds.length ∧
    Roots K F B (upd H a (.lst (xs.set j v))) ((.ref a, k + 1, .list (ds.set j d)) :: R) := by
  obtain ⟨G, fp, fg, gh, bh, nd, out, bg, own⟩ := r
  cases own with
  | cons o t =>
    obtain ⟨ez, rv⟩ := o.zero
    subst ez
    cases t with
    | cons o2 t =>
      cases o2 with
      | flat r c => cases c
      | lst q oa =>
        rename_i f1 xs f2
        have nd : (a :: (f2 ++ f1)).Nodup := nd
        have na : ∀ b, b ∈ f2 ∨ b ∈ f1 → b ≠ a := fun b hb z => by
          subst z
          exact (List.nodup_cons.mp nd).1 (List.mem_append.mpr hb)
        have hv : ∀ f, f = [] → Own K H G k v d f := fun f hf => by
          subst hf
          cases k with
          | zero => exact .frz rv
          | succ k =>
            rcases hd with hd | hd
            · exact .flat rv hd
            · cases hd
        obtain ⟨f3, oa', sub⟩ := oa.set hv j
        have oa2 : OwnAll K (upd H a (.lst (xs.set j v))) G k (xs.set j v) (ds.set j d) f3 := oa'.mono (.refl _) fun b hb => upd_ne (na b (.inl (sub.subset hb)))
        refine ⟨xs, q, oa.length, G, (a :: f3) ++ f1, fg, fun b o e => ?_, fun b o e => ?_, ?_, fun b hb => ?_, bg, .cons (.lst upd_same oa2) (t.mono (.refl _) fun b hb => upd_ne (na b (.inr hb)))⟩
        · rw [upd_ne (by rintro rfl; have := (out b List.mem_cons_self).1; rw [e] at this; cases this)]; exact gh b o e
        · rw [upd_ne (by rintro rfl; have := (out b List.mem_cons_self).2; rw [e] at this; cases this)]; exact bh b o e
        · exact nd.sublist ((sub.append_right f1).cons₂ a)
        · exact out b (((sub.append_right f1).cons₂ a).subset hb)
theorem isL_nx {i : Nat} : NX (isL i) := fun ρ e ρ' h => by
  unfold isL at h
  split at h <;> cases h
theorem isL_get {i : Nat} {ρ ρ' : SEnv} (h : isL i ρ = .ok () ρ') : ρ' = ρ ∧ ∃ k xs, ρ[i]? = some (some (k + 1, .list xs)) := by
  unfold isL at h
  split at h
  · rename_i k xs e; cases h; exact ⟨rfl, k, xs, e⟩
  · cases h
theorem isL_ok {i : Nat} (s : StR K F B H σ ρ T) (h : isL i ρ = .ok () ρ') : ρ' = ρ ∧ ∃ v, σ[i]? = some (some v) := by
  obtain ⟨a, k, xs, e⟩ := isL_get h
  exact ⟨a, s.fit.get e⟩
theorem isL_list {i : Nat} (s : StR K F B H σ ρ T) (h : isL i ρ = .ok () ρ') (hv : σ[i]? = some (some v)) : ∃ a xs, v = .ref a ∧ SqL K H a xs := by
  obtain ⟨_, k, xs, e⟩ := isL_get h
  have z := s.full (k := k + 1) (v := v) (d := .list xs) (List.mem_append_left _ (slot_mem hv e))
  cases z with | lst q r => exact ⟨_, _, rfl, q.sq⟩
theorem putL_nx {i : Nat} {z d : D} {ρ : SEnv} : ∀ e ρ', putL i z d ρ ≠ .ex e ρ' := fun e ρ' h => by
  unfold putL at h
  split at h
  · split at h
    · split at h <;> cases h
    · cases h
  · cases h
theorem putL_ok {i : Nat} {z d : D} {ρ ρ' : SEnv} (h : putL i z d ρ = .ok () ρ') : ∃ k xs j p, ρ[i]? = some (some (k + 1, .list xs)) ∧ z = .int j ∧ ixN xs.length j = some p ∧ (isC d = false ∨ k = 0) ∧ ρ' = ρ.set i (some (k + 1, .list (xs.set p d))) := by
  unfold putL at h
  split at h
  · rename_i k xs j e
    split at h
    · rename_i p ep
      split at h
      · cases h
      · rename_i hc
        cases h
        refine ⟨k, xs, j, p, e, rfl, ep, ?_, rfl⟩
        cases hd : isC d with
        | false => exact .inl rfl
        | true =>
          right
          rw [hd] at hc
          simpa using hc
    · cases h
  · cases h
theorem StR.putL {i : Nat} {z : D} {v0 : V} (s : StR K F B H σ ρ ((v, 0, d) :: T)) (h1 : σ[i]? = some (some v0)) (h : PV.putL i z d ρ = .ok () ρ') :
    ∃ a xs j p, v0 = .ref a ∧ z = .int j ∧ H a = some (.lst xs) ∧ ixN xs.length j = some p ∧ StR K F B (upd H a (.lst (xs.set p v))) σ ρ' T := by
  obtain ⟨k, ds, j, p, e1, rfl, e2, hd, rfl⟩ := putL_ok h
  have s1 := s.takeSlot h1 e1
  have s2 := s1.own
  -- it is a list
  obtain ⟨a, rfl⟩ : ∃ a, v0 = .ref a := by
    have z := s1.full (k := k + 1) (v := v0) (d := .list ds) (List.mem_append_right _ List.mem_cons_self)
    cases z with | lst q r => exact ⟨_, rfl⟩
  have r1 : Roots K F B H ((v, 0, d) :: (.ref a, k + 1, .list ds) :: (slotsT σ (ρ.set i none) ++ T)) := s2.perm (by
    refine (List.perm_middle).trans ?_
    refine (List.Perm.cons _ List.perm_middle).trans (.swap _ _ _))
  obtain ⟨xs, hx, hl, r2⟩ := r1.put (j := p) hd
  refine ⟨a, xs, j, p, rfl, rfl, hx, by rw [hl]; exact e2, ?_⟩
  have hi : i < ρ.length := (List.getElem?_eq_some_iff.mp e1).1
  have s3 : StR K F B (upd H a (.lst (xs.set p v))) σ (ρ.set i none) ((.ref a, k + 1, .list (ds.set p d)) :: T) := ⟨s1.fit, r2.perm List.perm_middle.symm⟩
  have s4 := StR.fillSlot h1 (by rw [List.length_set]; exact hi) s3
  rw [List.set_set] at s4
  exact s4
end
section
variable {Z : GD} {Γ : Gam} {lvl : Nat} {c : Cmp} {W : WX} {X : Cx}
theorem st_sub {x : Str} {i : Nat} {e1 e : Expr} {ce1 ce : CE} {p0 p1 pos : Pos} (hn : notComp e = true) (hp : (match e1 with | .Slice .. => false | _ => true) = true) (h1 : ixOf c.N x = some i) (h2 : vis c.sc x = true) (h3 : nameOk x = true)
    (he1 : SE Z Γ lvl c e1 ce1) (he : SE Z Γ lvl c e ce) : SS Z Γ lvl c (.Assign [.Subscript (.Name x p0) e1 p1] e pos) (.asg (.sub i ce1) ce) := fun X W o => by
  have n := nameOk_of h3
  have sw : swapsWithSole [.Subscript (.Name x p0) e1 p1] e pos.line X.env = pure false := by
    show swapsWith e (some (.Subscript (.Name x p0) e1 p1)) pos.line X.env = _
    exact swaps_no hn
  have sh : swappedStores [.Subscript (.Name x p0) e1 p1] e X.env = pure none := rfl
  refine PS.weak (ps_asg (he X W o.toOk) (pg_sub (pe_var (by rw [o.N]; exact ixOf_get h1) (by rw [o.sc]; exact vis_of h2) n.1 n.2.1) (he1 X W o.toOk) set_list (by intro v; cases e1 <;> first | rfl | cases hp)) sw sh) fun D σ H h => ?_
  obtain ⟨F, B, ρ, T, s, p⟩ := h
  refine ⟨F, B, ρ, T, s, p.of.mono fun t1 ρ1 _ p v1 H1 r1 s1 => ?_⟩
  have p := AfterS.of (m := (frz c.io t1).bind fun d => (isL i).bind fun _ => (denE (e0 Z lvl c) ce1).bind fun s => (bor s).bind fun z => putL i z d) p
  obtain ⟨d, ρ2, ee, p⟩ := p.bind.nx .frz
  have s2 := frz_hold s1 r1 ee
  obtain ⟨_, ρ3, ee, pp⟩ := p.bind.nx isL_nx
  obtain ⟨rfl, v0, hv⟩ := isL_ok s2 ee
  refine ⟨v0, hv, F, B, ρ3, _, s2, (pp.bind.push (t := .pv 0 d) (v := v1)).mono fun t2 ρ4 _ p v2 H2 r2 s3 => ?_⟩
  obtain ⟨z, ρ5, e5, p⟩ := p.bind.nx .bor
  obtain ⟨s4, b4⟩ := bor_peek s3 r2 e5
  obtain ⟨_, ρ6, e6, pp⟩ := p.ok putL_nx
  have s5 : StR X.K F B H2 σ ρ5 ((v1, 0, d) :: T) := by
    cases t2 with
    | pv k' d' => exact s4.behind fun S r => r.drop
    | var i => exact s4
  obtain ⟨a, xs, j, q, rfl, rfl, hx, hq, s6⟩ := s5.putL hv e6
  cases b4
  exact ⟨a, xs, j, q, rfl, rfl, hx, hq, pp σ _ s6 .refl⟩
/-! ### append -/
theorem appL_nx {i : Nat} {x : Nat × PV.D} {ρ : SEnv} : ∀ e ρ', appL i x ρ ≠ .ex e ρ' := fun e ρ' h => by
  unfold appL at h
  split at h
  · split at h <;> cases h
  · cases h
theorem appL_ok {i : Nat} {x : Nat × PV.D} {ρ ρ' : SEnv} (h : appL i x ρ = .ok () ρ') : ∃ k xs, ρ[i]? = some (some (k + 1, .list xs)) ∧ sizeOk (xs.length + 1) = true ∧ ρ' = ρ.set i (some (min (k + 1) (x.1 + 1), .list (xs ++ [x.2]))) := by
  unfold appL at h
  split at h
  · rename_i k xs e
    split at h
    · rename_i hz
      cases h
      exact ⟨k, xs, e, hz, rfl⟩
    · cases h
  · cases h
theorem StR.appL {K : Frag} {F B H : Hp} {σ : L2.St} {ρ ρ' : SEnv} {T : List Root} {i : Nat} {x : Nat × PV.D} {v v0 : V} (s : StR K F B H σ ρ ((v, x.1, x.2) :: T)) (h1 : σ[i]? = some (some v0)) (h : PV.appL i x ρ = .ok () ρ') :
    ∃ a xs, v0 = .ref a ∧ H a = some (.lst xs) ∧ xs.length < sizeLine ∧ StR K F B (upd H a (.lst (xs ++ [v]))) σ ρ' T := by
  obtain ⟨k, ds, e1, hz, rfl⟩ := appL_ok h
  have s1 := s.takeSlot h1 e1
  have s2 := s1.own
  obtain ⟨a, rfl⟩ : ∃ a, v0 = .ref a := by
    have z := s1.full (k := k + 1) (v := v0) (d := .list ds) (List.mem_append_right _ List.mem_cons_self)
    cases z with | lst q r => exact ⟨_, rfl⟩
  have r1 : Roots K F B H ((v, x.1, x.2) :: (.ref a, k + 1, .list ds) :: (slotsT σ (ρ.set i none) ++ T)) := s2.perm (by
    refine (List.perm_middle).trans ?_
    refine (List.Perm.cons _ List.perm_middle).trans (.swap _ _ _))
  obtain ⟨xs, hx, hl, r2⟩ := r1.app
  refine ⟨a, xs, rfl, hx, by rw [hl]; exact of_decide_eq_true hz, ?_⟩
  have hi : i < ρ.length := (List.getElem?_eq_some_iff.mp e1).1
  have s3 : StR K F B (upd H a (.lst (xs ++ [v]))) σ (ρ.set i none) ((.ref a, min (k + 1) (x.1 + 1), .list (ds ++ [x.2])) :: T) := ⟨s1.fit, r2.perm List.perm_middle.symm⟩
  have s4 := StR.fillSlot h1 (by rw [List.length_set]; exact hi) s3
  rw [List.set_set] at s4
  exact s4
theorem st_app {x : Str} {i : Nat} {e : Expr} {ce : CE} {p0 p1 p2 pos : Pos} (hl : (p1.endLine == p2.line) = true) (hn : notStar e = true) (h1 : ixOf c.N x = some i) (h2 : vis c.sc x = true) (h3 : nameOk x = true) (he : SE Z Γ lvl c e ce) :
    SS Z Γ lvl c (.Expr (.Call (.Attribute (.Name x p0) "append" p1) [e] [] p2) pos) (.app i ce) := fun X W o => by
  have n := nameOk_of h3
  have st1 := star1 (es := []) (env := X.env) hn
  refine PS.weak (ps_expr (pe_bm F.plainAttrs_list F.slot_list_append F.type_list_append (show MtR X "list.append" rAppend from mt_append) (pe_var (by rw [o.N]; exact ixOf_get h1) (by rw [o.sc]; exact vis_of h2) n.1 n.2.1) (pa_cons (he X W o.toOk) pa_nil st1) rfl (by rw [st1]; rfl) hl st1 rfl) rfl) fun D σ H h => ?_
  obtain ⟨F, B, ρ, T, s, p⟩ := h
  have p := AfterS.of (m := (isL i).bind fun _ => (denE (e0 Z lvl c) ce).bind fun s => (item c.io s).bind fun x => appL i x) p
  obtain ⟨_, ρ1, ee, pp⟩ := p.bind.nx isL_nx
  obtain ⟨rfl, v0, hv⟩ := isL_ok s ee
  obtain ⟨a0, xs0, rfl, hq⟩ := isL_list s ee hv
  refine ⟨_, hv, .inl ⟨rfl, xs0, hq⟩, F, B, ρ1, T, s, pp.bind.mono fun t2 ρ4 _ p v2 H2 r2 s3 => ?_⟩
  obtain ⟨z, ρ5, e5, p⟩ := p.bind.nx .item
  have s4 := item_hold s3 r2 e5
  obtain ⟨_, ρ6, e6, p⟩ := p.ok appL_nx
  obtain ⟨a, xs, ea, hx, hz, s6⟩ := s4.appL hv e6
  exact ⟨a, xs, v2, ea, rfl, hx, hz, p σ _ s6 .refl⟩
end
end PV

/-! PV4d: loops, errors. -/
namespace PV
open PySem PySem.Spec L2
section
variable {Z : GD} {Γ : Gam} {lvl : Nat} {c : Cmp} {W : WX} {X : Cx}
theorem StR.unheld {K : Frag} {F B H : Hp} {σ : L2.St} {ρ : SEnv} {S T : List Root} (s : StR K F B H σ ρ (S ++ T)) : StR K F B H σ ρ T := s.behind fun U r => by rw [List.append_assoc] at r; exact r.dropL
theorem for_rd {K : Frag} {W : WX} {io : List Nat} {E : PV.Env0} {t : CT} {it : CI} {b : CSs} {D : Ends} {σ : L2.St} {H : Hp} (hio : E.io = io)
    (h : rdS Z K W io (denS E (.forr t it b)) D σ H) : tFor (rdI Z K W (denI E it)) (rdG K E t) (rdS Z K W io (denSs E b)) D σ H := by
  obtain ⟨F, B, ρ, T, s, p⟩ := h
  have p := AfterS.of (m := denI E it) p
  refine ⟨F, B, ρ, T, s, p.mono fun xs ρ1 _ p J S H1 wk s1 => ?_⟩
  generalize hf : (fun x => MS.of (bindN E t x) fun _ => denSs E b) = f at p
  refine ⟨fun i m σ' H' => m = xs.length - i ∧ ∃ ρi, StR K F B H' σ' ρi (S ++ T) ∧ Pin io σ σ' ∧ AfterS Z K W F B io σ T D (forL f (xs.drop i) ρi), ⟨xs.length, rfl, ρ1, s1, .refl, p⟩, ?_⟩
  rintro i m σ2 H2 ⟨rfl, ρi, s2, pn, p2⟩
  obtain ⟨w1, w2⟩ := wk _ _ _ _ _ _ s2
  cases hx : xs[i]? with
  | none =>
    have hi : xs.length ≤ i := List.getElem?_eq_none_iff.mp hx
    rw [List.drop_of_length_le hi] at p2
    exact .inl ⟨w2 i hi, p2 σ2 H2 s2.unheld pn⟩
  | some x =>
    have hi : i < xs.length := (List.getElem?_eq_some_iff.mp hx).1
    obtain ⟨w3, w4⟩ := w1 i x hx
    have ed : xs.drop i = x :: xs.drop (i + 1) := by
      rw [List.drop_eq_getElem_cons hi]
      congr 1
      exact Option.some.inj ((List.getElem?_eq_getElem hi).symm.trans hx)
    rw [ed] at p2
    have p3 : AfterS Z K W F B io σ T D (match f x ρi with | .nx ρ' => forL f (xs.drop (i + 1)) ρ' | .ct ρ' => forL f (xs.drop (i + 1)) ρ' | .bk ρ' => .nx ρ' | r => r) := p2
    refine .inr ⟨w3, fun σ' H' => ∃ ρ', StR K F B H' σ' ρ' (S ++ T) ∧ Pin io σ σ' ∧ AfterS Z K W F B io σ T D (forL f (xs.drop (i + 1)) ρ'), fun σ' H' ⟨ρ', z1, z2, z3⟩ => ⟨xs.length - (i + 1), by omega, rfl, ρ', z1, z2, z3⟩, fun y H3 hy => ?_⟩
    -- the target
    have s3 := w4 y H3 hy
    cases eb : bindN E t x ρi with
    | no => rw [← hf] at p3; simp only [MS.of, eb] at p3; exact p3.elim
    | ex e ρ' => exact absurd eb (bindN_NX t x ρi e ρ')
    | ok u ρ4 =>
      refine ⟨F, B, ρi, _, x, ρ4, s3, eb, fun σ3 H4 s4 ch pn2 => ?_⟩
      have pn3 : Pin io σ σ3 := pn.trans (by rw [← hio]; exact pn2)
      refine ⟨F, B, ρ4, _, s4, ?_⟩
      have ef : f x ρi = denSs E b ρ4 := by rw [← hf]; simp only [MS.of, eb]
      rw [ef] at p3
      cases er : denSs E b ρ4 with
      | nx ρ5 => rw [er] at p3; exact fun σ' H' s5 q => ⟨ρ5, s5, pn3.trans q, p3⟩
      | ct ρ5 => rw [er] at p3; exact fun σ' H' s5 q => ⟨ρ5, s5, pn3.trans q, p3⟩
      | bk ρ5 => rw [er] at p3; exact fun σ' H' s5 q => p3 σ' H' s5.unheld (pn3.trans q)
      | rt k d ρ5 =>
        rw [er] at p3
        have p4 : AfterS Z K W F B io σ3 (S ++ T) D (.rt k d ρ5) := (AfterS.pin (show AfterS Z K W F B io σ T D (.rt k d ρ5) from p3) pn3).held
        exact p4
      | ex e ρ5 =>
        rw [er] at p3
        have p4 : AfterS Z K W F B io σ3 (S ++ T) D (.ex e ρ5) := (AfterS.pin (show AfterS Z K W F B io σ T D (.ex e ρ5) from p3) pn3).held
        exact p4
      | no => rw [er] at p3; exact p3.elim
theorem st_for {tg iter : Expr} {body : List Stmt} {t : CT} {it : CI} {b : CSs} {pos : Pos} (hp : plainIt iter = true) (hi : SI Z Γ lvl c tg iter it) (hg : SG Z Γ lvl c tg t) (hb : SSs Z Γ lvl c body b) : SS Z Γ lvl c (.For tg iter body [] pos) (.forr t it b) := fun X W o =>
  PS.weak (ps_for o.hp o.calm (hi X W o.toOk) (hg X W o.toOk) (hb X W o) (plainIt_of hp)) fun D σ H h => for_rd rfl h
theorem while_rd {K : Frag} {W : WX} {io : List Nat} {E : PV.Env0} {cb : CB} {b : CSs} {D : Ends} {σ : L2.St} {H : Hp} (hwh : E.wh = whileM)
    (h : rdS Z K W io (denS E (.whil cb b)) D σ H) : tWhile (rdT Z K W (denT E cb)) (rdS Z K W io (denSs E b)) D σ H := by
  obtain ⟨F, B, ρ, T, s, p⟩ := h
  have p : AfterS Z K W F B io σ T D (E.wh (denT E cb) (denSs E b) ρ) := p
  rw [hwh] at p
  have hne : whileM (denT E cb) (denSs E b) ρ ≠ .no := fun e => by rw [e] at p; exact p
  obtain ⟨n, hn⟩ := whileM_ex hne
  rw [← hn] at p
  refine ⟨fun m σ' H' => ∃ ρi, StR K F B H' σ' ρi T ∧ Pin io σ σ' ∧ AfterS Z K W F B io σ T D (whileN (denT E cb) (denSs E b) m ρi), ⟨n, ρ, s, .refl, p⟩, ?_⟩
  rintro m σ2 H2 ⟨ρi, s2, pn, p2⟩
  cases m with
  | zero => exact p2.elim
  | succ m =>
    have p3 : AfterS Z K W F B io σ T D (match denT E cb ρi with
      | .ok true ρ1 => (match denSs E b ρ1 with
        | .nx ρ2 => whileN (denT E cb) (denSs E b) m ρ2
        | .ct ρ2 => whileN (denT E cb) (denSs E b) m ρ2
        | .bk ρ2 => .nx ρ2
        | r => r)
      | .ok false ρ1 => .nx ρ1
      | .ex e ρ1 => .ex e ρ1
      | .no => .no) := p2
    refine ⟨F, B, ρi, T, s2, ?_⟩
    cases ec : denT E cb ρi with
    | no => rw [ec] at p3; exact p3.elim
    | ex e ρ1 =>
      rw [ec] at p3
      exact fun cl d H' s' x => (AfterS.pin (show AfterS Z K W F B io σ T D (.ex e ρ1) from p3) pn) cl d σ2 H' s' .refl x
    | ok k ρ1 =>
      rw [ec] at p3
      intro H3 s3
      cases k with
      | false => exact if_no (p3 σ2 H3 s3 pn)
      | true =>
        refine if_yes ⟨fun σ' H' => ∃ ρ', StR K F B H' σ' ρ' T ∧ Pin io σ σ' ∧ AfterS Z K W F B io σ T D (whileN (denT E cb) (denSs E b) m ρ'), fun σ' H' z => ⟨m, Nat.lt_succ_self m, z⟩, F, B, ρ1, T, s3, ?_⟩
        simp only at p3
        cases er : denSs E b ρ1 with
        | nx ρ5 => rw [er] at p3; exact fun σ' H' s5 q => ⟨ρ5, s5, pn.trans q, p3⟩
        | ct ρ5 => rw [er] at p3; exact fun σ' H' s5 q => ⟨ρ5, s5, pn.trans q, p3⟩
        | bk ρ5 => rw [er] at p3; exact fun σ' H' s5 q => p3 σ' H' s5 (pn.trans q)
        | rt k d ρ5 => rw [er] at p3; exact AfterS.pin (show AfterS Z K W F B io σ T D (.rt k d ρ5) from p3) pn
        | ex e ρ5 => rw [er] at p3; exact AfterS.pin (show AfterS Z K W F B io σ T D (.ex e ρ5) from p3) pn
        | no => rw [er] at p3; exact p3.elim
theorem st_while {e : Expr} {body : List Stmt} {cb : CB} {b : CSs} {pos : Pos} (he : SB Z Γ lvl c e cb) (hb : SSs Z Γ lvl c body b) : SS Z Γ lvl c (.While e body [] pos) (.whil cb b) := fun X W o =>
  PS.weak (ps_while o.hp (he X W o.toOk) (hb X W o)) fun D σ H h => while_rd rfl h
/-! ### errors -/
theorem st_raise {x m : Str} {j k : Nat} {p p2 pos pos' : Pos} (h1 : Γ.exc x = some (j, false)) (h2 : glo c.sc x = true) : SS Z Γ lvl c (.Raise (some (.Call (.Name x p) [.Constant (.str m) k p2] [] pos)) none pos') (.rais j false (.lit .none)) := fun X W o => by
  obtain ⟨hj, hd, _⟩ := o.facts.exc x j false h1
  obtain ⟨B, newId, initId, bmB, C, ec, hm, f1, f2, f3, f4⟩ := o.facts.own x j h1
  refine PS.weak (ps_raise o.calm o.tk (pmk_own f1 f2 hm f3 f4 (o.gl h2) hd)) fun D σ H h => ?_
  obtain ⟨F, B, ρ, T, s, p⟩ := h
  exact p _ _ σ H s .refl ((o.facts.xr _ _ _ _).mpr ⟨hj, ec.symm, rfl⟩)
theorem OkS.try' (o : OkS Z Γ lvl c W X) {W' : WX} {pn : List (Addr × Obj)} {xe : Value → Shared → Prop} (tk : Takes (X.tr pn xe) W') (hp : PassesOwn (model X.prog X.w) X.A X.env xe) : OkS Z Γ lvl c W' (X.tr pn xe) where
  facts := o.facts
  snd := o.snd
  N := o.N
  nd := o.nd
  sc := o.sc
  loc := o.loc
  calm := o.calm
  room := o.room
  tk := tk
  hp := hp
  hs := o.hs
  hf := o.hf
  kind := o.kind
end
end PV

/-! PV4e: errors caught. -/
namespace PV
open PySem PySem.Spec L2
section
variable {Z : GD} {Γ : Gam} {lvl : Nat} {c : Cmp} {W : WX} {X : Cx}
/-- a scalar in an except suite -/
def rdHs (Z : GD) (K : Frag) (as : Option Nat) (h : HE) (a : Addr) (cls : Value) (d : Option Addr) : TE := fun σ H Q => ∃ F B ρ T e dv, StR K F B H σ ρ T ∧ Z.xr e cls d H ∧ (∀ i, as = some i → σ[i]? = some (some (.ref a))) ∧ denH Z.sub e h = some dv ∧
  ∀ v H', Same H H' → StR K F B H' σ ρ T → (∀ G, Rep K G v dv) → Q v H'
def rdHt (Z : GD) (K : Frag) (as : Option Nat) (h : HE) (a : Addr) (cls : Value) (d : Option Addr) : TE := fun σ H Q => ∃ F B ρ T e dv, StR K F B H σ ρ T ∧ Z.xr e cls d H ∧ (∀ i, as = some i → σ[i]? = some (some (.ref a))) ∧ denH Z.sub e h = some dv ∧
  ∀ v H', StR K F B H' σ ρ ((v, 0, dv) :: T) → Q v H'
def SHs (Z : GD) (Γ : Gam) (lvl : Nat) (c : Cmp) (as : Option Nat) (e : Expr) (h : HE) : Prop := ∀ X W, OkS Z Γ lvl c W X → ∀ a oe cls d pn, Zc cls d oe → (∃ vs, oe.data = .fields vs) → PE (X.suite a ((a, oe) :: pn)) e (rdHs Z X.K as h a cls d)
def SHt (Z : GD) (Γ : Gam) (lvl : Nat) (c : Cmp) (as : Option Nat) (e : Expr) (h : HE) : Prop := ∀ X W, OkS Z Γ lvl c W X → ∀ a oe cls d pn, Zc cls d oe → (∃ vs, oe.data = .fields vs) → PE (X.suite a ((a, oe) :: pn)) e (rdHt Z X.K as h a cls d)
variable {as : Option Nat}
theorem h_lit {K : Frag} {a : Addr} {cls : Value} {d : Option Addr} {dv : PV.D} {v : V} (r : ∀ G, Rep K G v dv) {σ : L2.St} {H : Hp} {Q : VK} (h : rdHs Z K as (.lit dv) a cls d σ H Q) : tC v σ H Q := by
  obtain ⟨F, B, ρ, T, e, dv', s, x, hi, hd, q⟩ := h
  cases hd
  exact q v H (.refl _) s r
theorem h_str {x : Str} {k pos} : SHs Z Γ lvl c as (.Constant (.str x) k pos) (.lit (.str x)) := fun X W o a oe cls d pn hz hf => PE.weak pe_str fun σ H Q h => h_lit (v := .str x) (fun G => .str x) h
theorem h_int {x : Int} {k pos} : SHs Z Γ lvl c as (.Constant (.int x) k pos) (.lit (.int x)) := fun X W o a oe cls d pn hz hf => PE.weak pe_int fun σ H Q h => h_lit (v := .int x) (fun G => .int x) h
theorem h_bl {x : Bool} {k pos} : SHs Z Γ lvl c as (.Constant (.bool x) k pos) (.lit (.bool x)) := fun X W o a oe cls d pn hz hf => PE.weak pe_bl fun σ H Q h => h_lit (v := .bl x) (fun G => .bl x) h
theorem h_non {k pos} : SHs Z Γ lvl c as (.Constant .none k pos) (.lit .none) := fun X W o a oe cls d pn hz hf => PE.weak pe_non fun σ H Q h => h_lit (v := .non) (fun G => .non) h
theorem SHs.top {e : Expr} {h : HE} (s : SHs Z Γ lvl c as e h) : SHt Z Γ lvl c as e h := fun X W o a oe cls d pn hz hf => PE.weak (s X W o a oe cls d pn hz hf) fun σ H Q z => by
  obtain ⟨F, B, ρ, T, e, dv, s, x, hi, hd, q⟩ := z
  exact ⟨F, B, ρ, T, e, dv, s, x, hi, hd, fun v H' sm s' r => q v H' (s'.behind fun S rr => rr.scal r)⟩
/-- the caught error's suite -/
theorem suite_ret {e : Expr} {h : HE} {rp : Pos} (s : SHt Z Γ lvl c as e h) {X : Cx} {W : WX} (o : OkS Z Γ lvl c W X) (a : Addr) (oe : Obj) (cls : Value) (d : Option Addr) (pn : List (Addr × Obj)) (hz : Zc cls d oe) (hf : ∃ vs, oe.data = .fields vs) :
    PSs (X.suite a ((a, oe) :: pn)) [.Return (some e) rp] (tRet (rdHt Z X.K as h a cls d)) := pss_one (ps_ret (s X W o a oe cls d pn hz hf))
theorem try_ok {b : List Stmt} {cb : CSs} (hb : SSs Z Γ lvl c b cb) {X : Cx} {W : WX} (o : OkS Z Γ lvl c W X) : ∀ (W' : WX) (pn : List (Addr × Obj)) (xe : Value → Shared → Prop), Takes (X.tr pn xe) W' → PassesOwn (model X.prog X.w) X.A X.env xe → PSs (X.tr pn xe) b (rdS Z X.K W' c.io (denSs (e0 Z lvl c) cb)) :=
  fun W' pn xe tk hp => hb _ _ (o.try' tk hp)
theorem st_try {x : Str} {j : Nat} {bb : Bool} {body : List Stmt} {cb : CSs} {e : Expr} {h : HE} {np rp p' pos : Pos} (h1 : Γ.exc x = some (j, bb)) (h2 : glo c.sc x = true) (hb : SSs Z Γ lvl c body cb) (hs : SHt Z Γ lvl c none e h) :
    SS Z Γ lvl c (.Try body [.ExceptHandler (some (.Name x np)) none [.Return (some e) rp] p'] [] [] pos) (.tryy cb [(j, none, h)]) := fun X W o => by
  obtain ⟨hj, hd, hm⟩ := o.facts.exc x j bb h1
  refine PS.weak (ps_try_only (tb := fun W' => rdS Z X.K W' c.io (denSs (e0 Z lvl c) cb)) o.hs o.hf ⟨o.gl h2, hd, hm⟩ o.tk (try_ok hb o) fun a oe cls d pn hz hf => suite_ret hs o a oe cls d pn hz hf) fun D σ H z => ?_
  obtain ⟨F, B, ρ, T, s, p⟩ := z
  refine ⟨F, B, ρ, T, s, ?_⟩
  have p : AfterS Z X.K W F B c.io σ T D (match denSs (e0 Z lvl c) cb ρ with | .ex e ρ' => handle c.io Z.sub e [(j, none, h)] ρ' | r => r) := p
  cases er : denSs (e0 Z lvl c) cb ρ with
  | ex ex ρ' =>
    rw [er] at p
    intro cl d σ' H' s' pn x
    obtain ⟨x1, x2, x3⟩ := (o.facts.xr _ _ _ _).mp x
    refine ⟨Z.sub ex.c j, by rw [x2]; exact o.facts.subs _ _ x1 hj, fun hb a ha => ?_, fun hb => ?_⟩
    · have p : AfterS Z X.K W F B c.io σ T D ((if Z.sub ex.c j = true then caught c.io none (denH Z.sub ex h) else handle c.io Z.sub ex []) ρ') := p
      rw [if_pos hb] at p
      cases ed : denH Z.sub ex h with
      | none => rw [ed] at p; exact p.elim
      | some dv =>
        rw [ed] at p
        exact ⟨F, B, ρ', T, ex, dv, s', x, fun i hi => (nomatch hi), ed, fun v H2 s2 => p v σ' H2 s2 pn⟩
    · have p : AfterS Z X.K W F B c.io σ T D ((if Z.sub ex.c j = true then caught c.io none (denH Z.sub ex h) else handle c.io Z.sub ex []) ρ') := p
      rw [if_neg (by rw [hb]; exact Bool.false_ne_true)] at p
      exact p cl d σ' H' s' pn x
  | nx ρ1 => rw [er] at p; exact p
  | rt k d ρ1 => rw [er] at p; exact p
  | bk ρ1 => rw [er] at p; exact p
  | ct ρ1 => rw [er] at p; exact p
  | no => rw [er] at p; exact p
theorem st_tryAs {x n : Str} {j i : Nat} {bb : Bool} {body : List Stmt} {cb : CSs} {e : Expr} {h : HE} {np rp p' pos : Pos} (h1 : Γ.exc x = some (j, bb)) (h2 : glo c.sc x = true) (hn : ixOf c.N n = some i) (hl : c.sc.names.lookup n = some .local) (hb : SSs Z Γ lvl c body cb) (hs : SHt Z Γ lvl c (some i) e h) :
    SS Z Γ lvl c (.Try body [.ExceptHandler (some (.Name x np)) (some n) [.Return (some e) rp] p'] [] [] pos) (.tryy cb [(j, some i, h)]) := fun X W o => by
  obtain ⟨hj, hd, hm⟩ := o.facts.exc x j bb h1
  refine PS.weak (ps_try_as (tb := fun W' => rdS Z X.K W' c.io (denSs (e0 Z lvl c) cb)) o.hs o.hf (by rw [o.N]; exact o.nd) (by rw [o.N]; exact ixOf_get hn) (by unfold Env.kindOf; rw [o.sc]; exact hl) ⟨o.gl h2, hd, hm⟩ o.tk (try_ok hb o) fun a oe cls d pn hz hf => suite_ret hs o a oe cls d pn hz hf) fun D σ H z => ?_
  obtain ⟨F, B, ρ, T, s, p⟩ := z
  refine ⟨F, B, ρ, T, s, ?_⟩
  have p : AfterS Z X.K W F B c.io σ T D (match denSs (e0 Z lvl c) cb ρ with | .ex e ρ' => handle c.io Z.sub e [(j, some i, h)] ρ' | r => r) := p
  cases er : denSs (e0 Z lvl c) cb ρ with
  | ex ex ρ' =>
    rw [er] at p
    intro cl d σ' H' s' pn x
    obtain ⟨x1, x2, x3⟩ := (o.facts.xr _ _ _ _).mp x
    refine ⟨Z.sub ex.c j, by rw [x2]; exact o.facts.subs _ _ x1 hj, fun hb a ha => ?_, fun hb => ?_⟩
    · have p : AfterS Z X.K W F B c.io σ T D ((if Z.sub ex.c j = true then caught c.io (some i) (denH Z.sub ex h) else handle c.io Z.sub ex []) ρ') := p
      rw [if_pos hb] at p
      cases ed : denH Z.sub ex h with
      | none => rw [ed] at p; exact p.elim
      | some dv =>
        rw [ed] at p
        have p : AfterS Z X.K W F B c.io σ T D (if (c.io.contains i || decide (ρ'.length ≤ i)) = true then RS.no else .rt 0 dv (ρ'.set i none)) := p
        split at p
        · exact p.elim
        · rename_i hio
          simp only [Bool.or_eq_true, decide_eq_true_eq, not_or, Nat.not_le] at hio
          have hi : i < σ'.length := by rw [s'.fit.length]; exact hio.2
          refine ⟨F, B, ρ'.set i none, T, ex, dv, (s'.emptySlot i).sub List.length_set fun l x hx => ?_, x, fun l hl => ?_, ed, fun v H2 s2 => ?_⟩
          · by_cases e : i = l
            · subst e
              rw [List.getElem?_set_self hio.2] at hx; cases hx
            · rw [List.getElem?_set_ne e]
          · cases hl; rw [List.getElem?_set_self hi]
          · refine p v _ H2 s2 (pn.trans fun l hl => List.getElem?_set_ne ?_)
            intro z; subst z; exact hio.1 (List.contains_iff_mem.mpr hl)
    · have p : AfterS Z X.K W F B c.io σ T D ((if Z.sub ex.c j = true then caught c.io (some i) (denH Z.sub ex h) else handle c.io Z.sub ex []) ρ') := p
      rw [if_neg (by rw [hb]; exact Bool.false_ne_true)] at p
      exact p cl d σ' H' s' pn x
  | nx ρ1 => rw [er] at p; exact p
  | rt k d ρ1 => rw [er] at p; exact p
  | bk ρ1 => rw [er] at p; exact p
  | ct ρ1 => rw [er] at p; exact p
  | no => rw [er] at p; exact p
end
end PV

/-! PV5a: expressions compiled. -/
namespace PV
open PySem PySem.Spec L2
def unBin : Operator → Option BOp
  | .Add => some .add | .Sub => some .sub | .Mult => some .mul | .FloorDiv => some .fdiv | .Mod => some .mod | .Pow => some .pow | .LShift => some .shl | .RShift => some .shr | .BitAnd => some .band | .BitOr => some .bor
  | _ => none
theorem unBin_ok {o : Operator} {b : BOp} (h : unBin o = some b) : o = pyBin b := by cases o <;> first | (cases h; rfl) | cases h
def unUn : UnaryOp → Option UOp
  | .USub => some .neg
  | .Invert => some .inv
  | _ => none
theorem unUn_ok {o : UnaryOp} {b : UOp} (h : unUn o = some b) : o = pyUn b := by cases o <;> first | (cases h; rfl) | cases h
def unCmp : CmpOp → Option COp
  | .Eq => some .eq | .NotEq => some .ne | .Lt => some .lt | .LtE => some .le | .Gt => some .gt | .GtE => some .ge | .Is => some .isN | .IsNot => some .notN | .In => some .inn | .NotIn => some .nin
theorem unCmp_ok {o : CmpOp} {b : COp} (h : unCmp o = some b) : o = pyCmp b := by cases o <;> first | (cases h; rfl) | cases h
structure Rec where
  E : Cmp → Expr → Option CE
  B : Cmp → Expr → Option CB
  W : Cmp → Expr → Option CB
  G : Cmp → Expr → Option CT
def Rec.none : Rec := ⟨fun _ _ => .none, fun _ _ => .none, fun _ _ => .none, fun _ _ => .none⟩
def cA (f : Expr → Option CE) : List Expr → Option CEs
  | [] => some .nil
  | e :: es => if notStar e = true then (match f e, cA f es with
    | some ce, some ces => some (.cons ce ces)
    | _, _ => none) else none
def cO (f : Expr → Option CE) : Option Expr → Option CO
  | none => some .none
  | some e => (f e).map .some
def cGs (f : Expr → Option CT) : List Expr → Option CTs
  | [] => some .nil
  | e :: es => if notStar e = true then (match f e, cGs f es with
    | some ce, some ces => some (.cons ce ces)
    | _, _ => none) else none
def isTupE : Expr → Bool
  | .Tuple .. => true
  | _ => false
def cI (r : Rec) (Γ : Gam) (c : Cmp) (tg : Expr) : Expr → Option CI
  | .Call (.Name x p0) args [] pos =>
    if (decide (x = "range") && (Γ.blt "range" && glo c.sc "range")) = true then (match args with
      | [_] => (cA (r.E c) args).map .rng
      | [_, _] => (cA (r.E c) args).map .rng
      | _ => none)
    else if (decide (x = "zip") && (Γ.blt "zip" && glo c.sc "zip") && isTupE tg) = true then (match args with
      | [_, _] => (cA (r.E c) args).map .zip
      | _ => none)
    else if (decide (x = "enumerate") && (Γ.blt "enumerate" && glo c.sc "enumerate") && isTupE tg) = true then (match args with
      | [_] => (cA (r.E c) args).map .enum
      | _ => none)
    else (r.E c (.Call (.Name x p0) args [] pos)).map .seq
  | e => (r.E c e).map .seq
def cC (f : Expr → Option CB) : List Expr → Option CC
  | [] => some .none
  | [e] => (f e).map .some
  | _ => none
def ownOf (c : Cmp) (scope : Scope) : List (Str × Nat) := scope.names.filterMap fun y => match y.2 with
  | .local => (ixOf c.N y.1).map fun i => (y.1, i)
  | .cell => (ixOf c.N y.1).map fun i => (y.1, i)
  | _ => none
/-- the parts of a comprehension of one clause -/
def cComp (r : Rec) (Γ : Gam) (c : Cmp) (elt tg iter : Expr) (ifs : List Expr) (scope : Scope) : Option CE :=
  if (compC c scope (ownOf c scope) && plainIt iter) = true then
    (match cI r Γ c tg iter, r.G (blkCmp c scope (ownOf c scope)) tg, cC (r.B (blkCmp c scope (ownOf c scope))) ifs, r.E (blkCmp c scope (ownOf c scope)) elt with
    | some it, some t, some cc, some ce => if (slotsOf t).all (fun i => decide (i ∈ (ownOf c scope).map (·.2))) = true then some (.comp ((ownOf c scope).map (·.2)) t it cc (.done ce)) else none
    | _, _, _, _ => none)
  else none
def cName (Γ : Gam) (c : Cmp) (x : Str) : Option CE :=
  if nameOk x = true then (if vis c.sc x = true then (ixOf c.N x).map .var else if glo c.sc x = true then (Γ.cst x).map (.glob x) else none) else none
def isSl : Expr → Bool
  | .Slice .. => true
  | _ => false
def tyOf (Γ : Gam) (c : Cmp) : Expr → Option Ty
  | .Name x _ => if (Γ.blt x && glo c.sc x) = true then tyFind x else none
  | _ => none
def cIsi (r : Rec) (Γ : Gam) (c : Cmp) : List Expr → Option CE
  | [e, .Tuple [t, t'] _ _] => if notStar e = true then (match r.E c e, tyOf Γ c t, tyOf Γ c t' with
    | some ce, some a, some b => some (.isi ce [a, b])
    | _, _, _ => none) else none
  | [e, t] => if notStar e = true then (match r.E c e, tyOf Γ c t with
    | some ce, some a => some (.isi ce [a])
    | _, _ => none) else none
  | _ => none
def cCallN (r : Rec) (Γ : Gam) (c : Cmp) (x : Str) (args : List Expr) : Option CE :=
  if (glo c.sc x && nameOk x && args.all notStar) = true then
    (match Γ.fn x with
    | some f => (match args with
      | [] => some (.call0 f)
      | _ => (cA (r.E c) args).map (.call f))
    | none => if Γ.blt x = true then (if decide (x = "isinstance") = true then cIsi r Γ c args else
        (match bltFind x args.length, args with
        | some b, _ :: _ => (cA (r.E c) args).map (.blt b.2.2.1)
        | _, _ => none))
      else none)
  else none
def cMeth (r : Rec) (c : Cmp) (o : Expr) (nm : Str) (l1 l2 : Nat) : List Expr → Option CE
  | [e] => if (notSuper o && (l1 == l2) && notStar e) = true then (match methFind nm, r.E c o, r.E c e with
    | some b, some co, some ce => some (.meth b co ce)
    | _, _, _ => none) else none
  | _ => none
def stepE (r : Rec) (Γ : Gam) (c : Cmp) : Expr → Option CE
  | .Constant k _ _ => (match k with
    | .int i => some (.lit (.int i))
    | .bool b => some (.lit (.bool b))
    | .str x => some (.lit (.str x))
    | .none => some (.lit .none)
    | _ => none)
  | .Name x _ => cName Γ c x
  | .BinOp a op b _ => (match unBin op, r.E c a, r.E c b with
    | some o, some ca, some cb => some (.bin o ca cb)
    | _, _, _ => none)
  | .UnaryOp .Not a _ => (r.E c a).map fun ca => .not (.val ca)
  | .UnaryOp op a _ => (match unUn op, r.E c a with
    | some o, some ca => some (.un o ca)
    | _, _ => none)
  | .Compare a [op] [b] _ => if behindInMarks op b = true then none else (match unCmp op, r.E c a, r.E c b with
    | some o, some ca, some cb => some (.cmp o ca cb)
    | _, _, _ => none)
  | .Compare a [op, op2] [b, d] _ => if lastMarks [op, op2] [b, d] = true then none else (match unCmp op, unCmp op2, r.E c a, r.E c b, r.E c d with
    | some o, some o2, some ca, some cb, some cd => some (.chain o o2 ca cb cd)
    | _, _, _, _, _ => none)
  | .BoolOp op (a :: rest) pos => (match rest with
    | [] => r.E c a
    | _ :: _ => (match r.E c a, r.E c (.BoolOp op rest pos) with
      | some ca, some cb => some (match op with | .And => .and ca cb | .Or => .or ca cb)
      | _, _ => none))
  | .IfExp t a b _ => (match r.B c t, r.E c a, r.E c b with
    | some ct, some ca, some cb => some (.ite ct ca cb)
    | _, _, _ => none)
  | .Tuple es _ _ => (cA (r.E c) es).map .tup
  | .List es _ => (cA (r.E c) es).map .lst
  | .Subscript a (.Slice lo hi st _) _ => (match st with
    | none => (match r.E c a, cO (r.E c) lo, cO (r.E c) hi with
      | some ca, some cl, some ch => some (.sl ca cl ch)
      | _, _, _ => none)
    | some _ => none)
  | .Subscript a b _ => if isSl b = true then none else (match r.E c a, r.E c b with
    | some ca, some cb => some (.idx ca cb)
    | _, _ => none)
  | .Call (.Name x _) args [] _ => cCallN r Γ c x args
  | .Call (.Attribute o nm p1) args [] p2 => cMeth r c o nm p1.endLine p2.line args
  | .ListComp elt [⟨tg, iter, ifs, a⟩] scope _ => if a = 0 then cComp r Γ c elt tg iter ifs scope else none
  | _ => none
def plainTrue : Expr → Bool
  | .UnaryOp .Not _ _ => false
  | .BoolOp .. => false
  | .IfExp .. => false
  | .Compare .. => false
  | _ => true
def stepW (r : Rec) (c : Cmp) : Expr → Option CB
  | .BoolOp op (a :: rest) pos => (match rest with
    | [] => r.B c a
    | _ :: _ => (match r.B c a, r.W c (.BoolOp op rest pos) with
      | some ca, some cb => some (match op with | .And => .and ca cb | .Or => .or ca cb)
      | _, _ => none))
  | _ => none
def stepB (r : Rec) (c : Cmp) : Expr → Option CB
  | .UnaryOp .Not a _ => (r.B c a).map .not
  | .BoolOp op es pos => stepW r c (.BoolOp op es pos)
  | .Compare a [op] [b] _ => if behindInMarks op b = true then none else (match unCmp op, r.E c a, r.E c b with
    | some o, some ca, some cb => some (.cmp o ca cb)
    | _, _, _ => none)
  | .Compare a [op, op2] [b, d] _ => if lastMarks [op, op2] [b, d] = true then none else (match unCmp op, unCmp op2, r.E c a, r.E c b, r.E c d with
    | some o, some o2, some ca, some cb, some cd => some (.chain o o2 ca cb cd)
    | _, _, _, _, _ => none)
  | e => if plainTrue e = true then (r.E c e).map .val else none
def stepG (r : Rec) (c : Cmp) : Expr → Option CT
  | .Name x _ => if decide (x ∈ c.loc) = true then (ixOf c.N x).map .name else none
  | .Tuple ts _ _ => (cGs (r.G c) ts).map .tup
  | _ => none
def comp (Γ : Gam) : Nat → Rec
  | 0 => .none
  | n + 1 => ⟨stepE (comp Γ n) Γ, stepB (comp Γ n), stepW (comp Γ n), stepG (comp Γ n)⟩
end PV

/-! PV5b: what is compiled is sound. -/
namespace PV
open PySem PySem.Spec L2
structure RecOk (Z : GD) (Γ : Gam) (lvl : Nat) (r : Rec) : Prop where
  E : ∀ c e ce, r.E c e = some ce → SE Z Γ lvl c e ce
  B : ∀ c e ce, r.B c e = some ce → SB Z Γ lvl c e ce
  W : ∀ c e ce, r.W c e = some ce → SW Z Γ lvl c e ce
  G : ∀ c e ce, r.G c e = some ce → SG Z Γ lvl c e ce
section
variable {Z : GD} {Γ : Gam} {lvl : Nat} {c : Cmp} {r : Rec}
theorem cA_ok (h : RecOk Z Γ lvl r) : ∀ {es : List Expr} {ces : CEs}, cA (r.E c) es = some ces → SA Z Γ lvl c es ces ∧ es.all notStar = true ∧ ces.len = es.length
  | [], ces, e => by cases e; exact ⟨a_nil, rfl, rfl⟩
  | x :: xs, ces, e => by
    unfold cA at e
    by_cases hn : notStar x = true
    · rw [if_pos hn] at e
      split at e
      · rename_i cx cxs e1 e2
        cases e
        obtain ⟨a, b, d⟩ := cA_ok h e2
        exact ⟨a_cons hn (h.E _ _ _ e1) a, by rw [List.all_cons, hn, b]; rfl, congrArg (· + 1) d⟩
      · cases e
    · rw [if_neg hn] at e; cases e
theorem cO_ok (h : RecOk Z Γ lvl r) {e : Option Expr} {ce : CO} (q : cO (r.E c) e = some ce) : SO Z Γ lvl c e ce := by
  cases e with
  | none => cases q; exact o_none
  | some e =>
    obtain ⟨x, h1, rfl⟩ := map_some (show (r.E c e).map CO.some = some ce from q)
    exact o_some (h.E _ _ _ h1)
theorem cGs_ok (h : RecOk Z Γ lvl r) : ∀ {es : List Expr} {ces : CTs}, cGs (r.G c) es = some ces → SGs Z Γ lvl c es ces ∧ es.all notStar = true ∧ ces.len = es.length
  | [], ces, e => by cases e; exact ⟨gs_nil, rfl, rfl⟩
  | x :: xs, ces, e => by
    unfold cGs at e
    by_cases hn : notStar x = true
    · rw [if_pos hn] at e
      split at e
      · rename_i cx cxs e1 e2
        cases e
        obtain ⟨a, b, d⟩ := cGs_ok h e2
        exact ⟨gs_cons hn (h.G _ _ _ e1) a, by rw [List.all_cons, hn, b]; rfl, congrArg (· + 1) d⟩
      · cases e
    · rw [if_neg hn] at e; cases e
theorem and3 {a b d : Bool} (h : (a && (b && d)) = true) : a = true ∧ b = true ∧ d = true := by
  have h1 := Bool.and_eq_true_iff.mp h
  exact ⟨h1.1, Bool.and_eq_true_iff.mp h1.2⟩
theorem cI_seq (h : RecOk Z Γ lvl r) {tg e : Expr} {ci : CI} (q : (r.E c e).map CI.seq = some ci) : SI Z Γ lvl c tg e ci := by
  obtain ⟨x, h1, rfl⟩ := map_some q
  exact i_seq (h.E _ _ _ h1)
theorem cI_ok (h : RecOk Z Γ lvl r) {tg e : Expr} {ci : CI} (q : cI r Γ c tg e = some ci) : SI Z Γ lvl c tg e ci := by
  unfold cI at q
  split at q
  · rename_i x p0 args pos
    split at q
    · rename_i hc
      obtain ⟨hx, hb, hg⟩ := and3 hc
      have hx := of_decide_eq_true hx
      subst hx
      split at q
      · obtain ⟨ces, h1, rfl⟩ := map_some q
        obtain ⟨a, b, d⟩ := cA_ok h h1
        exact i_rng1 hb hg (Bool.and_eq_true_iff.mp b).1 a d
      · obtain ⟨ces, h1, rfl⟩ := map_some q
        obtain ⟨a, b, d⟩ := cA_ok h h1
        have b2 := Bool.and_eq_true_iff.mp b
        exact i_rng2 hb hg b2.1 (Bool.and_eq_true_iff.mp b2.2).1 a d
      · cases q
    · split at q
      · rename_i hc
        have hc2 := Bool.and_eq_true_iff.mp hc
        obtain ⟨hx, hb, hg⟩ := and3 hc2.1
        have hx := of_decide_eq_true hx
        subst hx
        cases tg <;> first | cases hc2.2; done | skip
        split at q
        · obtain ⟨ces, h1, rfl⟩ := map_some q
          obtain ⟨a, b, d⟩ := cA_ok h h1
          have b2 := Bool.and_eq_true_iff.mp b
          exact i_zip hb hg b2.1 (Bool.and_eq_true_iff.mp b2.2).1 a
        · cases q
      · split at q
        · rename_i hc
          have hc2 := Bool.and_eq_true_iff.mp hc
          obtain ⟨hx, hb, hg⟩ := and3 hc2.1
          have hx := of_decide_eq_true hx
          subst hx
          cases tg <;> first | cases hc2.2; done | skip
          split at q
          · obtain ⟨ces, h1, rfl⟩ := map_some q
            obtain ⟨a, b, d⟩ := cA_ok h h1
            exact i_enum hb hg (Bool.and_eq_true_iff.mp b).1 a
          · cases q
        · exact cI_seq h q
  · exact cI_seq h q
theorem cC_ok (h : RecOk Z Γ lvl r) {es : List Expr} {cc : CC} (q : cC (r.B c) es = some cc) : SC Z Γ lvl c es cc := by
  unfold cC at q
  split at q
  · cases q; exact c_none
  · obtain ⟨x, h1, rfl⟩ := map_some q
    exact c_some (h.B _ _ _ h1)
  · cases q
theorem cComp_ok (h : RecOk Z Γ lvl r) {elt tg iter : Expr} {ifs : List Expr} {scope : Scope} {pos : Pos} {ce : CE} (q : cComp r Γ c elt tg iter ifs scope = some ce) :
    SE Z Γ lvl c (.ListComp elt [⟨tg, iter, ifs, 0⟩] scope pos) ce := by
  unfold cComp at q
  split at q
  · rename_i hc
    have hc := Bool.and_eq_true_iff.mp hc
    split at q
    · rename_i it t cc cx e1 e2 e3 e4
      split at q
      · rename_i hs
        cases q
        exact s_comp hc.1 hc.2 hs (cI_ok h e1) (h.G _ _ _ e2) (cC_ok h e3) (h.E _ _ _ e4)
      · cases q
    · cases q
  · cases q
theorem cName_ok {x : Str} {pos : Pos} {ce : CE} (q : cName Γ c x = some ce) : SE Z Γ lvl c (.Name x pos) ce := by
  unfold cName at q
  split at q
  · rename_i hn
    split at q
    · rename_i hv
      obtain ⟨i, h1, rfl⟩ := map_some q
      exact s_var h1 hv hn
    · split at q
      · rename_i hg
        obtain ⟨i, h1, rfl⟩ := map_some q
        exact s_glob h1 hg hn
      · cases q
  · cases q
theorem tyOf_ok {e : Expr} {t : Ty} (q : tyOf Γ c e = some t) : ∃ x p, e = .Name x p ∧ tyFind x = some t ∧ Γ.blt x = true ∧ glo c.sc x = true := by
  unfold tyOf at q
  split at q
  · split at q
    · rename_i hc
      have hc := Bool.and_eq_true_iff.mp hc
      exact ⟨_, _, rfl, q, hc.1, hc.2⟩
    · cases q
  · cases q
theorem cIsi_ok (h : RecOk Z Γ lvl r) {args : List Expr} {p0 pos : Pos} {ce : CE} (hb : Γ.blt "isinstance" = true) (hg : glo c.sc "isinstance" = true) (q : cIsi r Γ c args = some ce) : SE Z Γ lvl c (.Call (.Name "isinstance" p0) args [] pos) ce := by
  unfold cIsi at q
  split at q
  · split at q
    · rename_i hn
      split at q
      · rename_i cx a b e1 e2 e3
        cases q
        obtain ⟨x, p, rfl, h1, h2, h3⟩ := tyOf_ok e2
        obtain ⟨y, p', rfl, g1, g2, g3⟩ := tyOf_ok e3
        exact s_isi2 hb hg hn (h.E _ _ _ e1) h1 h2 h3 g1 g2 g3
      · cases q
    · cases q
  · split at q
    · rename_i hn
      split at q
      · rename_i cx a e1 e2
        cases q
        obtain ⟨x, p, rfl, h1, h2, h3⟩ := tyOf_ok e2
        exact s_isi hb hg hn (h.E _ _ _ e1) h1 h2 h3
      · cases q
    · cases q
  · cases q
theorem cCallN_ok (h : RecOk Z Γ lvl r) {x : Str} {args : List Expr} {p0 pos : Pos} {ce : CE} (q : cCallN r Γ c x args = some ce) : SE Z Γ lvl c (.Call (.Name x p0) args [] pos) ce := by
  unfold cCallN at q
  split at q
  · rename_i hc
    have hc := Bool.and_eq_true_iff.mp hc
    have hc1 := Bool.and_eq_true_iff.mp hc.1
    split at q
    · rename_i f hf
      split at q
      · cases q
        exact s_call0 hf hc1.1 hc1.2
      · rename_i hne
        obtain ⟨ces, h1, rfl⟩ := map_some q
        obtain ⟨a, b, d⟩ := cA_ok h h1
        cases args with
        | nil => exact absurd rfl hne
        | cons e es => exact s_call hf hc1.1 hc1.2 b a
    · split at q
      · rename_i hb
        split at q
        · rename_i hx
          have hx := of_decide_eq_true hx
          subst hx
          exact cIsi_ok h hb hc1.1 q
        · split at q
          · rename_i b e es hf
            obtain ⟨ces, h1, rfl⟩ := map_some q
            obtain ⟨a, b', d⟩ := cA_ok h h1
            exact s_blt hf hb hc1.1 hc1.2 b' a
          · cases q
      · cases q
  · cases q
theorem cMeth_ok (h : RecOk Z Γ lvl r) {o : Expr} {nm : Str} {args : List Expr} {p1 p2 : Pos} {ce : CE} (q : cMeth r c o nm p1.endLine p2.line args = some ce) : SE Z Γ lvl c (.Call (.Attribute o nm p1) args [] p2) ce := by
  unfold cMeth at q
  split at q
  · split at q
    · rename_i hc
      have hc := Bool.and_eq_true_iff.mp hc
      have hc1 := Bool.and_eq_true_iff.mp hc.1
      split at q
      · rename_i b co cx e1 e2 e3
        cases q
        exact s_meth e1 hc1.1 hc1.2 hc.2 (h.E _ _ _ e2) (h.E _ _ _ e3)
      · cases q
    · cases q
  · cases q
end
end PV

/-! PV5c: every expression that compiles. -/
namespace PV
open PySem PySem.Spec L2
section
variable {Z : GD} {Γ : Gam} {lvl : Nat} {c : Cmp} {r : Rec}
theorem stepE_ok (h : RecOk Z Γ lvl r) {e : Expr} {ce : CE} (q : stepE r Γ c e = some ce) : SE Z Γ lvl c e ce := by
  unfold stepE at q
  split at q
  · split at q
    · cases q; exact s_int
    · cases q; exact s_bl
    · cases q; exact s_str
    · cases q; exact s_non
    · cases q
  · exact cName_ok q
  · split at q
    · rename_i o ca cb e1 e2 e3
      cases q
      rw [unBin_ok e1]
      exact s_bin (h.E _ _ _ e2) (h.E _ _ _ e3)
    · cases q
  · obtain ⟨x, h1, rfl⟩ := map_some q
    exact s_not (h.E _ _ _ h1)
  · split at q
    · rename_i o ca e1 e2
      cases q
      rw [unUn_ok e1]
      exact s_un (h.E _ _ _ e2)
    · cases q
  · split at q
    · cases q
    · rename_i hm
      split at q
      · rename_i o ca cb e1 e2 e3
        cases q
        rw [unCmp_ok e1] at hm ⊢
        exact s_cmp (h.E _ _ _ e2) (h.E _ _ _ e3) (by simpa using hm)
      · cases q
  · split at q
    · cases q
    · rename_i hm
      split at q
      · rename_i o o2 ca cb cd e1 e2 e3 e4 e5
        cases q
        rw [unCmp_ok e1, unCmp_ok e2] at hm ⊢
        exact s_chain (h.E _ _ _ e3) (h.E _ _ _ e4) (h.E _ _ _ e5) (by simpa using hm)
      · cases q
  · rename_i op a rest pos
    split at q
    · exact s_one (h.E _ _ _ q)
    · split at q
      · rename_i ca cb e1 e2
        cases q
        cases op with
        | And => exact s_and (h.E _ _ _ e1) (h.E _ _ _ e2)
        | Or => exact s_or (h.E _ _ _ e1) (h.E _ _ _ e2)
      · cases q
  · split at q
    · rename_i ct ca cb e1 e2 e3
      cases q
      exact s_ite (h.B _ _ _ e1) (h.E _ _ _ e2) (h.E _ _ _ e3)
    · cases q
  · obtain ⟨x, h1, rfl⟩ := map_some q
    exact s_tup (cA_ok h h1).1
  · obtain ⟨x, h1, rfl⟩ := map_some q
    exact s_lst (cA_ok h h1).1
  · split at q
    · split at q
      · rename_i ca cl ch e1 e2 e3
        cases q
        exact s_sl (h.E _ _ _ e1) (cO_ok h e2) (cO_ok h e3)
      · cases q
    · cases q
  · split at q
    · cases q
    · rename_i hs
      split at q
      · rename_i ca cb e1 e2
        cases q
        exact s_idx (by rename_i b _ _ _ _; cases b <;> first | rfl | exact absurd rfl hs) (h.E _ _ _ e1) (h.E _ _ _ e2)
      · cases q
  · exact cCallN_ok h q
  · exact cMeth_ok h q
  · split at q
    · rename_i ha
      subst ha
      exact cComp_ok h q
    · cases q
  · cases q
theorem stepW_ok (h : RecOk Z Γ lvl r) {e : Expr} {cb : CB} (q : stepW r c e = some cb) : SW Z Γ lvl c e cb := by
  unfold stepW at q
  split at q
  · rename_i op a rest pos
    split at q
    · cases op with
      | And => exact w_and1 (h.B _ _ _ q)
      | Or => exact w_or1 (h.B _ _ _ q)
    · split at q
      · rename_i ca cb e1 e2
        cases q
        cases op with
        | And => exact w_and (h.B _ _ _ e1) (h.W _ _ _ e2)
        | Or => exact w_or (h.B _ _ _ e1) (h.W _ _ _ e2)
      · cases q
  · cases q
theorem plainTrue_of {e : Expr} (hp : plainTrue e = true) : ∀ env whole, isTrue e env whole = (do let v ← whole; standAt e.pos; holding [v] (truthy v)) := by
  intro env whole
  cases e with
  | UnaryOp op a pos => cases op <;> first | rfl | cases hp
  | _ => first | rfl | cases hp
theorem stepB_ok (h : RecOk Z Γ lvl r) {e : Expr} {cb : CB} (q : stepB r c e = some cb) : SB Z Γ lvl c e cb := by
  unfold stepB at q
  split at q
  · obtain ⟨x, h1, rfl⟩ := map_some q
    exact t_not (h.B _ _ _ h1)
  · exact (stepW_ok h q).sb
  · split at q
    · cases q
    · rename_i hm
      split at q
      · rename_i o ca cb e1 e2 e3
        cases q
        rw [unCmp_ok e1] at hm ⊢
        exact t_cmp (h.E _ _ _ e2) (h.E _ _ _ e3) (by simpa using hm)
      · cases q
  · split at q
    · cases q
    · rename_i hm
      split at q
      · rename_i o o2 ca cb cd e1 e2 e3 e4 e5
        cases q
        rw [unCmp_ok e1, unCmp_ok e2] at hm ⊢
        exact t_chain (h.E _ _ _ e3) (h.E _ _ _ e4) (h.E _ _ _ e5) (by simpa using hm)
      · cases q
  · split at q
    · rename_i hp
      obtain ⟨x, h1, rfl⟩ := map_some q
      exact t_val (h.E _ _ _ h1) (plainTrue_of hp)
    · cases q
theorem stepG_ok (h : RecOk Z Γ lvl r) {e : Expr} {t : CT} (q : stepG r c e = some t) : SG Z Γ lvl c e t := by
  unfold stepG at q
  split at q
  · split at q
    · rename_i hl
      obtain ⟨x, h1, rfl⟩ := map_some q
      exact g_name h1 (of_decide_eq_true hl)
    · cases q
  · obtain ⟨x, h1, rfl⟩ := map_some q
    obtain ⟨a, b, d⟩ := cGs_ok h h1
    exact g_tup b d a
  · cases q
theorem comp_ok : ∀ n, RecOk Z Γ lvl (comp Γ n)
  | 0 => ⟨fun _ _ _ h => (nomatch h), fun _ _ _ h => (nomatch h), fun _ _ _ h => (nomatch h), fun _ _ _ h => (nomatch h)⟩
  | n + 1 => ⟨fun _ _ _ q => stepE_ok (comp_ok n) q, fun _ _ _ q => stepB_ok (comp_ok n) q, fun _ _ _ q => stepW_ok (comp_ok n) q, fun _ _ _ q => stepG_ok (comp_ok n) q⟩
end
end PV

/-! PV5d: statements compiled. -/
namespace PV
open PySem PySem.Spec L2
def cSs (f : Stmt → Option CS) : List Stmt → Option CSs
  | [] => some .nil
  | s :: ss => match f s, cSs f ss with
    | some a, some b => some (.cons a b)
    | _, _ => none
def cExprS (r : Rec) (c : Cmp) (e : Expr) : Option CS := match e with
  | .Constant (.str _) _ _ => some .pass
  | .Call (.Attribute (.Name x _) nm p1) [a] [] p2 =>
    if (decide (nm = "append") && (p1.endLine == p2.line) && notStar a && vis c.sc x && nameOk x) = true then (match ixOf c.N x, r.E c a with
      | some i, some ca => some (.app i ca)
      | _, _ => none)
    else none
  | e => if notComp e = true then (r.E c e).map .expr else none
def cAsgN (r : Rec) (Γ : Gam) (c : Cmp) (x : Str) (p1 : Pos) (e : Expr) : Option CS := match e with
  | .ListComp elt [⟨tg, iter, ifs, a⟩] scope pos => if a = 0 then
      (if swapB c.sc scope x p1 pos = true then (if decide (c.sc.names.lookup x = some .local) = true then (match ixOf c.N x, cComp r Γ c elt tg iter ifs scope with
        | some i, some ce => some (.asg (.name i) ce)
        | _, _ => none) else none)
      else if decide (x ∈ c.loc) = true then (match ixOf c.N x, cComp r Γ c elt tg iter ifs scope with
        | some i, some ce => some (.asg (.name i) ce)
        | _, _ => none) else none) else none
  | e => if (notComp e && decide (x ∈ c.loc)) = true then (match ixOf c.N x, r.E c e with
      | some i, some ce => some (.asg (.name i) ce)
      | _, _ => none) else none
def isLoc (c : Cmp) (x : Str) : Bool := decide (c.sc.names.lookup x = some .local)
def cPar (r : Rec) (c : Cmp) (ts vs : List Expr) : Option CS := match swE c.sc ts vs with
  | some none => (match nameTgs c ts, cA (r.E c) vs with
    | some is, some es => if sizeOk is.length = true then some (.par is es) else none
    | _, _ => none)
  | some (some ns) => (match ts, vs with
    | [.Name x _, .Name y _], [a, b] => if (decide (ns = [x, y]) && isLoc c x && isLoc c y) = true then (match ixOf c.N x, ixOf c.N y, cA (r.E c) [a, b] with
      | some i, some j, some es => if decide (i ≠ j) = true then some (.par [i, j] es) else none
      | _, _, _ => none) else none
    | [.Name x _, .Name y _, .Name z _], [a, b, d] => if (decide (ns = [x, y, z]) && isLoc c x && isLoc c y && isLoc c z) = true then (match ixOf c.N x, ixOf c.N y, ixOf c.N z, cA (r.E c) [a, b, d] with
      | some i, some j, some l, some es => if (decide (i ≠ j) && decide (i ≠ l) && decide (j ≠ l)) = true then some (.par [i, j, l] es) else none
      | _, _, _, _ => none) else none
    | _, _ => none)
  | none => none
def cAsgT (r : Rec) (c : Cmp) (ts : List Expr) (k : Nat) (p : Pos) (e : Expr) : Option CS := match e with
  | .Tuple vs _ _ => cPar r c ts vs
  | e => if isTupE e = true then none else (match cGs (r.G c) ts, r.E c e with
    | some t, some ce => some (.asg (.tup t) ce)
    | _, _ => none)
def cAsg (r : Rec) (Γ : Gam) (c : Cmp) (tg e : Expr) : Option CS := match tg with
  | .Name x p1 => cAsgN r Γ c x p1 e
  | .Tuple ts k p => cAsgT r c ts k p e
  | .Subscript (.Name x _) e1 _ => if (notComp e && !isSl e1 && vis c.sc x && nameOk x) = true then (match ixOf c.N x, r.E c e1, r.E c e with
    | some i, some c1, some ce => some (.asg (.sub i c1) ce)
    | _, _, _ => none) else none
  | _ => none
def cHs : Expr → Option HE
  | .Constant (.str x) _ _ => some (.lit (.str x))
  | .Constant (.int x) _ _ => some (.lit (.int x))
  | .Constant (.bool x) _ _ => some (.lit (.bool x))
  | .Constant .none _ _ => some (.lit .none)
  | _ => none
def stepS (r : Rec) (Γ : Gam) (c : Cmp) (f : Stmt → Option CS) : Stmt → Option CS
  | .Pass _ => some .pass
  | .Break _ => some .brk
  | .Continue _ => some .cont
  | .Return none _ => some .retN
  | .Return (some e) _ => (r.E c e).map .ret
  | .If e a b _ => (match r.B c e, cSs f a, cSs f b with
    | some ce, some ca, some cb => some (.ite ce ca cb)
    | _, _, _ => none)
  | .Expr e _ => cExprS r c e
  | .Assign [tg] e _ => cAsg r Γ c tg e
  | .For tg it body [] _ => if plainIt it = true then (match cI r Γ c tg it, r.G c tg, cSs f body with
    | some ci, some ct, some cb => some (.forr ct ci cb)
    | _, _, _ => none) else none
  | .While e body [] _ => (match r.B c e, cSs f body with
    | some ce, some cb => some (.whil ce cb)
    | _, _ => none)
  | .Raise (some (.Call (.Name x _) [.Constant (.str _) _ _] [] _)) none _ => if glo c.sc x = true then (match Γ.exc x with
    | some (j, false) => some (.rais j false (.lit .none))
    | _ => none) else none
  | .Try body [.ExceptHandler (some (.Name x _)) n [.Return (some e) _] _] [] [] _ => if glo c.sc x = true then (match Γ.exc x, cSs f body, cHs e with
    | some (j, _), some cb, some h => (match n with
      | none => some (.tryy cb [(j, none, h)])
      | some n => if isLoc c n = true then (ixOf c.N n).map fun i => .tryy cb [(j, some i, h)] else none)
    | _, _, _ => none) else none
  | _ => none
def compS (r : Rec) (Γ : Gam) (c : Cmp) : Nat → Stmt → Option CS
  | 0 => fun _ => none
  | n + 1 => stepS r Γ c (compS r Γ c n)
def compF (Γ : Gam) (c : Cmp) (n : Nat) (b : List Stmt) : Option CSs := cSs (compS (comp Γ n) Γ c n) b
section
variable {Z : GD} {Γ : Gam} {lvl : Nat} {c : Cmp} {r : Rec}
theorem cSs_ok {f : Stmt → Option CS} (h : ∀ s cs, f s = some cs → SS Z Γ lvl c s cs) : ∀ {ss : List Stmt} {css : CSs}, cSs f ss = some css → SSs Z Γ lvl c ss css
  | [], css, e => by cases e; exact ss_nil
  | s :: ss, css, e => by
    unfold cSs at e
    split at e
    · rename_i a b e1 e2
      cases e
      exact ss_cons (h _ _ e1) (cSs_ok h e2)
    · cases e
theorem cExprS_ok (h : RecOk Z Γ lvl r) {e : Expr} {cs : CS} {pos : Pos} (q : cExprS r c e = some cs) : SS Z Γ lvl c (.Expr e pos) cs := by
  unfold cExprS at q
  split at q
  · cases q; exact st_doc
  · split at q
    · rename_i hc
      simp only [Bool.and_eq_true, decide_eq_true_eq] at hc
      obtain ⟨⟨⟨⟨h1, h2⟩, h3⟩, h4⟩, h5⟩ := hc
      subst h1
      split at q
      · rename_i i ca e1 e2
        cases q
        exact st_app h2 h3 e1 h4 h5 (h.E _ _ _ e2)
      · cases q
    · cases q
  · split at q
    · rename_i hn
      obtain ⟨x, h1, rfl⟩ := map_some q
      exact st_expr hn (h.E _ _ _ h1)
    · cases q
theorem cComp_parts (h : RecOk Z Γ lvl r) {elt tg iter : Expr} {ifs : List Expr} {scope : Scope} {ce : CE} (q : cComp r Γ c elt tg iter ifs scope = some ce) :
    ∃ own t it cc cx, ce = .comp (own.map (·.2)) t it cc (.done cx) ∧ compC c scope own = true ∧ plainIt iter = true ∧ (slotsOf t).all (fun i => decide (i ∈ own.map (·.2))) = true ∧
      SI Z Γ lvl c tg iter it ∧ SG Z Γ lvl (blkCmp c scope own) tg t ∧ SC Z Γ lvl (blkCmp c scope own) ifs cc ∧ SE Z Γ lvl (blkCmp c scope own) elt cx := by
  unfold cComp at q
  split at q
  · rename_i hc
    have hc := Bool.and_eq_true_iff.mp hc
    split at q
    · rename_i it t cc cx e1 e2 e3 e4
      split at q
      · rename_i hs
        cases q
        exact ⟨_, t, it, cc, cx, rfl, hc.1, hc.2, hs, cI_ok h e1, h.G _ _ _ e2, cC_ok h e3, h.E _ _ _ e4⟩
      · cases q
    · cases q
  · cases q
theorem cAsgN_ok (h : RecOk Z Γ lvl r) {x : Str} {p1 pos : Pos} {e : Expr} {cs : CS} (q : cAsgN r Γ c x p1 e = some cs) : SS Z Γ lvl c (.Assign [.Name x p1] e pos) cs := by
  unfold cAsgN at q
  split at q
  · split at q
    · rename_i ha
      subst ha
      split at q
      · rename_i hsw
        split at q
        · rename_i hl
          split at q
          · rename_i i ce e1 e2
            cases q
            obtain ⟨own, t, it, cc, cx, rfl, h1, h2, h3, h4, h5, h6, h7⟩ := cComp_parts h e2
            exact st_setLc hsw e1 (of_decide_eq_true hl) h1 h2 h3 h4 h5 h6 h7
          · cases q
        · cases q
      · rename_i hsw
        split at q
        · rename_i hl
          split at q
          · rename_i i ce e1 e2
            cases q
            exact st_setLn (by simpa using hsw) e1 (of_decide_eq_true hl) (cComp_ok h e2)
          · cases q
        · cases q
    · cases q
  · split at q
    · rename_i hc
      have hc := Bool.and_eq_true_iff.mp hc
      split at q
      · rename_i i ce e1 e2
        cases q
        exact st_set hc.1 e1 (of_decide_eq_true hc.2) (h.E _ _ _ e2)
      · cases q
    · cases q
theorem cPar_ok (h : RecOk Z Γ lvl r) {ts vs : List Expr} {k k2 : Nat} {p p2 pos : Pos} {cs : CS} (q : cPar r c ts vs = some cs) : SS Z Γ lvl c (.Assign [.Tuple ts k p] (.Tuple vs k2 p2) pos) cs := by
  unfold cPar at q
  split at q
  · rename_i hsw
    split at q
    · rename_i is es e1 e2
      split at q
      · rename_i hz
        cases q
        exact st_parN hsw e1 hz (cA_ok h e2).1
      · cases q
    · cases q
  · rename_i ns hsw
    split at q
    · split at q
      · rename_i hc
        simp only [Bool.and_eq_true, decide_eq_true_eq, isLoc] at hc
        obtain ⟨⟨h1, h2⟩, h3⟩ := hc
        subst h1
        split at q
        · rename_i i j es e1 e2 e3
          split at q
          · rename_i hij
            cases q
            exact st_par2 hsw e1 e2 (of_decide_eq_true hij) h2 h3 (cA_ok h e3).1
          · cases q
        · cases q
      · cases q
    · split at q
      · rename_i hc
        simp only [Bool.and_eq_true, decide_eq_true_eq, isLoc] at hc
        obtain ⟨⟨⟨h1, h2⟩, h3⟩, h4⟩ := hc
        subst h1
        split at q
        · rename_i i j l es e1 e2 e3 e4
          split at q
          · rename_i hij
            simp only [Bool.and_eq_true, decide_eq_true_eq] at hij
            cases q
            exact st_par3 hsw e1 e2 e3 hij.1.1 hij.1.2 hij.2 h2 h3 h4 (cA_ok h e4).1
          · cases q
        · cases q
      · cases q
    · cases q
  · cases q
theorem cAsgT_ok (h : RecOk Z Γ lvl r) {ts : List Expr} {k : Nat} {p pos : Pos} {e : Expr} {cs : CS} (q : cAsgT r c ts k p e = some cs) : SS Z Γ lvl c (.Assign [.Tuple ts k p] e pos) cs := by
  unfold cAsgT at q
  split at q
  · exact cPar_ok h q
  · split at q
    · cases q
    · rename_i hn
      split at q
      · rename_i t ce e1 e2
        cases q
        obtain ⟨a, b, d⟩ := cGs_ok h e1
        exact st_asgT (by cases e <;> first | rfl | exact absurd rfl hn) (.inr trivial) (g_tup b d a) (h.E _ _ _ e2)
      · cases q
theorem cAsg_ok (h : RecOk Z Γ lvl r) {tg e : Expr} {pos : Pos} {cs : CS} (q : cAsg r Γ c tg e = some cs) : SS Z Γ lvl c (.Assign [tg] e pos) cs := by
  unfold cAsg at q
  split at q
  · exact cAsgN_ok h q
  · exact cAsgT_ok h q
  · split at q
    · rename_i hc
      simp only [Bool.and_eq_true] at hc
      obtain ⟨⟨⟨h1, h2⟩, h3⟩, h4⟩ := hc
      split at q
      · rename_i i c1 ce e1 e2 e3
        cases q
        rename_i x p0 e1' p1' _ _ _
        exact st_sub h1 (by cases e1' <;> first | rfl | cases h2) e1 h3 h4 (h.E _ _ _ e2) (h.E _ _ _ e3)
      · cases q
    · cases q
  · cases q
theorem cHs_ok {e : Expr} {as : Option Nat} {h : HE} (q : cHs e = some h) : SHs Z Γ lvl c as e h := by
  unfold cHs at q
  split at q
  · cases q; exact h_str
  · cases q; exact h_int
  · cases q; exact h_bl
  · cases q; exact h_non
  · cases q
theorem stepS_ok (h : RecOk Z Γ lvl r) {f : Stmt → Option CS} (hf : ∀ s cs, f s = some cs → SS Z Γ lvl c s cs) {s : Stmt} {cs : CS} (q : stepS r Γ c f s = some cs) : SS Z Γ lvl c s cs := by
  unfold stepS at q
  split at q
  · cases q; exact st_pass
  · cases q; exact st_break
  · cases q; exact st_cont
  · cases q; exact st_retN
  · obtain ⟨x, h1, rfl⟩ := map_some q
    exact st_ret (h.E _ _ _ h1)
  · split at q
    · rename_i ce ca cb e1 e2 e3
      cases q
      exact st_if (h.B _ _ _ e1) (cSs_ok hf e2) (cSs_ok hf e3)
    · cases q
  · exact cExprS_ok h q
  · exact cAsg_ok h q
  · split at q
    · rename_i hp
      split at q
      · rename_i ci ct cb e1 e2 e3
        cases q
        exact st_for hp (cI_ok h e1) (h.G _ _ _ e2) (cSs_ok hf e3)
      · cases q
    · cases q
  · split at q
    · rename_i ce cb e1 e2
      cases q
      exact st_while (h.B _ _ _ e1) (cSs_ok hf e2)
    · cases q
  · split at q
    · rename_i hg
      split at q
      · rename_i j e1
        cases q
        exact st_raise e1 hg
      · cases q
    · cases q
  · split at q
    · rename_i hg
      split at q
      · rename_i j b cb hh e1 e2 e3
        split at q
        · cases q
          exact st_try e1 hg (cSs_ok hf e2) (cHs_ok e3).top
        · split at q
          · rename_i hl
            obtain ⟨i, h1, rfl⟩ := map_some q
            exact st_tryAs e1 hg h1 (of_decide_eq_true hl) (cSs_ok hf e2) (cHs_ok e3).top
          · cases q
      · cases q
    · cases q
  · cases q
theorem compS_ok (h : RecOk Z Γ lvl r) : ∀ n s cs, compS r Γ c n s = some cs → SS Z Γ lvl c s cs
  | 0, _, _, q => nomatch q
  | n + 1, _, _, q => stepS_ok h (compS_ok h n) q
theorem compF_ok {n : Nat} {b : List Stmt} {css : CSs} (q : compF Γ c n b = some css) : SSs Z Γ lvl c b css := cSs_ok (compS_ok (comp_ok n) n) q
end
end PV

/-! PV5e: defs. -/
namespace PV
open PySem PySem.Spec L2
section
variable {K : Frag} {F B H : Hp} {T : List Root} {σ : L2.St} {ρ : SEnv}
theorem fits_none : ∀ n : Nat, Fits (List.replicate n none) (List.replicate n none)
  | 0 => trivial
  | n + 1 => ⟨fun h => (nomatch h), fits_none n⟩
theorem slots_none : ∀ n : Nat, slotsT (List.replicate n none) (List.replicate n none) = []
  | 0 => rfl
  | n + 1 => slots_none n
theorem fits_start (n : Nat) : ∀ {vs : List V} {args : List (Nat × PV.D)}, vs.length = args.length → Fits (vs.map some ++ List.replicate n none) (args.map some ++ List.replicate n none)
  | [], [], _ => fits_none n
  | v :: vs, a :: args, h => ⟨fun _ => rfl, fits_start n (Nat.succ.inj h)⟩
  | [], _ :: _, h => by cases h
  | _ :: _, [], h => by cases h
theorem slots_start (n : Nat) : ∀ {vs : List V} {args : List (Nat × PV.D)}, vs.length = args.length → slotsT (vs.map some ++ List.replicate n none) (args.map some ++ List.replicate n none) = rootsOf vs args
  | [], [], _ => slots_none n
  | v :: vs, a :: args, h => congrArg ((v, a.1, a.2) :: ·) (slots_start n (Nat.succ.inj h))
  | [], _ :: _, h => by cases h
  | _ :: _, [], h => by cases h
theorem ioSlots_ge {bs : List Bool} : ∀ {n i : Nat}, i ∈ ioSlots n bs → n ≤ i := by
  induction bs with
  | nil => intro n i h; cases h
  | cons b bs ih =>
    intro n i h
    cases b with
    | true =>
      rcases List.mem_cons.mp h with rfl | h
      · exact Nat.le_refl _
      · exact Nat.le_of_succ_le (ih h)
    | false => exact Nat.le_of_succ_le (ih (n := n + 1) h)
theorem getIos_set {i : Nat} {x : Option (Nat × PV.D)} : ∀ {is : List Nat}, i ∉ is → getIos (ρ.set i x) is = getIos ρ is
  | [], _ => rfl
  | j :: is, h => by
    have hj : i ≠ j := fun e => h (e ▸ List.mem_cons_self)
    have ih := getIos_set (x := x) (is := is) fun z => h (List.mem_cons_of_mem _ z)
    unfold getIos
    rw [List.getElem?_set_ne hj, ih]
/-- the io places' values, taken out -/
theorem getIos_ok : ∀ {bs : List Bool} {n : Nat} {vs : List V} {ρ : SEnv} {T : List Root} {ios : List (Nat × PV.D)}, StR K F B H σ ρ T → (∀ i, i ∈ ioSlots n bs → ∀ v, vs[i - n]? = some v → σ[i]? = some (some v)) → bs.length ≤ vs.length → getIos ρ (ioSlots n bs) = some ios →
    ∃ ρ', StR K F B H σ ρ' (rootsOf (ioVs bs vs) ios ++ T)
  | [], n, vs, ρ, T, ios, s, hp, hl, h => by cases h; exact ⟨ρ, by cases vs <;> exact s⟩
  | true :: bs, n, [], ρ, T, ios, s, hp, hl, h => absurd hl (Nat.not_succ_le_zero _)
  | false :: bs, n, [], ρ, T, ios, s, hp, hl, h => absurd hl (Nat.not_succ_le_zero _)
  | false :: bs, n, v :: vs, ρ, T, ios, s, hp, hl, h => by
    obtain ⟨ρ', s'⟩ := getIos_ok (n := n + 1) (vs := vs) s (fun i hi w hw => hp i hi w (by
      have := ioSlots_ge hi
      rw [show i - n = (i - (n + 1)) + 1 by omega]; exact hw)) (Nat.le_of_succ_le_succ hl) h
    exact ⟨ρ', s'⟩
  | true :: bs, n, v :: vs, ρ, T, ios, s, hp, hl, h => by
    have h : getIos ρ (n :: ioSlots (n + 1) bs) = some ios := h
    unfold getIos at h
    split at h
    · rename_i k d e
      obtain ⟨xs, h1, rfl⟩ := map_some h
      have hv := hp n List.mem_cons_self v (by rw [Nat.sub_self]; rfl)
      have s1 := s.takeSlot hv e
      have hn : n ∉ ioSlots (n + 1) bs := fun z => absurd (ioSlots_ge z) (by omega)
      obtain ⟨ρ', s'⟩ := getIos_ok (n := n + 1) (vs := vs) s1 (fun i hi w hw => hp i (List.mem_cons_of_mem _ hi) w (by
        have := ioSlots_ge hi
        rw [show i - n = (i - (n + 1)) + 1 by omega]; exact hw)) (Nat.le_of_succ_le_succ hl) (by rw [getIos_set hn]; exact h1)
      exact ⟨ρ', s'.behind fun U r => r.perm (List.perm_middle.append_right U)⟩
    · cases h
end
/-- a def and what it was compiled to -/
structure DefOk (Z : GD) (Γ : Gam) (K : Frag) (i : Nat) (F : FnC) (x qual : Str) (st : Stmt) (N : List Str) : Prop where
  fun_ : Fun K x qual st (Z.fa i) (Z.fd i)
  scope : FnScope N (Z.ps i) (defScope st)
  np : F.np = (Z.ps i).length
  ns : F.ns = N.length
  io : F.io.length = F.np
  body : ∃ loc n, loc.all (fun y => decide ((defScope st).names.lookup y = some .local) || decide ((defScope st).names.lookup y = some .cell)) = true ∧ compF Γ ⟨N, defScope st, loc, ioSlots 0 F.io⟩ n (defBody st) = some F.body
theorem ioVs_le : ∀ {bs : List Bool} {vs : List V}, (ioVs bs vs).length ≤ vs.length
  | [], [] => Nat.le_refl _
  | [], _ :: _ => Nat.zero_le _
  | true :: bs, [] => Nat.zero_le _
  | false :: bs, [] => Nat.zero_le _
  | true :: bs, v :: vs => Nat.succ_le_succ (ioVs_le (bs := bs) (vs := vs))
  | false :: bs, v :: vs => Nat.le_succ_of_le (ioVs_le (bs := bs) (vs := vs))
section
variable {Z : GD} {Γ : Gam} {P : Program} {w : World} {K : Frag} {mg : Str → Option Value} {base : Heap}
theorem def_ok (facts : Facts Z Γ K mg) {lvl : Nat} (ih : ∀ f F, Z.PG[f]? = some F → FnOk P w K mg base (L2.CX P w) lvl (Z.fa f) (Z.fd f) (Z.ps f) (spOf Z K (run Z.sub Z.PG lvl f) F.np F.io))
    {i : Nat} {F0 : FnC} {x qual : Str} {st : Stmt} {N : List Str} (hF : Z.PG[i]? = some F0) (d : DefOk Z Γ K i F0 x qual st N) :
    FnOk P w K mg base (L2.CX P w) (lvl + 1) (Z.fa i) (Z.fd i) (Z.ps i) (spOf Z K (run Z.sub Z.PG (lvl + 1) i) F0.np F0.io) := by
  obtain ⟨loc, n, hloc, hc⟩ := d.body
  refine d.fun_.okX d.scope (fun vs H Q E h => ?_) fun cdv A outer s H vs Q E hr hsp => ?_
  · obtain ⟨_, _, _, h, _⟩ := h
    rw [h, d.np]
  obtain ⟨F, B, args, hv, ha, r, hm⟩ := hsp
  have ok : OkS Z Γ lvl ⟨N, defScope st, loc, ioSlots 0 F0.io⟩ (fun cls d _ H => E cls d H) (cxOf (L2.CX P w) P w K mg base N qual (defScope st) (Z.fa i) cdv A outer s H E) :=
    { facts := facts
      snd := ih
      N := rfl
      nd := d.scope.nd
      sc := rfl
      loc := fun y hy => by
        have z := List.all_eq_true.mp hloc y hy
        have z := (Bool.or_eq_true_iff.mp z).imp of_decide_eq_true of_decide_eq_true
        exact ⟨z, .inl rfl⟩
      calm := rfl
      room := hr
      tk := takes_of rfl rfl rfl rfl
      hp := passes_of (X := cxOf (L2.CX P w) P w K mg base N qual (defScope st) (Z.fa i) cdv A outer s H E) (K := fun e s'' => L2.CX P w outer H s E e s'') (E₁ := fun e' s'' => L2.CX P w outer H s E e' s'') rfl
      hs := rfl
      hf := rfl
      kind := d.scope.kind }
  refine ⟨_, compF_ok hc _ _ ok, ?_⟩
  have hle : F0.np ≤ N.length := by
    have := congrArg List.length d.scope.pre
    rw [List.length_take, ← d.np] at this
    omega
  have est : L2.start N vs = vs.map some ++ List.replicate (F0.ns - F0.np) none := by
    unfold L2.start
    rw [d.ns, hv]
  have hva : vs.length = args.length := hv.trans ha.symm
  have s0 : StR K F B H (L2.start N vs) (startE F0 args) [] := by
    rw [est]
    unfold startE
    refine ⟨fits_start _ hva, ?_⟩
    rw [slots_start _ hva, List.append_nil]
    exact r
  refine ⟨F, B, startE F0 args, [], s0, ?_⟩
  -- the call's outcome
  have er : run Z.sub Z.PG (lvl + 1) i args = runF whileM Z.sub (sigOf Z.PG) (run Z.sub Z.PG lvl) F0 args := by
    show (match Z.PG[i]? with | some F => runF whileM Z.sub (sigOf Z.PG) (run Z.sub Z.PG lvl) F args | none => none) = _
    rw [hF]
  rw [er] at hm
  unfold runF at hm
  rw [if_pos ha] at hm
  have pins : ∀ {σ' : L2.St}, Pin (ioSlots 0 F0.io) (L2.start N vs) σ' → ∀ j, j ∈ ioSlots 0 F0.io → ∀ v, vs[j - 0]? = some v → σ'[j]? = some (some v) := fun {σ'} pn j hj v hjv => by
    rw [pn j hj, est]
    have hlt : j < vs.length := (List.getElem?_eq_some_iff.mp hjv).1
    rw [List.getElem?_append_left (by rw [List.length_map]; exact hlt), List.getElem?_map]
    rw [Nat.sub_zero] at hjv
    rw [hjv]; rfl
  have hlio : F0.io.length ≤ vs.length := by rw [d.io, hv]; exact Nat.le_refl _
  show AfterS Z K _ F B (ioSlots 0 F0.io) (L2.start N vs) [] _ (denSs ⟨whileM, Z.sub, ioSlots 0 F0.io, sigOf Z.PG, run Z.sub Z.PG lvl⟩ F0.body (startE F0 args))
  cases eb : denSs ⟨whileM, Z.sub, ioSlots 0 F0.io, sigOf Z.PG, run Z.sub Z.PG lvl⟩ F0.body (startE F0 args) with
  | nx ρ =>
    rw [eb] at hm
    simp only at hm
    intro σ' H' s' pn
    cases eg : getIos ρ (ioSlots 0 F0.io) with
    | none => rw [eg] at hm; exact hm.elim
    | some ios =>
      rw [eg] at hm
      obtain ⟨ρ', s2⟩ := getIos_ok s' (pins pn) hlio eg
      refine hm .non H' ?_
      have r2 := s2.own.dropL
      rw [List.append_nil] at r2
      exact Roots.scal r2 fun G => .non
  | rt k dv ρ =>
    rw [eb] at hm
    simp only at hm
    intro v σ' H' s' pn
    cases eg : getIos ρ (ioSlots 0 F0.io) with
    | none => rw [eg] at hm; exact hm.elim
    | some ios =>
      rw [eg] at hm
      obtain ⟨ρ', s2⟩ := getIos_ok s' (pins pn) hlio eg
      refine hm v H' ?_
      have r2 := s2.own.dropL
      exact r2.perm List.perm_append_comm
  | ex e ρ =>
    rw [eb] at hm
    simp only at hm
    intro cl dd σ' H' s' pn x
    cases eg : getIos ρ (ioSlots 0 F0.io) with
    | none => rw [eg] at hm; exact hm.elim
    | some ios =>
      rw [eg] at hm
      obtain ⟨ρ', s2⟩ := getIos_ok s' (pins pn) hlio eg
      refine hm cl dd H' ?_ x
      have r2 := s2.own.dropL
      rw [List.append_nil] at r2
      exact r2
  | bk ρ => rw [eb] at hm; exact hm.elim
  | ct ρ => rw [eb] at hm; exact hm.elim
  | no => rw [eb] at hm; exact hm.elim
/-- all defs of the text -/
theorem all_ok (facts : Facts Z Γ K mg) (hd : ∀ i F, Z.PG[i]? = some F → ∃ x qual st N, DefOk Z Γ K i F x qual st N) : ∀ lvl f F, Z.PG[f]? = some F → FnOk P w K mg base (L2.CX P w) lvl (Z.fa f) (Z.fd f) (Z.ps f) (spOf Z K (run Z.sub Z.PG lvl f) F.np F.io)
  | 0, f, F, hF => ⟨fun vs H Q E h => by obtain ⟨_, _, _, h, _⟩ := h; obtain ⟨x, q, st, N, d⟩ := hd f F hF; rw [h, d.np], fun A outer s H args us vs Q E hr e0 hb r h => by obtain ⟨_, _, _, _, _, _, h⟩ := h; exact h.elim⟩
  | lvl + 1, f, F, hF => by
    obtain ⟨x, q, st, N, d⟩ := hd f F hF
    exact def_ok facts (all_ok facts hd lvl) hF d
end
/-- what the names mean, from tables -/
def mkGam (fns : List Str) (cst : List (Str × D)) (blts : List Str) (exc : List (Str × Nat × Bool)) : Gam where
  fn := ixOf fns
  cst := fun x => (cst.find? fun r => decide (r.1 = x)).map (·.2)
  blt := fun x => blts.any fun y => decide (y = x)
  exc := fun x => (exc.find? fun r => decide (r.1 = x)).map (·.2)
end PV

/-! PV6: from the head's facts to the law's promise. -/
namespace PV
open PySem PySem.Spec L2
def Each {α : Type} (P : α → Prop) : List α → Prop
  | [] => True
  | x :: xs => P x ∧ Each P xs
theorem Each.of {α : Type} {P : α → Prop} : ∀ {l : List α}, Each P l → ∀ x ∈ l, P x
  | x :: xs, h, y, hy => by
    rcases List.mem_cons.mp hy with rfl | hy
    · exact h.1
    · exact Each.of h.2 y hy
def EachI {α : Type} (P : Nat → α → Prop) : Nat → List α → Prop
  | _, [] => True
  | n, x :: xs => P n x ∧ EachI P (n + 1) xs
theorem EachI.of {α : Type} {P : Nat → α → Prop} : ∀ {n : Nat} {l : List α}, EachI P n l → ∀ i x, l[i]? = some x → P (n + i) x
  | n, x :: xs, h, 0, y, e => by
    cases e
    exact h.1
  | n, x :: xs, h, i + 1, y, e => by
    have z := EachI.of h.2 i y e
    rw [show n + (i + 1) = n + 1 + i by omega]
    exact z
/-- a def of the top: where it stands, what it is -/
def FnK (K : Frag) (x : Str) (st : Stmt) (f : Addr) : Prop := PySem.W.nsIn K mainGlobals x = some (some (.ref f)) ∧ PySem.W.keepIn K (.ref f) = true ∧
  ∃ oc od kV dc pm an cd ct sl, K.lookup f = some ⟨oc, od, .func (PySem.W.fnOf x x (defArgs st) (defBody st) (defScope st) .none kV dc pm an cd ct), sl⟩ ∧ PySem.W.codeIn K cd x = true
theorem fnK_mk {K : Frag} {x : Str} {st : Stmt} {f : Addr} {oc : Value} {od an : Option Addr} {sl : Array (Option Value)} {kV dc pm cd ct : Value} (a : PySem.W.nsIn K mainGlobals x = some (some (.ref f)))
    (l : K.lookup f = some ⟨oc, od, .func (PySem.W.fnOf x x (defArgs st) (defBody st) (defScope st) .none kV dc pm an cd ct), sl⟩) (c : PySem.W.codeIn K cd x = true) (k : PySem.W.keepIn K (.ref f) = true) : FnK K x st f :=
  ⟨a, k, oc, od, kV, dc, pm, an, cd, ct, sl, l, c⟩
def fd0 : FuncData := PySem.W.fnOf Str.empty Str.empty (defArgs (.Pass ⟨0, 0, 0, 0⟩)) [] (defScope (.Pass ⟨0, 0, 0, 0⟩)) .none .none .none .none none .none .none
def fdAt (K : Frag) (f : Addr) : FuncData := match K.lookup f with
  | some ⟨_, _, .func fd, _⟩ => fd
  | _ => fd0
theorem FnK.fun_ {K : Frag} {x : Str} {st : Stmt} {f : Addr} (h : FnK K x st f) : Fun K x x st f (fdAt K f) := by
  obtain ⟨a, k, oc, od, kV, dc, pm, an, cd, ct, sl, l, c⟩ := h
  have e : fdAt K f = PySem.W.fnOf x x (defArgs st) (defBody st) (defScope st) .none kV dc pm an cd ct := by unfold fdAt; rw [l]
  rw [e]
  exact fun_mk l c k
/-- a constant of the top, as it stands -/
def repK (K : Frag) : Nat → Value → D → Bool
  | 0, _, _ => false
  | n + 1, u, d => match u, d with
    | .none, .none => true
    | .bool a, .bool b => a == b
    | .int i _, .int j => decide (i = j)
    | .str x _, .str y => decide (x = y)
    | .ref a, .tuple ds => (match K.lookup a with
      | some ⟨.type "tuple", _, .seq its _, _⟩ => decide (its.size ≤ sizeLine) && repKs (repK K n) its.toList ds
      | _ => false)
    | .ref a, .list ds => (match K.lookup a with
      | some ⟨.type "list", none, .seq its _, sl⟩ => decide (its.size ≤ sizeLine) && sl.isEmpty && repKs (repK K n) its.toList ds
      | _ => false)
    | _, _ => false
where repKs (f : Value → D → Bool) : List Value → List D → Bool
  | [], [] => true
  | u :: us, d :: ds => f u d && repKs f us ds
  | _, _ => false
theorem repKs_ok {K : Frag} {f : Value → D → Bool} (hf : ∀ u d, f u d = true → ∃ v, RelV v u ∧ ∀ G, Rep K G v d) : ∀ {us : List Value} {ds : List D}, repK.repKs f us ds = true → ∃ vs, Vals vs us ∧ ∀ G, RepAll K G vs ds
  | [], [], _ => ⟨[], .nil, fun G => .nil⟩
  | u :: us, d :: ds, h => by
    have h := Bool.and_eq_true_iff.mp (show (f u d && repK.repKs f us ds) = true from h)
    obtain ⟨v, r1, r2⟩ := hf u d h.1
    obtain ⟨vs, q1, q2⟩ := repKs_ok hf h.2
    exact ⟨v :: vs, .cons r1 q1, fun G => .cons (r2 G) (q2 G)⟩
  | [], _ :: _, h => by cases h
  | _ :: _, [], h => by cases h
theorem repK_ok {K : Frag} : ∀ (n : Nat) (u : Value) (d : D), repK K n u d = true → ∃ v, RelV v u ∧ ∀ G, Rep K G v d
  | 0, _, _, h => by cases h
  | n + 1, u, d, h => by
    unfold repK at h
    split at h
    · exact ⟨.non, rfl, fun G => .non⟩
    · rename_i a b
      obtain rfl : a = b := by simpa using h
      exact ⟨.bl a, rfl, fun G => .bl a⟩
    · obtain rfl := of_decide_eq_true h
      exact ⟨.int _, ⟨_, rfl⟩, fun G => .int _⟩
    · obtain rfl := of_decide_eq_true h
      exact ⟨.str _, ⟨_, rfl⟩, fun G => .str _⟩
    · rename_i a ds
      split at h
      · rename_i od its m sl hk
        have h := Bool.and_eq_true_iff.mp h
        obtain ⟨vs, q1, q2⟩ := repKs_ok (repK_ok n) h.2
        exact ⟨.ref a, rfl, fun G => .tup (.inr ⟨_, its, m, hk, rfl, rfl, of_decide_eq_true h.1, q1⟩) (q2 G)⟩
      · cases h
    · rename_i a ds
      split at h
      · rename_i its m sl hk
        have h := Bool.and_eq_true_iff.mp h
        have h1 := Bool.and_eq_true_iff.mp h.1
        obtain ⟨vs, q1, q2⟩ := repKs_ok (repK_ok n) h.2
        obtain rfl : sl = #[] := by simpa using h1.2
        have hz : vs.length ≤ sizeLine := by rw [Paired.length q1]; simpa using of_decide_eq_true h1.1
        exact ⟨.ref a, rfl, fun G => .lst (.inr ⟨its.toList, m, by simpa using hk, hz, q1⟩) (q2 G)⟩
      · cases h
    · cases h
def cstK (K : Frag) (x : Str) (d : D) : Bool := match PySem.W.nsIn K mainGlobals x with
  | some (some u) => repK K 8 u d
  | _ => false
theorem cstK_ok {K : Frag} {mg : Str → Option Value} {h : Heap} {x : Str} {d : D} (X : K.In h) (G : h.Ns mainGlobals mg) (c : cstK K x d = true) : ∃ v u, mg x = some u ∧ RelV v u ∧ ∀ G, Rep K G v d := by
  unfold cstK at c
  split at c
  · rename_i u hu
    obtain ⟨v, r1, r2⟩ := repK_ok 8 u d c
    exact ⟨v, u, PySem.W.mg_of X G hu, r1, r2⟩
  · cases c
/-- an error's class of the top -/
structure ExK (K : Frag) (x : Str) (C : Addr) : Prop where
  a : PySem.W.nsIn K mainGlobals x = some (some (.ref C))
  k : PySem.W.keepIn K (.ref C) = true
  q : PySem.W.excIn K C [.type "ValueError", .type "Exception", .type "BaseException", .type "object"] "ValueError.__new__" = true
  b : PySem.W.subIn K (.ref C) (.type "BaseException") = some true
  t : PySem.W.typeIn K (.ref C) = some (.type "type")
/-! ### the promise -/
def spLaw (K : Frag) : Sp := fun vs H Q _ => ∃ (a : Addr) (ns : List Int), vs = [.ref a] ∧ ns.length ≤ 63 ∧ (∀ z ∈ ns, Builtin.Int.intBits z ≤ 1048576) ∧ LsR K H a (ns.map V.int) ∧ ∀ H', Q (.bl true) H'
theorem FnOk.weak {P : Program} {w : World} {K : Frag} {mg : Str → Option Value} {base : Heap} {CX : CXT} {k : Nat} {f : Addr} {fd : FuncData} {ps : List Str} {sp sp' : Sp} (h : FnOk P w K mg base CX k f fd ps sp) (q : ∀ vs H Q E, sp' vs H Q E → sp vs H Q E) : FnOk P w K mg base CX k f fd ps sp' :=
  ⟨fun vs H Q E z => h.len vs H Q E (q _ _ _ _ z), fun A outer s H args us vs Q E hr e0 hb r z => h.run A outer s H args us vs Q E hr e0 hb r (q _ _ _ _ z)⟩
theorem sp_law {Z : GD} {K : Frag} {r : List (Nat × D) → Option CRes} (h : ∀ ns : List Int, ns.length ≤ 63 → (∀ z ∈ ns, Builtin.Int.intBits z ≤ 1048576) → ∃ k ios, r [(0, .list (ns.map .int))] = some (.ret k (.bool true) ios)) :
    ∀ vs H Q E, spLaw K vs H Q E → spOf Z K r 1 [false] vs H Q E := by
  intro vs H Q E ⟨a, ns, e, hl, hb, ls, q⟩
  subst e
  obtain ⟨k, ios, e⟩ := h ns hl hb
  refine ⟨fun _ => none, fun _ => none, [(0, .list (ns.map .int))], rfl, rfl, ?_, ?_⟩
  · refine ⟨H, [] ++ [], fun a o e => (nomatch e), .refl _, fun a o e => (nomatch e), .nil, fun a h => (nomatch h), fun a o e => (nomatch e), ?_⟩
    exact .cons (.frz (.lst ls .ints)) .nil
  · rw [e]
    intro v H' r
    obtain ⟨G, fp, r⟩ := r
    have z := r.full (k := k) (v := v) (d := .bool true) List.mem_cons_self
    cases z
    exact q H'
theorem walk_pv {l : PySem.W.OpenLaw} {k : Nat} {q : Program} {loose : List Str} {XP : (Str → Option Value) → Heap → Prop} {YP : World → Heap → Prop} {d : DefRec} {K : Params → Frag}
    (hn : l.most = some 63) (hdf : d.params.defaults = []) (hr : Room k callerA) (hY : ∀ (w : World) (h : Heap), YP w h → (K w.params).In h)
    (F : ∀ (w : World) (mg : Str → Option Value) (fa : Addr) (h : Heap), (K w.params).In h → h.Ns mainGlobals mg → mg d.name = some (.ref fa) →
      ∃ fd : FuncData, (∀ (s : Shared) (u : Value), BindsTo s fd ⟨[u], []⟩ [(("script" : Str), u)]) ∧ ∀ base : Heap, (K w.params).In base → base.Ns mainGlobals mg → FnOk l.prog w (K w.params) mg base (L2.CX l.prog w) k fa fd ["script"] (spLaw (K w.params))) :
    PySem.W.WalkO q loose XP YP l.row.toRowW d [] (fun f vs => PySem.call f vs) := by
  refine Att.attach_callB hn hdf fun w s₀ s₁ mg mb fa o pm cd doc a vs ns G Y ho hd hcd hmg hobj hints hlen hbits hg => ?_
  have KX := hY w _ Y
  obtain ⟨fd, hb, hF⟩ := F w mg fa _ KX G.T.g hmg
  refine law_call KX G.T.g G.T.b G.T.builtins G.T.nolimit hg hobj hints (Nat.le_trans hlen (by decide)) hr hF hb (fun H hO hS => ⟨a, ns, rfl, hlen, hbits, ?_, fun _ => rfl⟩) fun H e s' z => ?_
  · rcases hS with hS | ⟨o', its, n, hk, hc, hd', hs, hz, r⟩
    · exact .inl hS
    · have e := KX a o' hk
      rw [hobj] at e
      cases e
      have ed : vs.toArray = its := by injection hs
      subst ed
      exact .inr ⟨vs, _, hk, by rw [Paired.length r]; simpa using hz, by simpa using r⟩
  · obtain ⟨_, _, _, _, _, _, _, _, _, _, _, _, z⟩ := z
    exact z.elim
/-! ### all together -/
structure DefR where
  x : Str
  st : Stmt
  N : List Str
  ps : List Str
  F : FnC
structure Tab where
  defs : List DefR
  cst : List (Str × D)
  blts : List Str
  exc : List (Str × Nat × Bool)
  sub : List (List Bool)
def Tab.gam (t : Tab) : Gam := mkGam (t.defs.map (·.x)) t.cst t.blts t.exc
def Tab.P (t : Tab) : Prog := t.defs.map (·.F)
def Tab.subF (t : Tab) (i j : Nat) : Bool := ((t.sub[i]?.getD [])[j]?).getD false
def Tab.gd (t : Tab) (K : Frag) (fa : List Addr) (cs : List Addr) : GD where
  xr := fun e cl d H => e.c < cs.length ∧ cl = .ref ((cs[e.c]?).getD 0) ∧ match e.v with
    | none => d = none
    | some v => ∃ dx w, d = some dx ∧ H dx = some (.xd [("at", w)]) ∧ isFlat v = true ∧ ∀ G, Rep K G w v
  xv := fun j => .ref ((cs[j]?).getD 0)
  xf := fun _ => "at"
  sub := t.subF
  nc := cs.length
  PG := t.P
  fa := fun i => (fa[i]?).getD 0
  fd := fun i => fdAt K ((fa[i]?).getD 0)
  ps := fun i => ((t.defs[i]?).map (·.ps)).getD []
/-- what is asked of a def, apart from the written part -/
structure DefT (t : Tab) (r : DefR) : Prop where
  scope : FnScope r.N r.ps (defScope r.st)
  np : r.F.np = r.ps.length
  ns : r.F.ns = r.N.length
  io : r.F.io.length = r.F.np
  binds : ∀ (kV doc pm : Value) (an : Option Addr) (cdv ct : Value) (us : List Value), us.length = r.ps.length → bindArgs (PySem.W.fnOf r.x r.x (defArgs r.st) (defBody r.st) (defScope r.st) .none kV doc pm an cdv ct) ⟨us, []⟩ = pure (r.ps.zip us)
  body : ∃ loc n, loc.all (fun y => decide ((defScope r.st).names.lookup y = some .local) || decide ((defScope r.st).names.lookup y = some .cell)) = true ∧ compF t.gam ⟨r.N, defScope r.st, loc, ioSlots 0 r.F.io⟩ n (defBody r.st) = some r.F.body
/-- what is asked of the written part -/
structure KOk (t : Tab) (K : Frag) (fa cs : List Addr) : Prop where
  fns : EachI (fun i r => FnK K r.x r.st ((fa[i]?).getD 0)) 0 t.defs
  cst : Each (fun r => cstK K r.1 r.2 = true) t.cst
  blts : Each (fun x => PySem.W.nsIn K mainGlobals x = some none) t.blts
  exc : Each (fun r => r.2.1 < cs.length ∧ (r.1 == ("__debug__" : Str)) = false ∧ ExK K r.1 ((cs[r.2.1]?).getD 0)) t.exc
  sub : ((List.range cs.length).all fun i => (List.range cs.length).all fun j => PySem.W.exmOne K (.ref ((cs[i]?).getD 0)) (.ref ((cs[j]?).getD 0)) == some (t.subF i j)) = true
theorem find_mem {α β : Type} [DecidableEq α] {l : List (α × β)} {x : α} {b : β} (h : (l.find? fun r => decide (r.1 = x)).map (·.2) = some b) : (x, b) ∈ l := by
  obtain ⟨r, h1, rfl⟩ := map_some h
  have h3 : r.1 = x := of_decide_eq_true (List.find?_some (p := fun r : α × β => decide (r.1 = x)) h1)
  rw [← h3]
  exact List.mem_of_find?_eq_some h1
theorem kOk_facts {t : Tab} {K : Frag} {mg : Str → Option Value} {h : Heap} {fa cs : List Addr} (X : K.In h) (G : h.Ns mainGlobals mg) (k : KOk t K fa cs) (ht : Each (DefT t) t.defs) : Facts (t.gd K fa cs) t.gam K mg where
  fn := fun x f e => by
    have e1 := ixOf_get (show ixOf (t.defs.map (·.x)) x = some f from e)
    rw [List.getElem?_map] at e1
    obtain ⟨r, h1, rfl⟩ := map_some e1
    have hk := EachI.of k.fns f r h1
    rw [Nat.zero_add] at hk
    have d := Each.of ht r (List.mem_of_getElem? h1)
    refine ⟨PySem.W.mg_of X G hk.1, hk.2.1, ?_, r.F, ?_, d.io⟩
    · have b := hk.fun_.binds (ps := r.ps) d.binds
      show L2.Binds K (fdAt K ((fa[f]?).getD 0)) (((t.defs[f]?).map (·.ps)).getD []) []
      rw [h1]
      exact b
    · show (t.defs.map (·.F))[f]? = some r.F
      rw [List.getElem?_map, h1]; rfl
  cst := fun x d e => cstK_ok X G (Each.of k.cst _ (find_mem e))
  blt := fun x e => by
    obtain ⟨y, hy, he⟩ := List.any_eq_true.mp (show (t.blts.any fun y => decide (y = x)) = true from e)
    obtain rfl := of_decide_eq_true he
    exact PySem.W.mg_none_of X G (Each.of k.blts y hy)
  exc := fun x j b e => by
    obtain ⟨h1, h2, h3⟩ := Each.of k.exc _ (find_mem (β := Nat × Bool) e)
    exact ⟨h1, h2, .inl (PySem.W.mg_of X G h3.a)⟩
  subs := fun i j hi hj => by
    have h1 := List.all_eq_true.mp k.sub i (List.mem_range.mpr hi)
    have h2 := List.all_eq_true.mp h1 j (List.mem_range.mpr hj)
    exact (beq_iff_eq.mp h2)
  own := fun x j e => by
    obtain ⟨h1, h2, h3⟩ := Each.of k.exc _ (find_mem (β := Nat × Bool) e)
    refine ⟨_, _, _, _, (cs[j]?).getD 0, rfl, PySem.W.mg_of X G h3.a, PySem.F.excBase_ValueError, h3.q, h3.k, fun M h kk => ⟨PySem.W.looks_subIn kk h3.b, PySem.W.looks_typeIn kk h3.t⟩⟩
  xr := fun e cl d H => Iff.rfl
theorem tab_ok {t : Tab} {P : Program} {w : World} {K : Frag} {mg : Str → Option Value} {h : Heap} {fa cs : List Addr} {f : Addr} {i lvl : Nat} {r : DefR} (X : K.In h) (G : h.Ns mainGlobals mg) (hf : mg r.x = some (.ref f)) (k : KOk t K fa cs) (ht : Each (DefT t) t.defs)
    (hi : t.defs[i]? = some r) (hp : r.ps = [("script" : Str)]) (hnp : r.F.np = 1) (hio : r.F.io = [false])
    (law : ∀ ns : List Int, ns.length ≤ 63 → (∀ z ∈ ns, Builtin.Int.intBits z ≤ 1048576) → ∃ k ios, run t.subF t.P lvl i [(0, .list (ns.map .int))] = some (.ret k (.bool true) ios)) :
    ∃ fd : FuncData, (∀ (s : Shared) (u : Value), BindsTo s fd ⟨[u], []⟩ [(("script" : Str), u)]) ∧ ∀ base : Heap, K.In base → base.Ns mainGlobals mg → FnOk P w K mg base (L2.CX P w) lvl f fd ["script"] (spLaw K) := by
  have hk := EachI.of k.fns i r hi
  rw [Nat.zero_add] at hk
  have ef : f = (fa[i]?).getD 0 := by
    have e := hf.symm.trans (PySem.W.mg_of X G hk.1)
    cases e; rfl
  subst ef
  have d := Each.of ht r (List.mem_of_getElem? hi)
  have hF : (t.gd K fa cs).PG[i]? = some r.F := by
    show (t.defs.map (·.F))[i]? = some r.F
    rw [List.getElem?_map, hi]; rfl
  refine ⟨fdAt K ((fa[i]?).getD 0), fun s u => ?_, fun base _ _ => ?_⟩
  · obtain ⟨_, _, oc, od, kV, dc, pm, an, cd, ct, sl, l, c⟩ := hk
    have e : fdAt K ((fa[i]?).getD 0) = PySem.W.fnOf r.x r.x (defArgs r.st) (defBody r.st) (defScope r.st) .none kV dc pm an cd ct := by unfold fdAt; rw [l]
    rw [e]
    have b := d.binds kV dc pm an cd ct [u] (by rw [hp]; rfl)
    rw [hp] at b
    exact .of_eq b
  · have ok := all_ok (Z := t.gd K fa cs) (Γ := t.gam) (P := P) (w := w) (base := base) (kOk_facts X G k ht) (fun j F hj => by
      have hj' : (t.defs.map (·.F))[j]? = some F := hj
      rw [List.getElem?_map] at hj'
      obtain ⟨q, h1, rfl⟩ := map_some hj'
      have hq := EachI.of k.fns j q h1
      rw [Nat.zero_add] at hq
      have dq := Each.of ht q (List.mem_of_getElem? h1)
      have eps : (t.gd K fa cs).ps j = q.ps := by show (((t.defs[j]?).map (·.ps)).getD []) = q.ps; rw [h1]; rfl
      exact ⟨q.x, q.x, q.st, q.N, hq.fun_, by rw [eps]; exact dq.scope, by rw [eps]; exact dq.np, dq.ns, dq.io, dq.body⟩) lvl i r.F hF
    have eps : (t.gd K fa cs).ps i = [("script" : Str)] := by show (((t.defs[i]?).map (·.ps)).getD []) = _; rw [hi]; exact hp
    rw [eps, hnp, hio] at ok
    exact FnOk.weak ok (sp_law law)
end PV

/-! PV7: reckoning with denotations. -/
namespace PV
open PySem PySem.Spec L2
/-! ### texts -/
def txs (zs : List Str) : List D := zs.map PyData.str
def lst (zs : List Str) : D := .list (txs zs)
def tpl (zs : List Str) : D := .tuple (txs zs)
theorem shaped_str {x : Str} (h : PyData.strOk x = true) : SeqAt.shaped (.str x) = true := by
  unfold SeqAt.shaped PyData.canLay0 PyData.depth
  rw [h]; rfl
theorem shaped_int (x : Int) : SeqAt.shaped (.int x) = true := by unfold SeqAt.shaped PyData.canLay0 PyData.depth; rfl
theorem shaped_bool (x : Bool) : SeqAt.shaped (.bool x) = true := by unfold SeqAt.shaped PyData.canLay0 PyData.depth; rfl
theorem shaped_none : SeqAt.shaped .none = true := by unfold SeqAt.shaped PyData.canLay0 PyData.depth; rfl
theorem lay_txs : ∀ {zs : List Str}, (∀ z ∈ zs, PyData.strOk z = true) → PyData.canLayAll0 (txs zs) = true ∧ PyData.depthAll (txs zs) = 0
  | [], _ => by
    constructor
    · unfold txs PyData.canLayAll0; rfl
    · unfold txs PyData.depthAll; rfl
  | z :: zs, h => by
    obtain ⟨a, b⟩ := lay_txs (zs := zs) fun y hy => h y (List.mem_cons_of_mem _ hy)
    have e : txs (z :: zs) = .str z :: txs zs := rfl
    rw [e]
    constructor
    · unfold PyData.canLayAll0 PyData.canLay0
      rw [a, h z List.mem_cons_self]; rfl
    · unfold PyData.depthAll PyData.depth
      rw [b]; rfl
theorem shaped_lst {zs : List Str} (h : ∀ z ∈ zs, PyData.strOk z = true) : SeqAt.shaped (lst zs) = true := by
  obtain ⟨a, b⟩ := lay_txs h
  unfold SeqAt.shaped lst PyData.canLay0 PyData.depth
  rw [a, b]; rfl
theorem shaped_tpl {zs : List Str} (h : ∀ z ∈ zs, PyData.strOk z = true) : SeqAt.shaped (tpl zs) = true := by
  obtain ⟨a, b⟩ := lay_txs h
  unfold SeqAt.shaped tpl PyData.canLay0 PyData.depth
  rw [a, b]; rfl
theorem eqv_str (x y : Str) : PyData.eqv (.str x) (.str y) = (x == y) := by unfold PyData.eqv; rfl
theorem eqv_int (x y : Int) : PyData.eqv (.int x) (.int y) = (x == y) := by unfold PyData.eqv; rfl
theorem eqv_bool (x y : Bool) : PyData.eqv (.bool x) (.bool y) = (x == y) := by unfold PyData.eqv; rfl
theorem any_strs (zs : List Str) (x : Str) : ((txs zs).any fun z => PyData.eqv z (.str x)) = decide (x ∈ zs) := by
  induction zs with
  | nil => rfl
  | cons y ys ih =>
    show (PyData.eqv (.str y) (.str x) || ((txs ys).any fun z => PyData.eqv z (.str x))) = _
    rw [ih, eqv_str]
    by_cases h : x = y
    · subst h; simp
    · have h' : (y == x) = false := by simpa using fun e => h e.symm
      rw [h', Bool.false_or]
      simp [h]
/-! ### turns with what stays true -/
theorem turns_ex {α : Type} {f : α → D → M α} {g : α → D → α} {I : List D → α → SEnv → Prop} : ∀ {xs : List D} {a : α} {ρ : SEnv}, I xs a ρ → (∀ x xs a ρ, I (x :: xs) a ρ → ∃ ρ', f a x ρ = .ok (g a x) ρ' ∧ I xs (g a x) ρ') → ∃ ρ', turns f xs a ρ = .ok (xs.foldl g a) ρ' ∧ I [] (xs.foldl g a) ρ'
  | [], a, ρ, h, _ => ⟨ρ, rfl, h⟩
  | x :: xs, a, ρ, h, q => by
    obtain ⟨ρ1, e1, h1⟩ := q x xs a ρ h
    obtain ⟨ρ2, e2, h2⟩ := turns_ex h1 q
    refine ⟨ρ2, ?_, h2⟩
    show M.bind (f a x) (fun b => turns f xs b) ρ = _
    unfold M.bind
    rw [e1]
    exact e2
/-- a loop in which each turn goes on -/
theorem forL_ex {f : D → MS} {I : List D → SEnv → Prop} : ∀ {xs : List D} {ρ : SEnv}, I xs ρ → (∀ x xs ρ, I (x :: xs) ρ → ∃ ρ', (f x ρ = .nx ρ' ∨ f x ρ = .ct ρ') ∧ I xs ρ') → ∃ ρ', forL f xs ρ = .nx ρ' ∧ I [] ρ'
  | [], ρ, h, _ => ⟨ρ, rfl, h⟩
  | x :: xs, ρ, h, q => by
    obtain ⟨ρ1, e1, h1⟩ := q x xs ρ h
    obtain ⟨ρ2, e2, h2⟩ := forL_ex h1 q
    refine ⟨ρ2, ?_, h2⟩
    show (match f x ρ with | .nx ρ' => forL f xs ρ' | .ct ρ' => forL f xs ρ' | .bk ρ' => .nx ρ' | r => r) = _
    rcases e1 with e1 | e1 <;> rw [e1] <;> exact e2
/-- a loop that may return -/
theorem forL_find {f : D → MS} {I : SEnv → Prop} {p : D → Bool} {r : D → SEnv → RS} {ρ0 : SEnv} : ∀ {xs : List D} {ρ : SEnv}, I ρ → (∀ x ρ, x ∈ xs → I ρ → if p x = true then ∃ ρ', f x ρ = r x ρ' ∧ I ρ' else ∃ ρ', f x ρ = .nx ρ' ∧ I ρ') → (∀ x ρ, ∃ k d ρ', r x ρ = .rt k d ρ') →
    match xs.find? p with
    | some x => ∃ ρ', forL f xs ρ = r x ρ' ∧ I ρ'
    | none => ∃ ρ', forL f xs ρ = .nx ρ' ∧ I ρ'
  | [], ρ, h, _, _ => ⟨ρ, rfl, h⟩
  | x :: xs, ρ, h, q, hr => by
    have z := q x ρ List.mem_cons_self h
    have step : forL f (x :: xs) ρ = (match f x ρ with | .nx ρ' => forL f xs ρ' | .ct ρ' => forL f xs ρ' | .bk ρ' => .nx ρ' | r => r) := rfl
    cases hp : p x with
    | true =>
      rw [hp, if_pos rfl] at z
      obtain ⟨ρ', e, i⟩ := z
      rw [List.find?_cons_of_pos hp]
      refine ⟨ρ', ?_, i⟩
      rw [step, e]
      obtain ⟨k, d, ρ2, e2⟩ := hr x ρ'
      rw [e2]
    | false =>
      rw [hp, if_neg Bool.false_ne_true] at z
      obtain ⟨ρ', e, i⟩ := z
      rw [List.find?_cons_of_neg (by rw [hp]; exact Bool.false_ne_true)]
      have ih := forL_find (f := f) (I := I) (p := p) (r := r) (ρ0 := ρ0) i (fun y ρ hy => q y ρ (List.mem_cons_of_mem _ hy)) hr
      rw [step, e]
      exact ih
/-! ### calls -/
theorem run_of {t : Tab} {n i : Nat} {r : DefR} (h : t.defs[i]? = some r) (args : List (Nat × D)) : PV.run t.subF t.P (n + 1) i args = runF whileM t.subF (sigOf t.P) (PV.run t.subF t.P n) r.F args := by
  show (match t.P[i]? with | some F => runF whileM t.subF (sigOf t.P) (PV.run t.subF t.P n) F args | none => none) = _
  have e : t.P[i]? = some r.F := by unfold Tab.P; rw [List.getElem?_map, h]; rfl
  rw [e]
/-! ### ends of lists -/
theorem at_last {α : Type} (xs : List α) : atI xs (-1) = xs.getLast? := by
  unfold atI ixN
  rw [if_neg (by decide)]
  cases xs with
  | nil => rfl
  | cons x xs =>
    have e : (-1 + ((x :: xs).length : Int)).toNat = xs.length := by
      rw [List.length_cons]; omega
    rw [if_pos (by rw [List.length_cons]; omega), e]
    show (x :: xs)[xs.length]? = _
    rw [List.getLast?_eq_getElem?]; rfl
theorem cut_last {α : Type} (xs : List α) : cutD xs none (some (-1)) = xs.dropLast := by
  unfold cutD HT.sIx
  show (xs.drop 0).take ((if (-1 : Int) < 0 then (-1 + (xs.length : Int)).toNat else min (-1 : Int).toNat xs.length) - 0) = _
  rw [if_pos (by decide), List.drop_zero, List.dropLast_eq_take]
  congr 1
  omega
theorem at_nat {α : Type} (xs : List α) (i : Nat) : atI xs (i : Int) = xs[i]? := by
  unfold atI ixN
  rw [if_pos (Int.natCast_nonneg i)]
  by_cases h : i < xs.length
  · rw [if_pos (by omega)]
    show xs[(i : Int).toNat]? = _
    rw [Int.toNat_natCast]
  · rw [if_neg (by omega)]
    exact (List.getElem?_eq_none (Nat.le_of_not_lt h)).symm
/-! ### steps -/
theorem seq_nx {a b : MS} {ρ ρ' : SEnv} (h : a ρ = .nx ρ') : MS.seq a b ρ = b ρ' := by unfold MS.seq; rw [h]
theorem seq_rt {a b : MS} {ρ ρ' : SEnv} {k : Nat} {d : D} (h : a ρ = .rt k d ρ') : MS.seq a b ρ = .rt k d ρ' := by unfold MS.seq; rw [h]
theorem seq_ex {a b : MS} {ρ ρ' : SEnv} {e : Ex} (h : a ρ = .ex e ρ') : MS.seq a b ρ = .ex e ρ' := by unfold MS.seq; rw [h]
theorem of_ok {α : Type} {m : M α} {f : α → MS} {ρ ρ' : SEnv} {a : α} (h : m ρ = .ok a ρ') : MS.of m f ρ = f a ρ' := by unfold MS.of; rw [h]
theorem of_ex {α : Type} {m : M α} {f : α → MS} {ρ ρ' : SEnv} {e : Ex} (h : m ρ = .ex e ρ') : MS.of m f ρ = .ex e ρ' := by unfold MS.of; rw [h]
theorem bind_at {α β : Type} {m : M α} {f : α → M β} {ρ ρ' : SEnv} {a : α} (h : m ρ = .ok a ρ') : M.bind m f ρ = f a ρ' := by unfold M.bind; rw [h]
section
variable {t : Tab} {n i : Nat} {r : DefR} {args : List (Nat × D)} {ρ : SEnv} {ios : List (Nat × D)}
theorem call_rt {k : Nat} {d : D} (h : t.defs[i]? = some r) (hl : args.length = r.F.np) (e : denSs ⟨whileM, t.subF, ioSlots 0 r.F.io, sigOf t.P, PV.run t.subF t.P n⟩ r.F.body (startE r.F args) = .rt k d ρ) (g : getIos ρ (ioSlots 0 r.F.io) = some ios) :
    PV.run t.subF t.P (n + 1) i args = some (.ret k d ios) := by
  rw [run_of h]
  unfold runF
  rw [if_pos hl, e]
  show (getIos ρ _).map _ = _
  rw [g]; rfl
theorem call_nx (h : t.defs[i]? = some r) (hl : args.length = r.F.np) (e : denSs ⟨whileM, t.subF, ioSlots 0 r.F.io, sigOf t.P, PV.run t.subF t.P n⟩ r.F.body (startE r.F args) = .nx ρ) (g : getIos ρ (ioSlots 0 r.F.io) = some ios) :
    PV.run t.subF t.P (n + 1) i args = some (.ret 0 .none ios) := by
  rw [run_of h]
  unfold runF
  rw [if_pos hl, e]
  show (getIos ρ _).map _ = _
  rw [g]; rfl
theorem call_ex {x : Ex} (h : t.defs[i]? = some r) (hl : args.length = r.F.np) (e : denSs ⟨whileM, t.subF, ioSlots 0 r.F.io, sigOf t.P, PV.run t.subF t.P n⟩ r.F.body (startE r.F args) = .ex x ρ) (g : getIos ρ (ioSlots 0 r.F.io) = some ios) :
    PV.run t.subF t.P (n + 1) i args = some (.exc x ios) := by
  rw [run_of h]
  unfold runF
  rw [if_pos hl, e]
  show (getIos ρ _).map _ = _
  rw [g]; rfl
end
end PV

/-! PV8: what all laws draw. -/
namespace PV
open PySem PySem.Spec L2
theorem eq_int (a b : Int) : cmpop .eq (.int a) (.int b) = some (a == b) := by
  show (if (SeqAt.shaped (.int a) && SeqAt.shaped (.int b)) = true then some (PyData.eqv (.int a) (.int b)) else none) = _
  rw [shaped_int, shaped_int, eqv_int]; rfl
theorem lt_int (a b : Int) : cmpop .lt (.int a) (.int b) = some (decide (a < b)) := rfl
/-- the state of the draws -/
def drawD (cells : List Int) (i cur seed : Int) : D := .list [.list (cells.map .int), .int i, .int cur, .int seed]
structure DrawOk (cells : List Int) (i cur seed : Int) : Prop where
  c : ∀ z ∈ cells, 0 ≤ z
  i : -1 ≤ i
  cur : 0 ≤ cur
  s0 : 0 ≤ seed
  s1 : seed < 2147483647
def takeB : CSs := (.cons (.ite (.cmp .eq (.idx (.var 0) (.lit (.int 2))) (.lit (.int 0))) (.cons (.asg (.sub 0 (.lit (.int 1))) (.bin .add (.idx (.var 0) (.lit (.int 1))) (.lit (.int 1)))) (.cons (.ite (.cmp .lt (.idx (.var 0) (.lit (.int 1))) (.blt .len (.cons (.idx (.var 0) (.lit (.int 0))) .nil))) (.cons (.asg (.sub 0 (.lit (.int 2))) (.idx (.idx (.var 0) (.lit (.int 0))) (.idx (.var 0) (.lit (.int 1))))) .nil) .nil) (.cons (.ite (.cmp .eq (.idx (.var 0) (.lit (.int 2))) (.lit (.int 0))) (.cons (.asg (.sub 0 (.lit (.int 3))) (.bin .mod (.blt .int (.cons (.bin .add (.bin .mul (.idx (.var 0) (.lit (.int 3))) (.lit (.int 48271))) (.lit (.int 11))) .nil)) (.lit (.int 2147483647)))) (.cons (.asg (.sub 0 (.lit (.int 2))) (.idx (.var 0) (.lit (.int 3)))) .nil)) .nil) .nil))) .nil) (.cons (.asg (.name 2) (.bin .mod (.blt .int (.cons (.idx (.var 0) (.lit (.int 2))) .nil)) (.var 1))) (.cons (.asg (.sub 0 (.lit (.int 2))) (.bin .fdiv (.idx (.var 0) (.lit (.int 2))) (.var 1))) (.cons (.ret (.var 2)) .nil))))
def tkAt (k : Nat) (cells : List Int) (i cur seed many : Int) (f : Option (Nat × D)) : SEnv := [some (k + 1, drawD cells i cur seed), some (0, .int many), f]
section
variable {X : Env0} {k : Nat} {cells : List Int} {i cur seed many : Int} {f : Option (Nat × D)}
theorem lv1 (k : Nat) : min (k + 1) 1 = 1 := by omega
theorem tk_cur (X : Env0) (hio : X.io = [0]) : denE X (.idx (.var 0) (.lit (.int 2))) (tkAt k cells i cur seed many f) = .ok (.pv 0 (.int cur)) (tkAt 0 cells i cur seed many f) := by
  show (M.bind (rd 0) fun s => M.bind (M.pure (.pv 0 (.int 2))) fun t => M.bind (bors [s, t]) _) _ = _
  show RE.ok (TV.pv 0 (.int cur)) [some (min (k + 1) 1, drawD cells i cur seed), some (0, .int many), f] = _
  rw [lv1]; rfl
theorem tk_test (X : Env0) : denT X (.cmp .eq (.idx (.var 0) (.lit (.int 2))) (.lit (.int 0))) (tkAt k cells i cur seed many f) = .ok (cur == 0) (tkAt 0 cells i cur seed many f) := by
  show M.opt (cmpop .eq (.int cur) (.int 0)) [some (min (k + 1) 1, drawD cells i cur seed), some (0, .int many), f] = _
  rw [eq_int, lv1]; rfl
theorem tk_next (X : Env0) : denS X (.asg (.sub 0 (.lit (.int 1))) (.bin .add (.idx (.var 0) (.lit (.int 1))) (.lit (.int 1)))) (tkAt 0 cells i cur seed many f) = .nx (tkAt 0 cells (i + 1) cur seed many f) := rfl
theorem tk_lt (X : Env0) : denT X (.cmp .lt (.idx (.var 0) (.lit (.int 1))) (.blt .len (.cons (.idx (.var 0) (.lit (.int 0))) .nil))) (tkAt 0 cells i cur seed many f) = .ok (decide (i < ((cells.map PyData.int).length : Int))) (tkAt 0 cells i cur seed many f) := rfl
theorem tk_cell (X : Env0) {c : Int} (h : L2.atI (cells.map PyData.int) i = some (.int c)) : denS X (.asg (.sub 0 (.lit (.int 2))) (.idx (.idx (.var 0) (.lit (.int 0))) (.idx (.var 0) (.lit (.int 1))))) (tkAt 0 cells i cur seed many f) = .nx (tkAt 0 cells i c seed many f) := by
  have e : denE X (.idx (.idx (.var 0) (.lit (.int 0))) (.idx (.var 0) (.lit (.int 1)))) (tkAt 0 cells i cur seed many f) = .ok (.pv 0 (.int c)) (tkAt 0 cells i cur seed many f) := by
    show M.opt ((L2.atI (cells.map PyData.int) i).map (TV.pv 0)) (tkAt 0 cells i cur seed many f) = _
    rw [h]; rfl
  rw [denS, of_ok e]; rfl
theorem tk_seed (X : Env0) (h : mulOk seed 48271 = true) : denS X (.asg (.sub 0 (.lit (.int 3))) (.bin .mod (.blt .int (.cons (.bin .add (.bin .mul (.idx (.var 0) (.lit (.int 3))) (.lit (.int 48271))) (.lit (.int 11))) .nil)) (.lit (.int 2147483647)))) (tkAt 0 cells i cur seed many f) = .nx (tkAt 0 cells i cur ((seed * 48271 + 11).fmod 2147483647) many f) := by
  have e1 : denE X (.bin .mul (.idx (.var 0) (.lit (.int 3))) (.lit (.int 48271))) (tkAt 0 cells i cur seed many f) = .ok (.pv 0 (.int (seed * 48271))) (tkAt 0 cells i cur seed many f) := by
    show lit2 (if mulOk seed 48271 = true then some (0, .int (seed * 48271)) else none) (tkAt 0 cells i cur seed many f) = _
    rw [if_pos h]; rfl
  have e2 : denE X (.bin .mod (.blt .int (.cons (.bin .add (.bin .mul (.idx (.var 0) (.lit (.int 3))) (.lit (.int 48271))) (.lit (.int 11))) .nil)) (.lit (.int 2147483647))) (tkAt 0 cells i cur seed many f) = .ok (.pv 0 (.int ((seed * 48271 + 11).fmod 2147483647))) (tkAt 0 cells i cur seed many f) := by
    have e3 : denE X (.blt .int (.cons (.bin .add (.bin .mul (.idx (.var 0) (.lit (.int 3))) (.lit (.int 48271))) (.lit (.int 11))) .nil)) (tkAt 0 cells i cur seed many f) = .ok (.pv 0 (.int (seed * 48271 + 11))) (tkAt 0 cells i cur seed many f) := by
      have e4 : denE X (.bin .add (.bin .mul (.idx (.var 0) (.lit (.int 3))) (.lit (.int 48271))) (.lit (.int 11))) (tkAt 0 cells i cur seed many f) = .ok (.pv 0 (.int (seed * 48271 + 11))) (tkAt 0 cells i cur seed many f) := by
        rw [denE, bind_at e1]; rfl
      have e5 : denA X (.cons (.bin .add (.bin .mul (.idx (.var 0) (.lit (.int 3))) (.lit (.int 48271))) (.lit (.int 11))) .nil) (tkAt 0 cells i cur seed many f) = .ok [.pv 0 (.int (seed * 48271 + 11))] (tkAt 0 cells i cur seed many f) := by
        rw [denA, bind_at e4]; rfl
      rw [denE, bind_at e5]; rfl
    rw [denE, bind_at e3]; rfl
  rw [denS, of_ok e2]; rfl
theorem tk_copy (X : Env0) : denS X (.asg (.sub 0 (.lit (.int 2))) (.idx (.var 0) (.lit (.int 3)))) (tkAt 0 cells i cur seed many f) = .nx (tkAt 0 cells i seed seed many f) := rfl
theorem tk_found (X : Env0) (hio : X.io = [0]) (h : decide (many ≠ 0) = true) : denS X (.asg (.name 2) (.bin .mod (.blt .int (.cons (.idx (.var 0) (.lit (.int 2))) .nil)) (.var 1))) (tkAt k cells i cur seed many f) = .nx (tkAt 0 cells i cur seed many (some (0, .int (cur.fmod many)))) := by
  have e0 : denE X (.blt .int (.cons (.idx (.var 0) (.lit (.int 2))) .nil)) (tkAt k cells i cur seed many f) = .ok (.pv 0 (.int cur)) (tkAt 0 cells i cur seed many f) := by
    show RE.ok (TV.pv 0 (.int cur)) [some (min (k + 1) 1, drawD cells i cur seed), some (0, .int many), f] = _
    rw [lv1]; rfl
  have e : denE X (.bin .mod (.blt .int (.cons (.idx (.var 0) (.lit (.int 2))) .nil)) (.var 1)) (tkAt k cells i cur seed many f) = .ok (.pv 0 (.int (cur.fmod many))) (tkAt 0 cells i cur seed many f) := by
    rw [denE, bind_at e0]
    show lit2 (if decide (many ≠ 0) = true then some (0, .int (cur.fmod many)) else none) (tkAt 0 cells i cur seed many f) = _
    rw [if_pos h]; rfl
  rw [denS, of_ok e]
  unfold storeT
  rw [hio]; rfl
theorem tk_left (X : Env0) (h : divOk many = true) : denS X (.asg (.sub 0 (.lit (.int 2))) (.bin .fdiv (.idx (.var 0) (.lit (.int 2))) (.var 1))) (tkAt 0 cells i cur seed many f) = .nx (tkAt 0 cells i (cur.fdiv many) seed many f) := by
  have e : denE X (.bin .fdiv (.idx (.var 0) (.lit (.int 2))) (.var 1)) (tkAt 0 cells i cur seed many f) = .ok (.pv 0 (.int (cur.fdiv many))) (tkAt 0 cells i cur seed many f) := by
    show lit2 (if divOk many = true then some (0, .int (cur.fdiv many)) else none) (tkAt 0 cells i cur seed many f) = _
    rw [if_pos h]; rfl
  rw [denS, of_ok e]; rfl
theorem mul_small {n : Int} (h0 : 0 ≤ n) (h1 : n < 2147483647) : mulOk n 48271 = true := by
  unfold mulOk
  refine decide_eq_true ?_
  have h2 : n.natAbs < 2 ^ 31 := by omega
  have h3 : n.natAbs.log2 < 31 := by
    by_cases e : n.natAbs = 0
    · rw [e]; decide
    · exact (Nat.log2_lt e).mpr h2
  have h4 : (48271 : Int).natAbs.log2 < 20 := by decide
  omega
theorem ite_at {X : Env0} {c : CB} {a b : CSs} {ρ ρ' : SEnv} {v : Bool} (h : denT X c ρ = .ok v ρ') : denS X (.ite c a b) ρ = if v = true then denSs X a ρ' else denSs X b ρ' := by
  rw [denS, of_ok h]
  cases v <;> rfl
theorem cons_at {X : Env0} {s : CS} {ss : CSs} {ρ ρ' : SEnv} (h : denS X s ρ = .nx ρ') : denSs X (.cons s ss) ρ = denSs X ss ρ' := by
  rw [denSs, seq_nx h]
theorem nil_at {X : Env0} {ρ : SEnv} : denSs X .nil ρ = .nx ρ := by rw [denSs]
theorem one_at {X : Env0} {s : CS} {ρ ρ' : SEnv} (h : denS X s ρ = .nx ρ') : denSs X (.cons s .nil) ρ = .nx ρ' := by rw [cons_at h, nil_at]
theorem take_ok (X : Env0) (hio : X.io = [0]) (ok : DrawOk cells i cur seed) (m1 : 1 ≤ many) (m2 : divOk many = true) :
    ∃ i' cur' seed' v, DrawOk cells i' cur' seed' ∧ 0 ≤ v ∧ v < many ∧ denSs X takeB (tkAt k cells i cur seed many f) = .rt 9 (.int v) (tkAt 0 cells i' cur' seed' many (some (0, .int v))) := by
  -- the first statement
  have first : ∃ i' cur' seed', DrawOk cells i' cur' seed' ∧ denS X (.ite (.cmp .eq (.idx (.var 0) (.lit (.int 2))) (.lit (.int 0))) (.cons (.asg (.sub 0 (.lit (.int 1))) (.bin .add (.idx (.var 0) (.lit (.int 1))) (.lit (.int 1)))) (.cons (.ite (.cmp .lt (.idx (.var 0) (.lit (.int 1))) (.blt .len (.cons (.idx (.var 0) (.lit (.int 0))) .nil))) (.cons (.asg (.sub 0 (.lit (.int 2))) (.idx (.idx (.var 0) (.lit (.int 0))) (.idx (.var 0) (.lit (.int 1))))) .nil) .nil) (.cons (.ite (.cmp .eq (.idx (.var 0) (.lit (.int 2))) (.lit (.int 0))) (.cons (.asg (.sub 0 (.lit (.int 3))) (.bin .mod (.blt .int (.cons (.bin .add (.bin .mul (.idx (.var 0) (.lit (.int 3))) (.lit (.int 48271))) (.lit (.int 11))) .nil)) (.lit (.int 2147483647)))) (.cons (.asg (.sub 0 (.lit (.int 2))) (.idx (.var 0) (.lit (.int 3)))) .nil)) .nil) .nil))) .nil) (tkAt k cells i cur seed many f) = .nx (tkAt 0 cells i' cur' seed' many f) := by
    rw [ite_at (tk_test X)]
    by_cases h0 : (cur == 0) = true
    · rw [if_pos h0, cons_at (tk_next X)]
      have i1 := ok.i
      -- a cell, if there is one
      have second : ∃ cur', 0 ≤ cur' ∧ denS X (.ite (.cmp .lt (.idx (.var 0) (.lit (.int 1))) (.blt .len (.cons (.idx (.var 0) (.lit (.int 0))) .nil))) (.cons (.asg (.sub 0 (.lit (.int 2))) (.idx (.idx (.var 0) (.lit (.int 0))) (.idx (.var 0) (.lit (.int 1))))) .nil) .nil) (tkAt 0 cells (i + 1) cur seed many f) = .nx (tkAt 0 cells (i + 1) cur' seed many f) := by
        rw [ite_at (tk_lt X)]
        by_cases hl : decide (i + 1 < ((cells.map PyData.int).length : Int)) = true
        · rw [if_pos hl]
          have hl := of_decide_eq_true hl
          rw [List.length_map] at hl
          obtain ⟨m, hm⟩ : ∃ m : Nat, i + 1 = (m : Int) := ⟨(i + 1).toNat, by omega⟩
          rw [hm] at hl ⊢
          have hn : m < cells.length := by omega
          have ha : L2.atI (cells.map PyData.int) (m : Int) = some (.int cells[m]) := by
            rw [at_nat, List.getElem?_map, List.getElem?_eq_getElem hn]
            rfl
          exact ⟨_, ok.c _ (List.getElem_mem hn), one_at (tk_cell X ha)⟩
        · rw [if_neg hl]
          exact ⟨cur, ok.cur, nil_at⟩
      obtain ⟨c1, hc1, e2⟩ := second
      rw [cons_at e2]
      have e3 := tk_test (k := 0) (cells := cells) (i := i + 1) (cur := c1) (seed := seed) (many := many) (f := f) X
      by_cases h1 : (c1 == 0) = true
      · refine ⟨i + 1, (seed * 48271 + 11).fmod 2147483647, (seed * 48271 + 11).fmod 2147483647, ⟨ok.c, by omega, ?_, ?_, ?_⟩, ?_⟩
        · exact Int.fmod_nonneg_of_pos _ (by decide)
        · exact Int.fmod_nonneg_of_pos _ (by decide)
        · exact Int.fmod_lt_of_pos _ (by decide)
        · refine one_at ?_
          rw [ite_at e3, if_pos h1, cons_at (tk_seed X (mul_small ok.s0 ok.s1))]
          exact one_at (tk_copy X)
      · refine ⟨i + 1, c1, seed, ⟨ok.c, by omega, hc1, ok.s0, ok.s1⟩, one_at ?_⟩
        rw [ite_at e3, if_neg h1, nil_at]
    · rw [if_neg h0]
      exact ⟨i, cur, seed, ok, nil_at⟩
  obtain ⟨i1, c1, s1, ok1, e1⟩ := first
  refine ⟨i1, c1.fdiv many, s1, c1.fmod many, ⟨ok1.c, ok1.i, Int.fdiv_nonneg ok1.cur (by omega), ok1.s0, ok1.s1⟩, Int.fmod_nonneg_of_pos _ (by omega), Int.fmod_lt_of_pos _ (by omega), ?_⟩
  unfold takeB
  rw [cons_at e1, cons_at (tk_found X hio (decide_eq_true (by omega))), cons_at (tk_left X m2)]
  rfl
end
/-! ### the first draw -/
def drawB : CSs := (.cons (.asg (.name 1) (.lit (.int 7))) (.cons (.forr (.name 2) (.seq (.var 0)) (.cons (.asg (.name 1) (.bin .mod (.blt .int (.cons (.bin .add (.bin .add (.bin .mul (.var 1) (.lit (.int 48271))) (.bin .mod (.blt .abs (.cons (.blt .int (.cons (.var 2) .nil)) .nil)) (.lit (.int 65521)))) (.lit (.int 1))) .nil)) (.lit (.int 2147483647)))) .nil)) (.cons (.ret (.lst (.cons (.comp [2] (.name 2) (.seq (.var 0)) .none (.done (.blt .abs (.cons (.blt .int (.cons (.var 2) .nil)) .nil)))) (.cons (.un .neg (.lit (.int 1))) (.cons (.lit (.int 0)) (.cons (.var 1) .nil)))))) .nil)))
def absI (i : Int) : Int := if i < 0 then -i else i
def absD : D → D
  | .int i => .int (absI i)
  | _ => .none
theorem absI_nonneg (i : Int) : 0 ≤ absI i := by unfold absI; split <;> omega
def dwAt (ns : List Int) (seed : Int) (c : Option (Nat × D)) : SEnv := [some (0, .list (ns.map .int)), some (0, .int seed), c]
def nextSeed (seed c : Int) : Int := (seed * 48271 + (absI c).fmod 65521 + 1).fmod 2147483647
theorem dw_turn (X : Env0) (hio : X.io = []) {ns : List Int} {seed c : Int} (h : mulOk seed 48271 = true) :
    denSs X (.cons (.asg (.name 1) (.bin .mod (.blt .int (.cons (.bin .add (.bin .add (.bin .mul (.var 1) (.lit (.int 48271))) (.bin .mod (.blt .abs (.cons (.blt .int (.cons (.var 2) .nil)) .nil)) (.lit (.int 65521)))) (.lit (.int 1))) .nil)) (.lit (.int 2147483647)))) .nil) (dwAt ns seed (some (0, .int c))) = .nx (dwAt ns (nextSeed seed c) (some (0, .int c))) := by
  have e1 : denE X (.bin .mul (.var 1) (.lit (.int 48271))) (dwAt ns seed (some (0, .int c))) = .ok (.pv 0 (.int (seed * 48271))) (dwAt ns seed (some (0, .int c))) := by
    show lit2 (if mulOk seed 48271 = true then some (0, .int (seed * 48271)) else none) (dwAt ns seed (some (0, .int c))) = _
    rw [if_pos h]; rfl
  have e2 : denE X (.bin .add (.bin .mul (.var 1) (.lit (.int 48271))) (.bin .mod (.blt .abs (.cons (.blt .int (.cons (.var 2) .nil)) .nil)) (.lit (.int 65521)))) (dwAt ns seed (some (0, .int c))) = .ok (.pv 0 (.int (seed * 48271 + (absI c).fmod 65521))) (dwAt ns seed (some (0, .int c))) := by
    rw [denE, bind_at e1]; rfl
  have e3 : denE X (.bin .add (.bin .add (.bin .mul (.var 1) (.lit (.int 48271))) (.bin .mod (.blt .abs (.cons (.blt .int (.cons (.var 2) .nil)) .nil)) (.lit (.int 65521)))) (.lit (.int 1))) (dwAt ns seed (some (0, .int c))) = .ok (.pv 0 (.int (seed * 48271 + (absI c).fmod 65521 + 1))) (dwAt ns seed (some (0, .int c))) := by
    rw [denE, bind_at e2]; rfl
  have e4 : denA X (.cons (.bin .add (.bin .add (.bin .mul (.var 1) (.lit (.int 48271))) (.bin .mod (.blt .abs (.cons (.blt .int (.cons (.var 2) .nil)) .nil)) (.lit (.int 65521)))) (.lit (.int 1))) .nil) (dwAt ns seed (some (0, .int c))) = .ok [.pv 0 (.int (seed * 48271 + (absI c).fmod 65521 + 1))] (dwAt ns seed (some (0, .int c))) := by
    rw [denA, bind_at e3]; rfl
  have e5 : denE X (.blt .int (.cons (.bin .add (.bin .add (.bin .mul (.var 1) (.lit (.int 48271))) (.bin .mod (.blt .abs (.cons (.blt .int (.cons (.var 2) .nil)) .nil)) (.lit (.int 65521)))) (.lit (.int 1))) .nil)) (dwAt ns seed (some (0, .int c))) = .ok (.pv 0 (.int (seed * 48271 + (absI c).fmod 65521 + 1))) (dwAt ns seed (some (0, .int c))) := by
    rw [denE, bind_at e4]; rfl
  refine one_at ?_
  have e6 : denE X (.bin .mod (.blt .int (.cons (.bin .add (.bin .add (.bin .mul (.var 1) (.lit (.int 48271))) (.bin .mod (.blt .abs (.cons (.blt .int (.cons (.var 2) .nil)) .nil)) (.lit (.int 65521)))) (.lit (.int 1))) .nil)) (.lit (.int 2147483647))) (dwAt ns seed (some (0, .int c))) = .ok (.pv 0 (.int (nextSeed seed c))) (dwAt ns seed (some (0, .int c))) := by
    rw [denE, bind_at e5]; rfl
  rw [denS, of_ok e6]
  unfold storeT
  rw [hio]; rfl
theorem dw_loop (X : Env0) (hio : X.io = []) {ns : List Int} : ∀ (cs : List Int) (seed : Int) (c : Option (Nat × D)), 0 ≤ seed → seed < 2147483647 → (c = none ∨ ∃ x, c = some (0, .int x)) → ∃ seed' c', 0 ≤ seed' ∧ seed' < 2147483647 ∧ (c' = none ∨ ∃ x, c' = some (0, .int x)) ∧
    forL (fun x => MS.of (bindN X (.name 2) x) fun _ => denSs X (.cons (.asg (.name 1) (.bin .mod (.blt .int (.cons (.bin .add (.bin .add (.bin .mul (.var 1) (.lit (.int 48271))) (.bin .mod (.blt .abs (.cons (.blt .int (.cons (.var 2) .nil)) .nil)) (.lit (.int 65521)))) (.lit (.int 1))) .nil)) (.lit (.int 2147483647)))) .nil)) (cs.map PyData.int) (dwAt ns seed c) = .nx (dwAt ns seed' c')
  | [], seed, c, h0, h1, hc => ⟨seed, c, h0, h1, hc, rfl⟩
  | x :: cs, seed, c, h0, h1, _ => by
    have e0 : bindN X (.name 2) (.int x) (dwAt ns seed c) = .ok () (dwAt ns seed (some (0, .int x))) := by
      unfold bindN
      rw [hio]; rfl
    obtain ⟨s2, c2, g0, g1, g2, e⟩ := dw_loop X hio cs (nextSeed seed x) (some (0, .int x)) (Int.fmod_nonneg_of_pos _ (by decide)) (Int.fmod_lt_of_pos _ (by decide)) (.inr ⟨x, rfl⟩)
    refine ⟨s2, c2, g0, g1, g2, ?_⟩
    rw [List.map_cons, forL]
    simp only [of_ok e0, dw_turn X hio (mul_small h0 h1)]
    exact e
theorem dw_abs (X : Env0) (hio : X.io = []) {ns : List Int} {seed : Int} {c : Option (Nat × D)} (hl : ns.length ≤ 63) (hc : still (dwAt ns seed c) [2] = true) :
    denE X (.comp [2] (.name 2) (.seq (.var 0)) .none (.done (.blt .abs (.cons (.blt .int (.cons (.var 2) .nil)) .nil)))) (dwAt ns seed c) = .ok (.pv 9 (.list ((ns.map absI).map PyData.int))) (dwAt ns seed c) := by
  have step : ∀ x xs (a : Nat × List D) ρ, (ρ = dwAt ns seed none ∧ a.1 = 9 ∧ a.2.length + (x :: xs).length ≤ 63 ∧ ∃ l : List Int, x :: xs = l.map PyData.int) →
      ∃ ρ', turnM [2] (bindN X (.name 2) x) (denC X .none) (denG X (.done (.blt .abs (.cons (.blt .int (.cons (.var 2) .nil)) .nil))) a) a ρ = .ok (9, a.2 ++ [absD x]) ρ' ∧
        ρ' = dwAt ns seed none ∧ (9 : Nat) = 9 ∧ (a.2 ++ [absD x]).length + xs.length ≤ 63 ∧ ∃ l : List Int, xs = l.map PyData.int := by
    rintro x xs ⟨a1, a2⟩ ρ ⟨rfl, rfl, hle, l, hx⟩
    cases l with
    | nil => cases hx
    | cons i l =>
      cases hx
      refine ⟨_, ?_, rfl, rfl, ?_, l, rfl⟩
      · have hz : sizeOk (a2.length + 1) = true := decide_eq_true (by
          have : (100 : Nat) ≤ sizeLine := by decide
          have hle : a2.length + (l.length + 1) ≤ 63 := by simpa using hle
          omega)
        have e0 : bindN X (.name 2) (.int i) (dwAt ns seed none) = .ok () (dwAt ns seed (some (0, .int i))) := by
          unfold bindN
          rw [hio]; rfl
        unfold turnM
        rw [bind_at e0]
        show RE.well ((if sizeOk (a2.length + 1) = true then M.pure (min 9 (9 + 1), a2 ++ [.int (absI i)]) else M.no) (dwAt ns seed (some (0, .int i)))) _ = _
        rw [if_pos hz]; rfl
      · have hle : a2.length + (l.length + 1) ≤ 63 := by simpa using hle
        simp only [List.length_append, List.length_singleton, List.length_map]
        omega
  have fold : ∀ (l : List Int) (a : List D), (l.map PyData.int).foldl (fun (a : Nat × List D) x => ((9 : Nat), a.2 ++ [absD x])) (9, a) = (9, a ++ (l.map absI).map PyData.int) := by
    intro l
    induction l with
    | nil => intro a; simp
    | cons i l ih => intro a; rw [List.map_cons, List.foldl_cons, ih]; simp [List.append_assoc, absD]
  obtain ⟨ρ', e, h, _⟩ := turns_ex (f := fun acc x => turnM [2] (bindN X (.name 2) x) (denC X .none) (denG X (.done (.blt .abs (.cons (.blt .int (.cons (.var 2) .nil)) .nil))) acc) acc)
    (g := fun a x => (9, a.2 ++ [absD x])) (I := fun xs a ρ => ρ = dwAt ns seed none ∧ a.1 = 9 ∧ a.2.length + xs.length ≤ 63 ∧ ∃ l : List Int, xs = l.map PyData.int)
    (xs := ns.map PyData.int) (a := (9, [])) (ρ := dwAt ns seed none) ⟨rfl, rfl, by simpa using hl, ns, rfl⟩ step
  have hi : denI X (.seq (.var 0)) (dwAt ns seed c) = .ok (ns.map PyData.int) (dwAt ns seed c) := rfl
  rw [denE, bind_at hi]
  rw [if_pos hc]
  show RE.well (turns _ (ns.map PyData.int) (9, []) (dwAt ns seed none)) _ = _
  rw [e, fold, h]
  cases c with
  | none => rfl
  | some x => obtain ⟨a, b⟩ := x; rfl
theorem draw_ok (X : Env0) (hio : X.io = []) (ns : List Int) (hl : ns.length ≤ 63) : ∃ seed ρ, DrawOk (ns.map absI) (-1) 0 seed ∧ denSs X drawB [some (0, .list (ns.map .int)), none, none] = .rt 9 (drawD (ns.map absI) (-1) 0 seed) ρ := by
  have h1 : denS X (.asg (.name 1) (.lit (.int 7))) [some (0, .list (ns.map .int)), none, none] = .nx (dwAt ns 7 none) := by
    rw [denS]
    show MS.of (M.bind (item X.io (.pv 0 (.int 7))) fun x => setSlot X.io 1 x.1 x.2) _ _ = _
    rw [hio]; rfl
  obtain ⟨seed, c, h2, h3, hc, e⟩ := dw_loop X hio (ns := ns) ns 7 none (by decide) (by decide) (.inl rfl)
  have hst : still (dwAt ns seed c) [2] = true := by
    rcases hc with rfl | ⟨x, rfl⟩ <;> rfl
  have ha := dw_abs X hio (seed := seed) (c := c) hl hst
  refine ⟨seed, dwAt ns seed c, ⟨fun z hz => ?_, by decide, by decide, h2, h3⟩, ?_⟩
  · obtain ⟨y, _, rfl⟩ := List.mem_map.mp hz
    exact absI_nonneg y
  · unfold drawB
    rw [cons_at h1]
    have hi : denI X (.seq (.var 0)) (dwAt ns 7 none) = .ok (ns.map PyData.int) (dwAt ns 7 none) := rfl
    rw [cons_at (ρ' := dwAt ns seed c) (by rw [denS, of_ok hi]; exact e)]
    have hA : denA X (.cons (.comp [2] (.name 2) (.seq (.var 0)) .none (.done (.blt .abs (.cons (.blt .int (.cons (.var 2) .nil)) .nil)))) (.cons (.un .neg (.lit (.int 1))) (.cons (.lit (.int 0)) (.cons (.var 1) .nil)))) (dwAt ns seed c) =
        .ok [.pv 9 (.list ((ns.map absI).map PyData.int)), .pv 0 (.int (-1)), .pv 0 (.int 0), .pv 0 (.int seed)] (dwAt ns seed c) := by
      rw [denA, bind_at ha]; rfl
    have hE : denE X (.lst (.cons (.comp [2] (.name 2) (.seq (.var 0)) .none (.done (.blt .abs (.cons (.blt .int (.cons (.var 2) .nil)) .nil)))) (.cons (.un .neg (.lit (.int 1))) (.cons (.lit (.int 0)) (.cons (.var 1) .nil))))) (dwAt ns seed c) = .ok (.pv 9 (drawD (ns.map absI) (-1) 0 seed)) (dwAt ns seed c) := by
      rw [denE, bind_at hA]; rfl
    rw [denSs]
    refine seq_rt ?_
    rw [denS]
    unfold MS.of
    rw [bind_at hE]; rfl
end PV

/-! PV9: calls that hand values over. -/
namespace PV
open PySem PySem.Spec L2
def outs (vs : List (Nat × D)) : List TV := vs.map fun v => .pv v.1 v.2
def args0 (vs : List (Nat × D)) : List (Nat × D) := vs.map fun v => (0, v.2)
theorem pass_pv (io : List Nat) (ρ : SEnv) : ∀ vs : List (Nat × D), passIn io (vs.map fun _ => false) (outs vs) ρ = .ok (args0 vs) ρ
  | [] => rfl
  | v :: vs => by
    show M.bind (frz io (.pv v.1 v.2)) (fun d => (passIn io (vs.map fun _ => false) (outs vs)).bind fun r => M.pure ((0, d) :: r)) ρ = _
    have h : frz io (.pv v.1 v.2) ρ = .ok v.2 ρ := rfl
    rw [bind_at h, bind_at (pass_pv io ρ vs)]; rfl
theorem back_pv (ios : List (Nat × D)) (ρ : SEnv) : ∀ vs : List (Nat × D), putBack (vs.map fun _ => false) (outs vs) ios ρ = ρ
  | [] => by unfold putBack; rfl
  | v :: vs => back_pv ios ρ vs
theorem call_pv {X : Env0} {f : Nat} {es : CEs} {vs : List (Nat × D)} {ρ ρ' : SEnv} {k : Nat} {d : D} {ios : List (Nat × D)} (hs : X.sig f = vs.map fun _ => false) (h : denA X es ρ = .ok (outs vs) ρ') (g : X.φ f (args0 vs) = some (.ret k d ios)) :
    denE X (.call f es) ρ = .ok (.pv k d) ρ' := by
  rw [denE, bind_at h]
  unfold callM
  rw [hs]
  simp only [pass_pv, g, back_pv]
theorem call_pvx {X : Env0} {f : Nat} {es : CEs} {vs : List (Nat × D)} {ρ ρ' : SEnv} {e : Ex} {ios : List (Nat × D)} (hs : X.sig f = vs.map fun _ => false) (h : denA X es ρ = .ok (outs vs) ρ') (g : X.φ f (args0 vs) = some (.exc e ios)) :
    denE X (.call f es) ρ = .ex e ρ' := by
  rw [denE, bind_at h]
  unfold callM
  rw [hs]
  simp only [pass_pv, g, back_pv]
theorem sig_of {t : Tab} {i : Nat} {r : DefR} (h : t.defs[i]? = some r) : sigOf t.P i = r.F.io := by
  have e : t.P[i]? = some r.F := by unfold Tab.P; rw [List.getElem?_map, h]; rfl
  unfold sigOf
  rw [e]
theorem args_nil {X : Env0} {ρ : SEnv} : denA X .nil ρ = .ok [] ρ := by rw [denA]; rfl
theorem args_cons {X : Env0} {e : CE} {es : CEs} {t : TV} {ts : List TV} {ρ ρ1 ρ2 : SEnv} (h : denE X e ρ = .ok t ρ1) (g : denA X es ρ1 = .ok ts ρ2) : denA X (.cons e es) ρ = .ok (t :: ts) ρ2 := by
  rw [denA, bind_at h, bind_at g]; rfl
end PV

/-! Lk05: the cores of the defs, tied to the text. -/
namespace Lk05
open PySem PySem.Spec L2 PV
def top (i : Nat) : Stmt :=
  PySem.Challenge.pw_foldkinds_k05_arrows_of_kinds.main.body.getD i (.Pass ⟨0, 0, 0, 0⟩)
def g_WORDS : PyData :=
  (.tuple [(.str ("tiny" : PySem.Str) : PyData), (.str ("grp" : PySem.Str) : PyData), (.str ("com" : PySem.Str) : PyData), (.str ("idem" : PySem.Str) : PyData), (.str ("unit" : PySem.Str) : PyData), (.str ("zero" : PySem.Str) : PyData), (.str ("lcan" : PySem.Str) : PyData), (.str ("rcan" : PySem.Str) : PyData), (.str ("sel" : PySem.Str) : PyData), (.str ("left" : PySem.Str) : PyData), (.str ("right" : PySem.Str) : PyData), (.str ("const" : PySem.Str) : PyData), (.str ("flex" : PySem.Str) : PyData), (.str ("pow" : PySem.Str) : PyData), (.str ("born" : PySem.Str) : PyData), (.str ("alike" : PySem.Str) : PyData), (.str ("sq" : PySem.Str) : PyData), (.str ("apart" : PySem.Str) : PyData)] : PyData)
def g_ARROWS : PyData :=
  (.tuple [(.tuple [(.str ("tiny" : PySem.Str) : PyData), (.str ("left" : PySem.Str) : PyData)] : PyData), (.tuple [(.str ("tiny" : PySem.Str) : PyData), (.str ("right" : PySem.Str) : PyData)] : PyData), (.tuple [(.str ("tiny" : PySem.Str) : PyData), (.str ("const" : PySem.Str) : PyData)] : PyData), (.tuple [(.str ("tiny" : PySem.Str) : PyData), (.str ("unit" : PySem.Str) : PyData)] : PyData), (.tuple [(.str ("tiny" : PySem.Str) : PyData), (.str ("born" : PySem.Str) : PyData)] : PyData), (.tuple [(.str ("grp" : PySem.Str) : PyData), (.str ("flex" : PySem.Str) : PyData)] : PyData), (.tuple [(.str ("com" : PySem.Str) : PyData), (.str ("flex" : PySem.Str) : PyData)] : PyData), (.tuple [(.str ("idem" : PySem.Str) : PyData), (.str ("pow" : PySem.Str) : PyData)] : PyData), (.tuple [(.str ("idem" : PySem.Str) : PyData), (.str ("sq" : PySem.Str) : PyData)] : PyData), (.tuple [(.str ("sel" : PySem.Str) : PyData), (.str ("idem" : PySem.Str) : PyData)] : PyData), (.tuple [(.str ("sel" : PySem.Str) : PyData), (.str ("flex" : PySem.Str) : PyData)] : PyData), (.tuple [(.str ("left" : PySem.Str) : PyData), (.str ("grp" : PySem.Str) : PyData)] : PyData), (.tuple [(.str ("left" : PySem.Str) : PyData), (.str ("rcan" : PySem.Str) : PyData)] : PyData), (.tuple [(.str ("left" : PySem.Str) : PyData), (.str ("sel" : PySem.Str) : PyData)] : PyData), (.tuple [(.str ("left" : PySem.Str) : PyData), (.str ("alike" : PySem.Str) : PyData)] : PyData), (.tuple [(.str ("left" : PySem.Str) : PyData), (.str ("apart" : PySem.Str) : PyData)] : PyData), (.tuple [(.str ("right" : PySem.Str) : PyData), (.str ("grp" : PySem.Str) : PyData)] : PyData), (.tuple [(.str ("right" : PySem.Str) : PyData), (.str ("lcan" : PySem.Str) : PyData)] : PyData), (.tuple [(.str ("right" : PySem.Str) : PyData), (.str ("sel" : PySem.Str) : PyData)] : PyData), (.tuple [(.str ("right" : PySem.Str) : PyData), (.str ("alike" : PySem.Str) : PyData)] : PyData), (.tuple [(.str ("right" : PySem.Str) : PyData), (.str ("apart" : PySem.Str) : PyData)] : PyData), (.tuple [(.str ("const" : PySem.Str) : PyData), (.str ("grp" : PySem.Str) : PyData)] : PyData), (.tuple [(.str ("const" : PySem.Str) : PyData), (.str ("com" : PySem.Str) : PyData)] : PyData), (.tuple [(.str ("const" : PySem.Str) : PyData), (.str ("zero" : PySem.Str) : PyData)] : PyData), (.tuple [(.str ("flex" : PySem.Str) : PyData), (.str ("pow" : PySem.Str) : PyData)] : PyData), (.tuple [(.str ("alike" : PySem.Str) : PyData), (.str ("sq" : PySem.Str) : PyData)] : PyData)] : PyData)
def g_JOINT_ARROWS : PyData :=
  (.tuple [(.tuple [(.str ("born" : PySem.Str) : PyData), (.str ("grp" : PySem.Str) : PyData), (.str ("com" : PySem.Str) : PyData)] : PyData), (.tuple [(.str ("alike" : PySem.Str) : PyData), (.str ("grp" : PySem.Str) : PyData), (.str ("apart" : PySem.Str) : PyData)] : PyData), (.tuple [(.str ("apart" : PySem.Str) : PyData), (.str ("grp" : PySem.Str) : PyData), (.str ("alike" : PySem.Str) : PyData)] : PyData), (.tuple [(.str ("com" : PySem.Str) : PyData), (.str ("lcan" : PySem.Str) : PyData), (.str ("rcan" : PySem.Str) : PyData)] : PyData), (.tuple [(.str ("com" : PySem.Str) : PyData), (.str ("rcan" : PySem.Str) : PyData), (.str ("lcan" : PySem.Str) : PyData)] : PyData), (.tuple [(.str ("apart" : PySem.Str) : PyData), (.str ("com" : PySem.Str) : PyData), (.str ("tiny" : PySem.Str) : PyData)] : PyData), (.tuple [(.str ("born" : PySem.Str) : PyData), (.str ("idem" : PySem.Str) : PyData), (.str ("tiny" : PySem.Str) : PyData)] : PyData), (.tuple [(.str ("const" : PySem.Str) : PyData), (.str ("sq" : PySem.Str) : PyData), (.str ("tiny" : PySem.Str) : PyData)] : PyData), (.tuple [(.str ("alike" : PySem.Str) : PyData), (.str ("unit" : PySem.Str) : PyData), (.str ("tiny" : PySem.Str) : PyData)] : PyData), (.tuple [(.str ("apart" : PySem.Str) : PyData), (.str ("unit" : PySem.Str) : PyData), (.str ("tiny" : PySem.Str) : PyData)] : PyData), (.tuple [(.str ("const" : PySem.Str) : PyData), (.str ("unit" : PySem.Str) : PyData), (.str ("tiny" : PySem.Str) : PyData)] : PyData), (.tuple [(.str ("lcan" : PySem.Str) : PyData), (.str ("zero" : PySem.Str) : PyData), (.str ("tiny" : PySem.Str) : PyData)] : PyData), (.tuple [(.str ("rcan" : PySem.Str) : PyData), (.str ("zero" : PySem.Str) : PyData), (.str ("tiny" : PySem.Str) : PyData)] : PyData), (.tuple [(.str ("alike" : PySem.Str) : PyData), (.str ("zero" : PySem.Str) : PyData), (.str ("tiny" : PySem.Str) : PyData)] : PyData), (.tuple [(.str ("apart" : PySem.Str) : PyData), (.str ("zero" : PySem.Str) : PyData), (.str ("tiny" : PySem.Str) : PyData)] : PyData), (.tuple [(.str ("lcan" : PySem.Str) : PyData), (.str ("sel" : PySem.Str) : PyData), (.str ("right" : PySem.Str) : PyData)] : PyData), (.tuple [(.str ("rcan" : PySem.Str) : PyData), (.str ("sel" : PySem.Str) : PyData), (.str ("left" : PySem.Str) : PyData)] : PyData), (.tuple [(.str ("lcan" : PySem.Str) : PyData), (.str ("left" : PySem.Str) : PyData), (.str ("tiny" : PySem.Str) : PyData)] : PyData), (.tuple [(.str ("apart" : PySem.Str) : PyData), (.str ("pow" : PySem.Str) : PyData), (.str ("idem" : PySem.Str) : PyData)] : PyData)] : PyData)
def b0 : CSs :=
  (.cons (.ite (.or (.not (.val (.isi (.var 0) [.str]))) (.cmp .nin (.var 0) (.glob "WORDS" g_WORDS))) (.cons (.rais 1 false (.lit .none)) .nil) .nil) .nil)
def d0 : DefR where
  x := "check_word"
  st := top 5
  N := [("word" : PySem.Str)]
  ps := [("word" : PySem.Str)]
  F := ⟨1, 1, [false], b0⟩
def b1 : CSs :=
  (.cons (.ret (.blt .tup (.cons (.blt .sorted (.cons (.glob "ARROWS" g_ARROWS) .nil)) .nil))) .nil)
def d1 : DefR where
  x := "arrows"
  st := top 9
  N := []
  ps := []
  F := ⟨0, 0, [], b1⟩
def b2 : CSs :=
  (.cons (.ret (.blt .tup (.cons (.blt .sorted (.cons (.glob "JOINT_ARROWS" g_JOINT_ARROWS) .nil)) .nil))) .nil)
def d2 : DefR where
  x := "joint_arrows"
  st := top 10
  N := []
  ps := []
  F := ⟨0, 0, [], b2⟩
def b3 : CSs :=
  (.cons (.ite (.or (.not (.val (.isi (.var 0) [.tup]))) (.not (.chain .le .le (.lit (.int 1)) (.blt .len (.cons (.var 0) .nil)) (.lit (.int 2))))) (.cons (.rais 1 false (.lit .none)) .nil) .nil) (.cons (.forr (.name 1) (.seq (.var 0)) (.cons (.expr (.call 0 (.cons (.var 1) .nil))) .nil)) .nil))
def d3 : DefR where
  x := "check_words"
  st := top 11
  N := [("words" : PySem.Str), ("word" : PySem.Str)]
  ps := [("words" : PySem.Str)]
  F := ⟨1, 2, [false], b3⟩
def b4 : CSs :=
  (.cons (.forr (.name 2) (.seq (.bin .add (.glob "ARROWS" g_ARROWS) (.glob "JOINT_ARROWS" g_JOINT_ARROWS))) (.cons (.ite (.and (.cmp .eq (.idx (.var 2) (.un .neg (.lit (.int 1)))) (.var 1)) (.val (.blt .all (.cons (.comp [3] (.name 3) (.seq (.sl (.var 2) .none (.some (.un .neg (.lit (.int 1)))))) .none (.done (.cmp .inn (.var 3) (.var 0)))) .nil)))) (.cons (.ret (.var 2)) .nil) .nil) .nil)) (.cons (.ret (.lit .none)) .nil))
def d4 : DefR where
  x := "ways_to"
  st := top 12
  N := [("words" : PySem.Str), ("word" : PySem.Str), ("step" : PySem.Str), ("one" : PySem.Str)]
  ps := [("words" : PySem.Str), ("word" : PySem.Str)]
  F := ⟨2, 4, [true, false], b4⟩
def b5 : CSs :=
  (.cons (.par [1, 2, 3] (.cons (.blt .lst (.cons (.var 0) .nil)) (.cons (.lst .nil) (.cons (.lit (.bool true)) .nil)))) (.cons (.whil (.val (.var 3)) (.cons (.asg (.name 3) (.lit (.bool false))) (.cons (.forr (.name 4) (.seq (.glob "WORDS" g_WORDS)) (.cons (.asg (.name 5) (.call 4 (.cons (.var 1) (.cons (.var 4) .nil)))) (.cons (.ite (.and (.cmp .nin (.var 4) (.var 1)) (.cmp .notN (.var 5) (.lit .none))) (.cons (.app 1 (.var 4)) (.cons (.app 2 (.var 5)) (.cons (.asg (.name 3) (.lit (.bool true))) .nil))) .nil) .nil))) .nil))) (.cons (.ret (.tup (.cons (.var 1) (.cons (.var 2) .nil)))) .nil)))
def d5 : DefR where
  x := "derived"
  st := top 13
  N := [("words" : PySem.Str), ("found" : PySem.Str), ("steps" : PySem.Str), ("more" : PySem.Str), ("word" : PySem.Str), ("step" : PySem.Str)]
  ps := [("words" : PySem.Str)]
  F := ⟨1, 6, [false], b5⟩
def b6 : CSs :=
  (.cons (.expr (.call 3 (.cons (.var 0) .nil))) (.cons (.asg (.name 1) (.idx (.call 5 (.cons (.var 0) .nil)) (.lit (.int 0)))) (.cons (.ret (.blt .tup (.cons (.comp [2] (.name 2) (.seq (.glob "WORDS" g_WORDS)) (.some (.cmp .inn (.var 2) (.var 1))) (.done (.var 2))) .nil))) .nil)))
def d6 : DefR where
  x := "all_forced"
  st := top 14
  N := [("words" : PySem.Str), ("found" : PySem.Str), ("word" : PySem.Str)]
  ps := [("words" : PySem.Str)]
  F := ⟨1, 3, [false], b6⟩
def b7 : CSs :=
  (.cons (.expr (.call 0 (.cons (.var 1) .nil))) (.cons (.ret (.cmp .inn (.var 1) (.call 6 (.cons (.var 0) .nil)))) .nil))
def d7 : DefR where
  x := "does_force"
  st := top 15
  N := [("words" : PySem.Str), ("word" : PySem.Str)]
  ps := [("words" : PySem.Str), ("word" : PySem.Str)]
  F := ⟨2, 2, [false, false], b7⟩
def b8 : CSs :=
  (.cons (.asg (.name 1) (.lit (.int 7))) (.cons (.forr (.name 2) (.seq (.var 0)) (.cons (.asg (.name 1) (.bin .mod (.blt .int (.cons (.bin .add (.bin .add (.bin .mul (.var 1) (.lit (.int 48271))) (.bin .mod (.blt .abs (.cons (.blt .int (.cons (.var 2) .nil)) .nil)) (.lit (.int 65521)))) (.lit (.int 1))) .nil)) (.lit (.int 2147483647)))) .nil)) (.cons (.ret (.lst (.cons (.comp [2] (.name 2) (.seq (.var 0)) .none (.done (.blt .abs (.cons (.blt .int (.cons (.var 2) .nil)) .nil)))) (.cons (.un .neg (.lit (.int 1))) (.cons (.lit (.int 0)) (.cons (.var 1) .nil)))))) .nil)))
def d8 : DefR where
  x := "_law_draw"
  st := top 17
  N := [("script" : PySem.Str), ("seed" : PySem.Str), ("cell" : PySem.Str)]
  ps := [("script" : PySem.Str)]
  F := ⟨1, 3, [false], b8⟩
def b9 : CSs :=
  (.cons (.ite (.cmp .eq (.idx (.var 0) (.lit (.int 2))) (.lit (.int 0))) (.cons (.asg (.sub 0 (.lit (.int 1))) (.bin .add (.idx (.var 0) (.lit (.int 1))) (.lit (.int 1)))) (.cons (.ite (.cmp .lt (.idx (.var 0) (.lit (.int 1))) (.blt .len (.cons (.idx (.var 0) (.lit (.int 0))) .nil))) (.cons (.asg (.sub 0 (.lit (.int 2))) (.idx (.idx (.var 0) (.lit (.int 0))) (.idx (.var 0) (.lit (.int 1))))) .nil) .nil) (.cons (.ite (.cmp .eq (.idx (.var 0) (.lit (.int 2))) (.lit (.int 0))) (.cons (.asg (.sub 0 (.lit (.int 3))) (.bin .mod (.blt .int (.cons (.bin .add (.bin .mul (.idx (.var 0) (.lit (.int 3))) (.lit (.int 48271))) (.lit (.int 11))) .nil)) (.lit (.int 2147483647)))) (.cons (.asg (.sub 0 (.lit (.int 2))) (.idx (.var 0) (.lit (.int 3)))) .nil)) .nil) .nil))) .nil) (.cons (.asg (.name 2) (.bin .mod (.blt .int (.cons (.idx (.var 0) (.lit (.int 2))) .nil)) (.var 1))) (.cons (.asg (.sub 0 (.lit (.int 2))) (.bin .fdiv (.idx (.var 0) (.lit (.int 2))) (.var 1))) (.cons (.ret (.var 2)) .nil))))
def d9 : DefR where
  x := "_law_take"
  st := top 18
  N := [("draw" : PySem.Str), ("many" : PySem.Str), ("found" : PySem.Str)]
  ps := [("draw" : PySem.Str), ("many" : PySem.Str)]
  F := ⟨2, 3, [true, false], b9⟩
def b10 : CSs :=
  (.cons (.ret (.and (.isi (.var 0) [.bool]) (.cmp .eq (.var 0) (.var 1)))) .nil)
def d10 : DefR where
  x := "_law_says"
  st := top 19
  N := [("value" : PySem.Str), ("due" : PySem.Str)]
  ps := [("value" : PySem.Str), ("due" : PySem.Str)]
  F := ⟨2, 2, [false, false], b10⟩
def b11 : CSs :=
  (.cons (.ret (.meth .split (.lit (.str "tiny grp com idem unit zero lcan rcan sel left right const flex pow born alike sq apart")) (.lit (.str " ")))) .nil)
def d11 : DefR where
  x := "_law_words"
  st := top 20
  N := []
  ps := []
  F := ⟨0, 0, [], b11⟩
def b12 : CSs :=
  (.cons (.asg (.name 0) (.lit (.str "tiny left tiny right tiny const tiny unit tiny born grp flex com flex idem pow idem sq sel idem sel flex left grp left rcan"))) (.cons (.asg (.name 1) (.meth .split (.bin .add (.var 0) (.lit (.str " left sel left alike left apart right grp right lcan right sel right alike right apart const grp const com const zero flex pow alike sq"))) (.lit (.str " ")))) (.cons (.ret (.comp [2] (.name 2) (.rng (.cons (.bin .fdiv (.blt .len (.cons (.var 1) .nil)) (.lit (.int 2))) .nil)) .none (.done (.tup (.cons (.idx (.var 1) (.bin .mul (.lit (.int 2)) (.var 2))) (.cons (.idx (.var 1) (.bin .add (.bin .mul (.lit (.int 2)) (.var 2)) (.lit (.int 1)))) .nil)))))) .nil)))
def d12 : DefR where
  x := "_law_arrows"
  st := top 21
  N := [("text" : PySem.Str), ("words" : PySem.Str), ("k" : PySem.Str)]
  ps := []
  F := ⟨0, 3, [], b12⟩
def b13 : CSs :=
  (.cons (.asg (.name 0) (.lit (.str "born grp com alike grp apart apart grp alike com lcan rcan com rcan lcan apart com tiny born idem tiny"))) (.cons (.asg (.name 0) (.bin .add (.var 0) (.lit (.str " const sq tiny alike unit tiny apart unit tiny const unit tiny lcan zero tiny rcan zero tiny")))) (.cons (.asg (.name 1) (.meth .split (.bin .add (.var 0) (.lit (.str " alike zero tiny apart zero tiny lcan sel right rcan sel left lcan left tiny apart pow idem"))) (.lit (.str " ")))) (.cons (.ret (.comp [2] (.name 2) (.rng (.cons (.bin .fdiv (.blt .len (.cons (.var 1) .nil)) (.lit (.int 3))) .nil)) .none (.done (.tup (.cons (.idx (.var 1) (.bin .mul (.lit (.int 3)) (.var 2))) (.cons (.idx (.var 1) (.bin .add (.bin .mul (.lit (.int 3)) (.var 2)) (.lit (.int 1)))) (.cons (.idx (.var 1) (.bin .add (.bin .mul (.lit (.int 3)) (.var 2)) (.lit (.int 2)))) .nil))))))) .nil))))
def d13 : DefR where
  x := "_law_joint"
  st := top 22
  N := [("text" : PySem.Str), ("words" : PySem.Str), ("k" : PySem.Str)]
  ps := []
  F := ⟨0, 3, [], b13⟩
def b14 : CSs :=
  (.cons (.asg (.name 1) (.blt .lst (.cons (.var 0) .nil))) (.cons (.forr (.name 2) (.rng (.cons (.lit (.int 20)) .nil)) (.cons (.forr (.name 3) (.seq (.bin .add (.call0 12) (.call0 13))) (.cons (.ite (.and (.cmp .nin (.idx (.var 3) (.un .neg (.lit (.int 1)))) (.var 1)) (.val (.blt .all (.cons (.comp [4] (.name 4) (.seq (.sl (.var 3) .none (.some (.un .neg (.lit (.int 1)))))) .none (.done (.cmp .inn (.var 4) (.var 1)))) .nil)))) (.cons (.app 1 (.idx (.var 3) (.un .neg (.lit (.int 1))))) .nil) .nil) .nil)) .nil)) (.cons (.ret (.var 1)) .nil)))
def d14 : DefR where
  x := "_law_led"
  st := top 23
  N := [("words" : PySem.Str), ("found" : PySem.Str), ("turn" : PySem.Str), ("step" : PySem.Str), ("one" : PySem.Str)]
  ps := [("words" : PySem.Str)]
  F := ⟨1, 5, [false], b14⟩
def b15 : CSs :=
  (.cons (.tryy (.cons (.ret (.ite (.cmp .eq (.var 0) (.lit (.int 0))) (.call 6 (.cons (.var 1) .nil)) (.call 7 (.cons (.var 1) (.cons (.var 2) .nil))))) .nil) [(1, none, (.lit (.str "<malformed>")))]) .nil)
def d15 : DefR where
  x := "_law_ask"
  st := top 24
  N := [("which" : PySem.Str), ("words" : PySem.Str), ("word" : PySem.Str)]
  ps := [("which" : PySem.Str), ("words" : PySem.Str), ("word" : PySem.Str)]
  F := ⟨3, 3, [false, false, false], b15⟩
def b16 : CSs :=
  (.cons (.asg (.name 1) (.call 8 (.cons (.var 0) .nil))) (.cons (.ite (.or (.cmp .ne (.call0 1) (.blt .tup (.cons (.blt .sorted (.cons (.call0 12) .nil)) .nil))) (.cmp .ne (.call0 2) (.blt .tup (.cons (.blt .sorted (.cons (.call0 13) .nil)) .nil)))) (.cons (.ret (.lit (.bool false))) .nil) .nil) (.cons (.forr (.name 2) (.rng (.cons (.lit (.int 4)) .nil)) (.cons (.asg (.name 3) (.blt .tup (.cons (.comp [4] (.name 4) (.rng (.cons (.bin .add (.lit (.int 1)) (.call 9 (.cons (.var 1) (.cons (.lit (.int 2)) .nil)))) .nil)) .none (.done (.idx (.call0 11) (.call 9 (.cons (.var 1) (.cons (.lit (.int 18)) .nil)))))) .nil))) (.cons (.asg (.name 5) (.call 14 (.cons (.var 3) .nil))) (.cons (.ite (.cmp .ne (.call 15 (.cons (.lit (.int 0)) (.cons (.var 3) (.cons (.lit (.str "")) .nil)))) (.blt .tup (.cons (.comp [6] (.name 6) (.seq (.call0 11)) (.some (.cmp .inn (.var 6) (.var 5))) (.done (.var 6))) .nil))) (.cons (.ret (.lit (.bool false))) .nil) .nil) (.cons (.ite (.not (.val (.blt .all (.cons (.comp [6] (.name 6) (.seq (.call0 11)) .none (.done (.call 10 (.cons (.call 15 (.cons (.lit (.int 1)) (.cons (.var 3) (.cons (.var 6) .nil)))) (.cons (.cmp .inn (.var 6) (.var 5)) .nil))))) .nil)))) (.cons (.ret (.lit (.bool false))) .nil) .nil) .nil))))) (.cons (.forr (.name 7) (.seq (.lst (.cons (.tup .nil) (.cons (.tup (.cons (.lit (.str "grp")) (.cons (.lit (.str "com")) (.cons (.lit (.str "sq")) .nil)))) (.cons (.lst (.cons (.lit (.str "grp")) .nil)) (.cons (.lit (.str "grp")) (.cons (.lit .none) (.cons (.tup (.cons (.lit (.str "GRP")) .nil)) (.cons (.tup (.cons (.lit (.str "")) .nil)) (.cons (.tup (.cons (.lit .none) .nil)) (.cons (.tup (.cons (.lit (.str "grp")) (.cons (.lit (.int 3)) .nil))) (.cons (.tup (.cons (.tup (.cons (.lit (.str "grp")) .nil)) .nil)) .nil)))))))))))) (.cons (.ite (.cmp .ne (.comp [8] (.name 8) (.seq (.lst (.cons (.lit (.int 0)) (.cons (.lit (.int 1)) .nil)))) .none (.done (.call 15 (.cons (.var 8) (.cons (.var 7) (.cons (.lit (.str "grp")) .nil)))))) (.bin .mul (.lst (.cons (.lit (.str "<malformed>")) .nil)) (.lit (.int 2)))) (.cons (.ret (.lit (.bool false))) .nil) .nil) .nil)) (.cons (.ret (.blt .all (.cons (.comp [7] (.name 7) (.seq (.lst (.cons (.lit (.str "")) (.cons (.lit (.str "GRP")) (.cons (.lit .none) (.cons (.lit (.int 3)) (.cons (.tup (.cons (.lit (.str "grp")) .nil)) (.cons (.lit (.bool true)) .nil)))))))) .none (.done (.cmp .eq (.call 15 (.cons (.lit (.int 1)) (.cons (.tup (.cons (.lit (.str "grp")) .nil)) (.cons (.var 7) .nil)))) (.lit (.str "<malformed>"))))) .nil))) .nil)))))
def d16 : DefR where
  x := "law"
  st := top 25
  N := [("script" : PySem.Str), ("draw" : PySem.Str), ("turn" : PySem.Str), ("words" : PySem.Str), ("k" : PySem.Str), ("found" : PySem.Str), ("word" : PySem.Str), ("bad" : PySem.Str), ("which" : PySem.Str)]
  ps := [("script" : PySem.Str)]
  F := ⟨1, 9, [false], b16⟩
def tab : Tab where
  defs := [d0, d1, d2, d3, d4, d5, d6, d7, d8, d9, d10, d11, d12, d13, d14, d15, d16]
  cst := [(("WORDS" : PySem.Str), g_WORDS),
    (("ARROWS" : PySem.Str), g_ARROWS),
    (("JOINT_ARROWS" : PySem.Str), g_JOINT_ARROWS)]
  blts := [("abs" : PySem.Str), ("all" : PySem.Str), ("bool" : PySem.Str), ("int" : PySem.Str), ("isinstance" : PySem.Str), ("len" : PySem.Str), ("list" : PySem.Str), ("range" : PySem.Str), ("sorted" : PySem.Str), ("str" : PySem.Str), ("tuple" : PySem.Str)]
  exc := [(("Fault" : PySem.Str), 0, false), (("Malformed" : PySem.Str), 1, false)]
  sub := [[true, false], [true, true]]
theorem t0 : DefT tab d0 where
  scope := ⟨rfl, rfl, rfl, by decide +kernel, rfl, by decide +kernel, by decide +kernel⟩
  np := rfl
  ns := rfl
  io := rfl
  binds := fun _ _ _ _ _ _ us hl => match us, hl with | [_], _ => rfl
  body := ⟨["word"], 30, by decide +kernel, by kernel_rfl⟩
theorem t1 : DefT tab d1 where
  scope := ⟨rfl, rfl, rfl, by decide +kernel, rfl, by decide +kernel, by decide +kernel⟩
  np := rfl
  ns := rfl
  io := rfl
  binds := fun _ _ _ _ _ _ us hl => match us, hl with | [], _ => rfl
  body := ⟨[], 30, by decide +kernel, by kernel_rfl⟩
theorem t2 : DefT tab d2 where
  scope := ⟨rfl, rfl, rfl, by decide +kernel, rfl, by decide +kernel, by decide +kernel⟩
  np := rfl
  ns := rfl
  io := rfl
  binds := fun _ _ _ _ _ _ us hl => match us, hl with | [], _ => rfl
  body := ⟨[], 30, by decide +kernel, by kernel_rfl⟩
theorem t3 : DefT tab d3 where
  scope := ⟨rfl, rfl, rfl, by decide +kernel, rfl, by decide +kernel, by decide +kernel⟩
  np := rfl
  ns := rfl
  io := rfl
  binds := fun _ _ _ _ _ _ us hl => match us, hl with | [_], _ => rfl
  body := ⟨["words", "word"], 30, by decide +kernel, by kernel_rfl⟩
theorem t4 : DefT tab d4 where
  scope := ⟨rfl, rfl, rfl, by decide +kernel, rfl, by decide +kernel, by decide +kernel⟩
  np := rfl
  ns := rfl
  io := rfl
  binds := fun _ _ _ _ _ _ us hl => match us, hl with | [_, _], _ => rfl
  body := ⟨["words", "word", "step"], 30, by decide +kernel, by kernel_rfl⟩
theorem t5 : DefT tab d5 where
  scope := ⟨rfl, rfl, rfl, by decide +kernel, rfl, by decide +kernel, by decide +kernel⟩
  np := rfl
  ns := rfl
  io := rfl
  binds := fun _ _ _ _ _ _ us hl => match us, hl with | [_], _ => rfl
  body := ⟨["words", "found", "steps", "more", "word", "step"], 30, by decide +kernel, by kernel_rfl⟩
theorem t6 : DefT tab d6 where
  scope := ⟨rfl, rfl, rfl, by decide +kernel, rfl, by decide +kernel, by decide +kernel⟩
  np := rfl
  ns := rfl
  io := rfl
  binds := fun _ _ _ _ _ _ us hl => match us, hl with | [_], _ => rfl
  body := ⟨["words", "found"], 30, by decide +kernel, by kernel_rfl⟩
theorem t7 : DefT tab d7 where
  scope := ⟨rfl, rfl, rfl, by decide +kernel, rfl, by decide +kernel, by decide +kernel⟩
  np := rfl
  ns := rfl
  io := rfl
  binds := fun _ _ _ _ _ _ us hl => match us, hl with | [_, _], _ => rfl
  body := ⟨["words", "word"], 30, by decide +kernel, by kernel_rfl⟩
theorem t8 : DefT tab d8 where
  scope := ⟨rfl, rfl, rfl, by decide +kernel, rfl, by decide +kernel, by decide +kernel⟩
  np := rfl
  ns := rfl
  io := rfl
  binds := fun _ _ _ _ _ _ us hl => match us, hl with | [_], _ => rfl
  body := ⟨["script", "seed", "cell"], 30, by decide +kernel, by kernel_rfl⟩
theorem t9 : DefT tab d9 where
  scope := ⟨rfl, rfl, rfl, by decide +kernel, rfl, by decide +kernel, by decide +kernel⟩
  np := rfl
  ns := rfl
  io := rfl
  binds := fun _ _ _ _ _ _ us hl => match us, hl with | [_, _], _ => rfl
  body := ⟨["draw", "many", "found"], 30, by decide +kernel, by kernel_rfl⟩
theorem t10 : DefT tab d10 where
  scope := ⟨rfl, rfl, rfl, by decide +kernel, rfl, by decide +kernel, by decide +kernel⟩
  np := rfl
  ns := rfl
  io := rfl
  binds := fun _ _ _ _ _ _ us hl => match us, hl with | [_, _], _ => rfl
  body := ⟨["value", "due"], 30, by decide +kernel, by kernel_rfl⟩
theorem t11 : DefT tab d11 where
  scope := ⟨rfl, rfl, rfl, by decide +kernel, rfl, by decide +kernel, by decide +kernel⟩
  np := rfl
  ns := rfl
  io := rfl
  binds := fun _ _ _ _ _ _ us hl => match us, hl with | [], _ => rfl
  body := ⟨[], 30, by decide +kernel, by kernel_rfl⟩
theorem t12 : DefT tab d12 where
  scope := ⟨rfl, rfl, rfl, by decide +kernel, rfl, by decide +kernel, by decide +kernel⟩
  np := rfl
  ns := rfl
  io := rfl
  binds := fun _ _ _ _ _ _ us hl => match us, hl with | [], _ => rfl
  body := ⟨["text", "words"], 30, by decide +kernel, by kernel_rfl⟩
theorem t13 : DefT tab d13 where
  scope := ⟨rfl, rfl, rfl, by decide +kernel, rfl, by decide +kernel, by decide +kernel⟩
  np := rfl
  ns := rfl
  io := rfl
  binds := fun _ _ _ _ _ _ us hl => match us, hl with | [], _ => rfl
  body := ⟨["text", "words"], 30, by decide +kernel, by kernel_rfl⟩
theorem t14 : DefT tab d14 where
  scope := ⟨rfl, rfl, rfl, by decide +kernel, rfl, by decide +kernel, by decide +kernel⟩
  np := rfl
  ns := rfl
  io := rfl
  binds := fun _ _ _ _ _ _ us hl => match us, hl with | [_], _ => rfl
  body := ⟨["words", "found", "turn", "step"], 30, by decide +kernel, by kernel_rfl⟩
theorem t15 : DefT tab d15 where
  scope := ⟨rfl, rfl, rfl, by decide +kernel, rfl, by decide +kernel, by decide +kernel⟩
  np := rfl
  ns := rfl
  io := rfl
  binds := fun _ _ _ _ _ _ us hl => match us, hl with | [_, _, _], _ => rfl
  body := ⟨["which", "words", "word"], 30, by decide +kernel, by kernel_rfl⟩
theorem t16 : DefT tab d16 where
  scope := ⟨rfl, rfl, rfl, by decide +kernel, rfl, by decide +kernel, by decide +kernel⟩
  np := rfl
  ns := rfl
  io := rfl
  binds := fun _ _ _ _ _ _ us hl => match us, hl with | [_], _ => rfl
  body := ⟨["script", "draw", "turn", "words", "found", "bad"], 30, by decide +kernel, by kernel_rfl⟩
theorem ts : Each (DefT tab) tab.defs :=
  ⟨t0, t1, t2, t3, t4, t5, t6, t7, t8, t9, t10, t11, t12, t13, t14, t15, t16, trivial⟩
theorem kok {K : Frag} {f0 f1 f2 f3 f4 f5 f6 f7 f8 f9 f10 f11 f12 f13 f14 f15 f16 c0 c1 : Addr}
    (h0 : FnK K "check_word" (top 5) f0)
    (h1 : FnK K "arrows" (top 9) f1)
    (h2 : FnK K "joint_arrows" (top 10) f2)
    (h3 : FnK K "check_words" (top 11) f3)
    (h4 : FnK K "ways_to" (top 12) f4)
    (h5 : FnK K "derived" (top 13) f5)
    (h6 : FnK K "all_forced" (top 14) f6)
    (h7 : FnK K "does_force" (top 15) f7)
    (h8 : FnK K "_law_draw" (top 17) f8)
    (h9 : FnK K "_law_take" (top 18) f9)
    (h10 : FnK K "_law_says" (top 19) f10)
    (h11 : FnK K "_law_words" (top 20) f11)
    (h12 : FnK K "_law_arrows" (top 21) f12)
    (h13 : FnK K "_law_joint" (top 22) f13)
    (h14 : FnK K "_law_led" (top 23) f14)
    (h15 : FnK K "_law_ask" (top 24) f15)
    (h16 : FnK K "law" (top 25) f16)
    (g0 : cstK K "WORDS" g_WORDS = true)
    (g1 : cstK K "ARROWS" g_ARROWS = true)
    (g2 : cstK K "JOINT_ARROWS" g_JOINT_ARROWS = true)
    (n0 : PySem.W.nsIn K mainGlobals "abs" = some none)
    (n1 : PySem.W.nsIn K mainGlobals "all" = some none)
    (n2 : PySem.W.nsIn K mainGlobals "bool" = some none)
    (n3 : PySem.W.nsIn K mainGlobals "int" = some none)
    (n4 : PySem.W.nsIn K mainGlobals "isinstance" = some none)
    (n5 : PySem.W.nsIn K mainGlobals "len" = some none)
    (n6 : PySem.W.nsIn K mainGlobals "list" = some none)
    (n7 : PySem.W.nsIn K mainGlobals "range" = some none)
    (n8 : PySem.W.nsIn K mainGlobals "sorted" = some none)
    (n9 : PySem.W.nsIn K mainGlobals "str" = some none)
    (n10 : PySem.W.nsIn K mainGlobals "tuple" = some none)
    (x0 : ExK K "Fault" c0)
    (x1 : ExK K "Malformed" c1)
    (s0_0 : PySem.W.exmOne K (.ref c0) (.ref c0) = some true)
    (s0_1 : PySem.W.exmOne K (.ref c0) (.ref c1) = some false)
    (s1_0 : PySem.W.exmOne K (.ref c1) (.ref c0) = some true)
    (s1_1 : PySem.W.exmOne K (.ref c1) (.ref c1) = some true)
    : KOk tab K [f0, f1, f2, f3, f4, f5, f6, f7, f8, f9, f10, f11, f12, f13, f14, f15, f16] [c0, c1] where
  fns := ⟨h0, h1, h2, h3, h4, h5, h6, h7, h8, h9, h10, h11, h12, h13, h14, h15, h16, trivial⟩
  cst := ⟨g0, g1, g2, trivial⟩
  blts := ⟨n0, n1, n2, n3, n4, n5, n6, n7, n8, n9, n10, trivial⟩
  exc := ⟨⟨by show 0 < 2; decide, by decide, x0⟩, ⟨by show 1 < 2; decide, by decide, x1⟩, trivial⟩
  sub := by
    have e : ∀ i j, i < 2 → j < 2 → PySem.W.exmOne K (.ref (([c0, c1][i]?).getD 0)) (.ref (([c0, c1][j]?).getD 0)) = some (tab.subF i j) := fun i j hi hj => by
      match i, j, hi, hj with
      | 0, 0, _, _ => exact s0_0
      | 0, 1, _, _ => exact s0_1
      | 0, j + 2, _, hj => exact absurd hj (by omega)
      | 1, 0, _, _ => exact s1_0
      | 1, 1, _, _ => exact s1_1
      | 1, j + 2, _, hj => exact absurd hj (by omega)
      | i + 2, _, hi, _ => exact absurd hi (by omega)
    refine List.all_eq_true.mpr fun i hi => List.all_eq_true.mpr fun j hj => ?_
    exact beq_iff_eq.mpr (e i j (List.mem_range.mp hi) (List.mem_range.mp hj))
end Lk05

namespace Lk05
open PySem PV
/-- the evaluator within a def, n levels of calls below it -/
noncomputable abbrev Ev (n : Nat) (io : List Nat) : Env0 := ⟨whileM, tab.subF, io, sigOf tab.P, PV.run tab.subF tab.P n⟩
def okS (F : List Str) : Prop := ∀ z ∈ F, PyData.strOk z = true
theorem inn_lst {z : Str} {F : List Str} (hz : PyData.strOk z = true) (hF : okS F) : cmpop .inn (.str z) (lst F) = some (decide (z ∈ F)) := by
  show (if (SeqAt.shaped (.str z) && SeqAt.shaped (lst F)) = true then some ((txs F).any fun y => PyData.eqv y (.str z)) else none) = _
  rw [shaped_str hz, shaped_lst hF, any_strs]; rfl
theorem nin_lst {z : Str} {F : List Str} (hz : PyData.strOk z = true) (hF : okS F) : cmpop .nin (.str z) (lst F) = some (!decide (z ∈ F)) := by
  show (if (SeqAt.shaped (.str z) && SeqAt.shaped (lst F)) = true then some (!(txs F).any fun y => PyData.eqv y (.str z)) else none) = _
  rw [shaped_str hz, shaped_lst hF, any_strs]; rfl
theorem inn_tpl {z : Str} {F : List Str} (hz : PyData.strOk z = true) (hF : okS F) : cmpop .inn (.str z) (tpl F) = some (decide (z ∈ F)) := by
  show (if (SeqAt.shaped (.str z) && SeqAt.shaped (tpl F)) = true then some ((txs F).any fun y => PyData.eqv y (.str z)) else none) = _
  rw [shaped_str hz, shaped_tpl hF, any_strs]; rfl
/-- which ones are in -/
def ins (F r : List Str) : List PV.D := r.map fun z => .bool (decide (z ∈ F))
def gIn (F : List Str) (a : Nat × List PV.D) (x : PV.D) : Nat × List PV.D := (min a.1 10, a.2 ++ [match x with
  | .str z => .bool (decide (z ∈ F))
  | _ => .none])
theorem fold_in (F : List Str) : ∀ (r : List Str) (a : List PV.D), (txs r).foldl (gIn F) (9, a) = (9, a ++ ins F r)
  | [], a => by rw [show ins F [] = [] from rfl, List.append_nil]; rfl
  | z :: r, a => by
    show (txs r).foldl (gIn F) (9, a ++ [.bool (decide (z ∈ F))]) = _
    rw [fold_in F r, List.append_assoc]; rfl
theorem all_ins (F : List Str) : ∀ r : List Str, boolsOf (ins F r) = some (r.map fun z => decide (z ∈ F))
  | [] => rfl
  | z :: r => by
    show (boolsOf (ins F r)).map (decide (z ∈ F) :: ·) = _
    rw [all_ins F r]; rfl
def bodyOf : CSs → CSs
  | .cons (.forr _ _ b) _ => b
  | _ => .nil
def waysAt (k : Nat) (F : List Str) (w : Str) (x y : Option (Nat × PV.D)) : SEnv := [some (k + 1, lst F), some (0, .str w), x, y]
theorem ways_all (n k : Nat) (F : List Str) (w : Str) (r : List Str) (hF : okS F) (hr : okS r) (hl : r.length ≤ 100) :
    ∃ k', denE (Ev n [0]) (.comp [3] (.name 3) (.seq (.sl (.var 2) .none (.some (.un .neg (.lit (.int 1)))))) .none (.done (.cmp .inn (.var 3) (.var 0)))) (waysAt k F w (some (0, tpl r)) none) =
      .ok (.pv 9 (.list (ins F r.dropLast))) (waysAt k' F w (some (0, tpl r)) none) := by
  have hi : denI (Ev n [0]) (.seq (.sl (.var 2) .none (.some (.un .neg (.lit (.int 1)))))) (waysAt k F w (some (0, tpl r)) none) = .ok (txs r.dropLast) (waysAt k F w (some (0, tpl r)) none) := by
    have e : sliceD none (some (-1)) (tpl r) = some (0, .tuple (txs r.dropLast)) := by
      show some (0, PyData.tuple (cutD (txs r) none (some (-1)))) = _
      rw [cut_last]
      unfold txs
      rw [List.map_dropLast]
    show (M.bind (fun ρ => (M.opt ((sliceD none (some (-1)) (tpl r)).map fun x => TV.pv x.1 x.2)) ρ) fun s => (frz [0] s).bind fun d => M.opt (seqItems d)) _ = _
    rw [e]; rfl
  have step : ∀ x xs a ρ, (∃ k', ρ = waysAt k' F w (some (0, tpl r)) none ∧ a.2.length + (x :: xs).length ≤ 100 ∧ ∃ l, okS l ∧ x :: xs = txs l) →
      ∃ ρ', turnM [3] (bindN (Ev n [0]) (.name 3) x) (denC (Ev n [0]) .none) (denG (Ev n [0]) (.done (.cmp .inn (.var 3) (.var 0))) a) a ρ = .ok (gIn F a x) ρ' ∧
        ∃ k', ρ' = waysAt k' F w (some (0, tpl r)) none ∧ (gIn F a x).2.length + xs.length ≤ 100 ∧ ∃ l, okS l ∧ xs = txs l := by
    rintro x xs a ρ ⟨k1, rfl, hl, l, hlo, hx⟩
    cases l with
    | nil => cases hx
    | cons z l =>
      cases hx
      refine ⟨waysAt 0 F w (some (0, tpl r)) none, ?_, 0, rfl, ?_, l, fun y hy => hlo y (List.mem_cons_of_mem _ hy), rfl⟩
      · have hin := inn_lst (hlo z List.mem_cons_self) hF
        have hz : PV.sizeOk (a.2.length + 1) = true := by
          unfold PV.sizeOk
          refine decide_eq_true (Nat.le_trans (?_ : _ ≤ 100) (by decide))
          rw [List.length_cons] at hl; omega
        have h1 : denE (Ev n [0]) (.cmp .inn (.var 3) (.var 0)) (waysAt k1 F w (some (0, tpl r)) (some (0, .str z))) = .ok (.pv 0 (.bool (decide (z ∈ F)))) (waysAt 0 F w (some (0, tpl r)) (some (0, .str z))) := by
          show (M.opt ((cmpop .inn (.str z) (lst F)).map fun c => TV.pv 0 (.bool c))) [some (min (k1 + 1) 1, lst F), some (0, .str w), some (0, tpl r), some (0, .str z)] = _
          rw [hin, show min (k1 + 1) 1 = 1 by omega]; rfl
        show RE.well (M.bind (denE (Ev n [0]) (.cmp .inn (.var 3) (.var 0))) (fun t => accum [0] a t) (waysAt k1 F w (some (0, tpl r)) (some (0, .str z)))) _ = _
        rw [bind_at h1]
        show RE.well ((if PV.sizeOk (a.2.length + 1) = true then M.pure (min a.1 10, a.2 ++ [.bool (decide (z ∈ F))]) else M.no) (waysAt 0 F w (some (0, tpl r)) (some (0, .str z)))) _ = _
        rw [if_pos hz]; rfl
      · show (a.2 ++ [_]).length + _ ≤ 100
        rw [List.length_append, List.length_singleton]
        rw [List.length_cons] at hl
        omega
  obtain ⟨ρ', e, k', hk⟩ := turns_ex (f := fun acc x => turnM [3] (bindN (Ev n [0]) (.name 3) x) (denC (Ev n [0]) .none) (denG (Ev n [0]) (.done (.cmp .inn (.var 3) (.var 0))) acc) acc) (g := gIn F)
    (I := fun xs a ρ => ∃ k', ρ = waysAt k' F w (some (0, tpl r)) none ∧ a.2.length + xs.length ≤ 100 ∧ ∃ l, okS l ∧ xs = txs l) (xs := txs r.dropLast) (a := (9, [])) (ρ := waysAt k F w (some (0, tpl r)) none)
    ⟨k, rfl, by unfold txs; simp; omega, r.dropLast, fun z hz => hr z (List.dropLast_subset r hz), rfl⟩ step
  refine ⟨k', ?_⟩
  show M.bind (denI (Ev n [0]) _) _ _ = _
  rw [bind_at hi]
  show (if still (waysAt k F w (some (0, tpl r)) none) [3] = true then RE.well (turns _ (txs r.dropLast) (9, []) (wipeE (waysAt k F w (some (0, tpl r)) none) [3])) _ else RE.no) = _
  rw [if_pos (show still (waysAt k F w (some (0, tpl r)) none) [3] = true from rfl)]
  show RE.well (turns _ (txs r.dropLast) (9, []) (waysAt k F w (some (0, tpl r)) none)) _ = _
  rw [e, fold_in, hk.1]
  rfl
theorem txs_app (a b : List Str) : txs (a ++ b) = txs a ++ txs b := by unfold txs; rw [List.map_append]
theorem eq_str {a b : Str} (ha : PyData.strOk a = true) (hb : PyData.strOk b = true) : cmpop .eq (.str a) (.str b) = some (a == b) := by
  show (if (SeqAt.shaped (.str a) && SeqAt.shaped (.str b)) = true then some (PyData.eqv (.str a) (.str b)) else none) = _
  rw [shaped_str ha, shaped_str hb, eqv_str]; rfl
theorem idx_last (p : List Str) (l : Str) : idxD (tpl (p ++ [l])) (.int (-1)) = some (.str l) := by
  show L2.atI (txs (p ++ [l])) (-1) = _
  rw [at_last, txs_app]
  exact List.getLast?_concat
/-- does the step lead to w -/
def leads (F : List Str) (w : Str) (p : List Str) (l : Str) : Bool := (l == w) && p.all fun z => decide (z ∈ F)
theorem all_map (F : List Str) : ∀ p : List Str, (p.map fun z => decide (z ∈ F)).all id = p.all fun z => decide (z ∈ F)
  | [] => rfl
  | z :: p => by rw [List.map_cons, List.all_cons, List.all_cons, all_map F p]; rfl
theorem ways_row (n k : Nat) (F : List Str) (w : Str) (p : List Str) (l : Str) (hF : okS F) (hw : PyData.strOk w = true) (hr : okS (p ++ [l])) (hl : (p ++ [l]).length ≤ 100) :
    ∃ k', denSs (Ev n [0]) (bodyOf b4) (waysAt k F w (some (0, tpl (p ++ [l]))) none) =
      if leads F w p l = true then .rt 9 (tpl (p ++ [l])) (waysAt k' F w (some (0, tpl (p ++ [l]))) none) else .nx (waysAt k' F w (some (0, tpl (p ++ [l]))) none) := by
  have hlo : PyData.strOk l = true := hr l (by simp)
  have hA : denT (Ev n [0]) (.cmp .eq (.idx (.var 2) (.un .neg (.lit (.int 1)))) (.var 1)) (waysAt k F w (some (0, tpl (p ++ [l]))) none) = .ok (l == w) (waysAt k F w (some (0, tpl (p ++ [l]))) none) := by
    show M.bind (M.opt ((idxD (tpl (p ++ [l])) (.int (-1))).map (TV.pv 0))) _ _ = _
    rw [idx_last]
    show M.opt (cmpop .eq (.str l) (.str w)) _ = _
    rw [eq_str hlo hw]; rfl
  obtain ⟨k', hB⟩ := ways_all n k F w (p ++ [l]) hF hr hl
  rw [List.dropLast_concat] at hB
  have hB2 : denT (Ev n [0]) (.val (.blt .all (.cons (.comp [3] (.name 3) (.seq (.sl (.var 2) .none (.some (.un .neg (.lit (.int 1)))))) .none (.done (.cmp .inn (.var 3) (.var 0)))) .nil))) (waysAt k F w (some (0, tpl (p ++ [l]))) none) =
      .ok (p.all fun z => decide (z ∈ F)) (waysAt k' F w (some (0, tpl (p ++ [l]))) none) := by
    have hb : blt .all [.list (ins F p)] = some (0, .bool (p.all fun z => decide (z ∈ F))) := by
      show (boolsOf (ins F p)).map (fun l => (0, PyData.bool (l.all id))) = _
      rw [all_ins]
      show some (0, PyData.bool ((p.map fun z => decide (z ∈ F)).all id)) = _
      rw [all_map]
    have e1 : denA (Ev n [0]) (.cons (.comp [3] (.name 3) (.seq (.sl (.var 2) .none (.some (.un .neg (.lit (.int 1)))))) .none (.done (.cmp .inn (.var 3) (.var 0)))) .nil) (waysAt k F w (some (0, tpl (p ++ [l]))) none) = .ok [.pv 9 (.list (ins F p))] (waysAt k' F w (some (0, tpl (p ++ [l]))) none) := by
      show M.bind (denE (Ev n [0]) _) _ _ = _
      rw [bind_at hB]; rfl
    have e2 : denE (Ev n [0]) (.blt .all (.cons (.comp [3] (.name 3) (.seq (.sl (.var 2) .none (.some (.un .neg (.lit (.int 1)))))) .none (.done (.cmp .inn (.var 3) (.var 0)))) .nil)) (waysAt k F w (some (0, tpl (p ++ [l]))) none) = .ok (.pv 0 (.bool (p.all fun z => decide (z ∈ F)))) (waysAt k' F w (some (0, tpl (p ++ [l]))) none) := by
      show M.bind (denA (Ev n [0]) _) _ _ = _
      rw [bind_at e1]
      show M.opt ((blt .all [.list (ins F p)]).map fun x => TV.pv x.1 x.2) _ = _
      rw [hb]; rfl
    show M.bind (denE (Ev n [0]) _) _ _ = _
    rw [bind_at e2]; rfl
  have hT : ∃ k', denT (Ev n [0]) (.and (.cmp .eq (.idx (.var 2) (.un .neg (.lit (.int 1)))) (.var 1)) (.val (.blt .all (.cons (.comp [3] (.name 3) (.seq (.sl (.var 2) .none (.some (.un .neg (.lit (.int 1)))))) .none (.done (.cmp .inn (.var 3) (.var 0)))) .nil)))) (waysAt k F w (some (0, tpl (p ++ [l]))) none) =
      .ok (leads F w p l) (waysAt k' F w (some (0, tpl (p ++ [l]))) none) := by
    unfold leads
    cases hlw : (l == w) with
    | false =>
      refine ⟨k, ?_⟩
      show M.bind (denT (Ev n [0]) _) _ _ = _
      rw [bind_at hA, hlw]; rfl
    | true =>
      refine ⟨k', ?_⟩
      show M.bind (denT (Ev n [0]) _) _ _ = _
      rw [bind_at hA, hlw, Bool.true_and]
      exact hB2
  obtain ⟨k2, hT⟩ := hT
  refine ⟨k2, ?_⟩
  show MS.seq (MS.of (denT (Ev n [0]) _) fun k => if k = true then denSs (Ev n [0]) (.cons (.ret (.var 2)) .nil) else denSs (Ev n [0]) .nil) (denSs (Ev n [0]) .nil) _ = _
  cases hc : leads F w p l with
  | true =>
    rw [hc] at hT
    rw [if_pos rfl]
    exact seq_rt (by rw [of_ok hT, if_pos rfl]; rfl)
  | false =>
    rw [hc] at hT
    rw [if_neg Bool.false_ne_true]
    rw [seq_nx (ρ' := waysAt k2 F w (some (0, tpl (p ++ [l]))) none) (by rw [of_ok hT, if_neg Bool.false_ne_true]; rfl)]
    rfl
/-! ### the arrows -/
abbrev Rule := List Str × Str
def rowD (r : Rule) : PV.D := tpl (r.1 ++ [r.2])
def itemsOf : PV.D → List PV.D
  | .tuple ds => ds
  | _ => []
def toRule (d : PV.D) : Rule := ((rowKey d).dropLast, (rowKey d).getLastD "")
def RS : List Rule := (itemsOf g_ARROWS ++ itemsOf g_JOINT_ARROWS).map toRule
theorem rs_rows : itemsOf g_ARROWS ++ itemsOf g_JOINT_ARROWS = RS.map rowD := by kernel_rfl
def okR (r : Rule) : Bool := (r.1 ++ [r.2]).all PyData.strOk && decide ((r.1 ++ [r.2]).length ≤ 100)
theorem rs_ok : RS.all okR = true := by kernel_rfl
theorem okR_of {r : Rule} (h : okR r = true) : okS (r.1 ++ [r.2]) ∧ (r.1 ++ [r.2]).length ≤ 100 := by
  have h := Bool.and_eq_true_iff.mp h
  exact ⟨fun z hz => List.all_eq_true.mp h.1 z hz, of_decide_eq_true h.2⟩
def leadsR (F : List Str) (w : Str) (r : Rule) : Bool := leads F w r.1 r.2
theorem ways_loop (n : Nat) (F : List Str) (w : Str) (hF : okS F) (hw : PyData.strOk w = true) : ∀ (rs : List Rule) (k : Nat) (s2 : Option (Nat × PV.D)), rs.all okR = true →
    ∃ k' s2', forL (fun x => MS.of (bindN (Ev n [0]) (.name 2) x) fun _ => denSs (Ev n [0]) (bodyOf b4)) (rs.map rowD) (waysAt k F w s2 none) =
      match rs.find? (leadsR F w) with
      | some r => .rt 9 (rowD r) (waysAt k' F w s2' none)
      | none => .nx (waysAt k' F w s2' none)
  | [], k, s2, _ => ⟨k, s2, rfl⟩
  | (p, l) :: rs, k, s2, h => by
    have h := Bool.and_eq_true_iff.mp (show (okR (p, l) && rs.all okR) = true from h)
    obtain ⟨o1, o2⟩ := okR_of h.1
    obtain ⟨k1, e1⟩ := ways_row n k F w p l hF hw o1 o2
    have step : ∀ f : PV.D → MS, forL f ((rowD (p, l)) :: rs.map rowD) (waysAt k F w s2 none) = (match f (rowD (p, l)) (waysAt k F w s2 none) with | .nx ρ' => forL f (rs.map rowD) ρ' | .ct ρ' => forL f (rs.map rowD) ρ' | .bk ρ' => .nx ρ' | r => r) := fun _ => rfl
    have e0 : (MS.of (bindN (Ev n [0]) (.name 2) (rowD (p, l))) fun _ => denSs (Ev n [0]) (bodyOf b4)) (waysAt k F w s2 none) = denSs (Ev n [0]) (bodyOf b4) (waysAt k F w (some (0, tpl (p ++ [l]))) none) := rfl
    rw [List.map_cons, step, e0, e1]
    cases hc : leads F w p l with
    | true =>
      rw [List.find?_cons_of_pos (show leadsR F w (p, l) = true from hc), if_pos rfl]
      exact ⟨k1, _, rfl⟩
    | false =>
      rw [List.find?_cons_of_neg (show ¬ leadsR F w (p, l) = true by unfold leadsR; rw [hc]; exact Bool.false_ne_true), if_neg Bool.false_ne_true]
      exact ways_loop n F w hF hw rs k1 _ h.2
def found (F : List Str) (w : Str) : PV.D := match RS.find? (leadsR F w) with
  | some r => rowD r
  | none => .none
theorem sig_of {i : Nat} {r : DefR} (h : tab.defs[i]? = some r) : sigOf tab.P i = r.F.io := by
  unfold sigOf Tab.P
  rw [List.getElem?_map, h]; rfl
theorem ways_ok (n k : Nat) (F : List Str) (w : Str) (hF : okS F) (hw : PyData.strOk w = true) : ∃ k' j, PV.run tab.subF tab.P (n + 1) 4 [(k + 1, lst F), (0, .str w)] = some (.ret j (found F w) [(k' + 1, lst F)]) := by
  obtain ⟨k', s2, e⟩ := ways_loop n F w hF hw RS k none rs_ok
  have hi : ∀ ρ, denI (Ev n [0]) (.seq (.bin .add (.glob "ARROWS" g_ARROWS) (.glob "JOINT_ARROWS" g_JOINT_ARROWS))) ρ = .ok (RS.map rowD) ρ := fun ρ => by
    rw [← rs_rows]; rfl
  refine ⟨k', if (RS.find? (leadsR F w)).isSome = true then 9 else 9, ?_⟩
  unfold found
  cases hc : RS.find? (leadsR F w) with
  | some r =>
    rw [hc] at e
    refine call_rt (r := d4) (ρ := waysAt k' F w s2 none) rfl rfl ?_ rfl
    show denSs (Ev n [0]) b4 (waysAt k F w none none) = _
    unfold b4
    rw [denSs, denS]
    exact seq_rt (by rw [of_ok (hi _)]; exact e)
  | none =>
    rw [hc] at e
    refine call_rt (r := d4) (ρ := waysAt k' F w s2 none) rfl rfl ?_ rfl
    show denSs (Ev n [0]) b4 (waysAt k F w none none) = _
    unfold b4
    rw [denSs, denS]
    rw [seq_nx (ρ' := waysAt k' F w s2 none) (by rw [of_ok (hi _)]; exact e)]
    rfl
end Lk05

namespace Lk05
open PySem PV
/-! ### what words lead to -/
def W : List Str := (itemsOf g_WORDS).map fun d => match d with
  | .str x => x
  | _ => ""
theorem w_tpl : g_WORDS = tpl W := by kernel_rfl
theorem w_ok : W.all PyData.strOk = true := by kernel_rfl
theorem w_okS : okS W := fun z hz => List.all_eq_true.mp w_ok z hz
theorem rs_in : RS.all (fun r => decide (r.2 ∈ W)) = true := by decide +kernel
/-- all that follows -/
inductive Cl (S : List Str) : Str → Prop
  | base {w : Str} : w ∈ S → Cl S w
  | rule {r : Rule} : r ∈ RS → (∀ z ∈ r.1, Cl S z) → Cl S r.2
def missing (F : List Str) : Nat := (W.filter fun w => !decide (w ∈ F)).length
theorem filter_le {α : Type} {p q : α → Bool} : ∀ {l : List α}, (∀ x ∈ l, p x = true → q x = true) → (l.filter p).length ≤ (l.filter q).length
  | [], _ => Nat.le_refl _
  | x :: l, h => by
    have ih := filter_le (l := l) fun y hy => h y (List.mem_cons_of_mem _ hy)
    rw [List.filter_cons, List.filter_cons]
    cases hp : p x with
    | true =>
      rw [h x List.mem_cons_self hp, if_pos rfl, if_pos rfl]
      exact Nat.succ_le_succ ih
    | false =>
      rw [if_neg Bool.false_ne_true]
      split
      · exact Nat.le_succ_of_le ih
      · exact ih
theorem filter_lt {α : Type} {p q : α → Bool} {a : α} : ∀ {l : List α}, (∀ x ∈ l, p x = true → q x = true) → a ∈ l → p a = false → q a = true → (l.filter p).length < (l.filter q).length
  | x :: l, h, ha, hp, hq => by
    rw [List.filter_cons, List.filter_cons]
    by_cases e : a = x
    · subst e
      rw [hp, hq, if_neg Bool.false_ne_true, if_pos rfl]
      exact Nat.lt_succ_of_le (filter_le fun y hy => h y (List.mem_cons_of_mem _ hy))
    · have ha : a ∈ l := (List.mem_cons.mp ha).elim (fun z => absurd z e) id
      have ih := filter_lt (l := l) (fun y hy => h y (List.mem_cons_of_mem _ hy)) ha hp hq
      cases hx : p x with
      | true =>
        rw [h x List.mem_cons_self hx, if_pos rfl, if_pos rfl]
        exact Nat.succ_lt_succ ih
      | false =>
        rw [if_neg Bool.false_ne_true]
        split
        · exact Nat.lt_succ_of_lt ih
        · exact ih
theorem missing_lt {F : List Str} {w : Str} (hw : w ∈ W) (h : w ∉ F) : missing (F ++ [w]) < missing F := by
  refine filter_lt (a := w) (fun x _ hx => ?_) hw ?_ ?_
  · have hx : x ∉ F ++ [w] := by simpa using hx
    have : x ∉ F := fun z => hx (List.mem_append_left _ z)
    simp [this]
  · simp
  · simp [h]
/-- what is kept while words are found -/
structure Inv (S F : List Str) (T : List PV.D) : Prop where
  cl : ∀ w ∈ F, Cl S w
  sub : ∀ w ∈ S, w ∈ F
  few : T.length + missing F ≤ 18
  len : F.length ≤ S.length + T.length
  ok : okS F
abbrev St3 := List Str × List PV.D × Bool
def dstep (a : St3) (w : Str) : St3 := match RS.find? (leadsR a.1 w) with
  | some r => if w ∈ a.1 then a else (a.1 ++ [w], a.2.1 ++ [rowD r], true)
  | none => a
theorem leads_cl {S F : List Str} {w : Str} {r : Rule} (h : ∀ z ∈ F, Cl S z) (hr : RS.find? (leadsR F w) = some r) : Cl S w := by
  have h1 := List.mem_of_find?_eq_some hr
  have h2 : leadsR F w r = true := List.find?_some hr
  have h3 := Bool.and_eq_true_iff.mp h2
  have e : r.2 = w := by simpa using h3.1
  subst e
  exact .rule h1 fun z hz => h z (of_decide_eq_true (List.all_eq_true.mp h3.2 z hz))
theorem dstep_inv {S : List Str} {a : St3} {w : Str} (hw : w ∈ W) (i : Inv S a.1 a.2.1) : Inv S (dstep a w).1 (dstep a w).2.1 ∧ missing (dstep a w).1 ≤ missing a.1 ∧
    ((dstep a w).2.2 = false → dstep a w = a ∧ (w ∈ a.1 ∨ RS.find? (leadsR a.1 w) = none)) ∧ ((dstep a w).2.2 = true → a.2.2 = true ∨ missing (dstep a w).1 < missing a.1) := by
  cases hf : RS.find? (leadsR a.1 w) with
  | none =>
    have e : dstep a w = a := by unfold dstep; rw [hf]
    rw [e]
    exact ⟨i, Nat.le_refl _, fun _ => ⟨rfl, .inr rfl⟩, fun h => .inl h⟩
  | some r =>
    by_cases hm : w ∈ a.1
    · have e : dstep a w = a := by unfold dstep; rw [hf]; exact if_pos hm
      rw [e]
      exact ⟨i, Nat.le_refl _, fun _ => ⟨rfl, .inl hm⟩, fun h => .inl h⟩
    · have e : dstep a w = (a.1 ++ [w], a.2.1 ++ [rowD r], true) := by unfold dstep; rw [hf]; exact if_neg hm
      have lt := missing_lt hw hm
      rw [e]
      refine ⟨⟨fun z hz => ?_, fun z hz => List.mem_append_left _ (i.sub z hz), ?_, ?_, fun z hz => ?_⟩, Nat.le_of_lt lt, fun h => (by cases h), fun _ => .inr lt⟩
      · rcases List.mem_append.mp hz with hz | hz
        · exact i.cl z hz
        · rw [List.mem_singleton.mp hz]; exact leads_cl i.cl hf
      · have := i.few
        show (a.2.1 ++ [rowD r]).length + missing (a.1 ++ [w]) ≤ 18
        rw [List.length_append, List.length_singleton]; omega
      · have := i.len
        show (a.1 ++ [w]).length ≤ S.length + (a.2.1 ++ [rowD r]).length
        rw [List.length_append, List.length_append, List.length_singleton, List.length_singleton]; omega
      · rcases List.mem_append.mp hz with hz | hz
        · exact i.ok z hz
        · rw [List.mem_singleton.mp hz]; exact w_okS w hw
theorem dfold_inv {S : List Str} : ∀ (ws : List Str) {a : St3}, (∀ w ∈ ws, w ∈ W) → Inv S a.1 a.2.1 → Inv S (ws.foldl dstep a).1 (ws.foldl dstep a).2.1 ∧ missing (ws.foldl dstep a).1 ≤ missing a.1 ∧
    ((ws.foldl dstep a).2.2 = false → ws.foldl dstep a = a ∧ ∀ w ∈ ws, w ∈ a.1 ∨ RS.find? (leadsR a.1 w) = none) ∧ ((ws.foldl dstep a).2.2 = true → a.2.2 = true ∨ missing (ws.foldl dstep a).1 < missing a.1)
  | [], a, _, i => ⟨i, Nat.le_refl _, fun _ => ⟨rfl, fun _ h => (nomatch h)⟩, fun h => .inl h⟩
  | w :: ws, a, hw, i => by
    obtain ⟨i1, m1, f1, t1⟩ := dstep_inv (hw w List.mem_cons_self) i
    obtain ⟨i2, m2, f2, t2⟩ := dfold_inv ws (a := dstep a w) (fun z hz => hw z (List.mem_cons_of_mem _ hz)) i1
    rw [List.foldl_cons]
    refine ⟨i2, Nat.le_trans m2 m1, fun h => ?_, fun h => ?_⟩
    · obtain ⟨e2, q2⟩ := f2 h
      have hm : (dstep a w).2.2 = false := by rw [← e2]; exact h
      obtain ⟨e1, q1⟩ := f1 hm
      rw [e1] at e2 q2
      refine ⟨by rw [e1]; exact e2, fun z hz => ?_⟩
      rcases List.mem_cons.mp hz with rfl | hz
      · exact q1
      · exact q2 z hz
    · rcases t2 h with h2 | h2
      · rcases t1 h2 with h1 | h1
        · exact .inl h1
        · exact .inr (Nat.lt_of_le_of_lt m2 h1)
      · exact .inr (Nat.lt_of_lt_of_le h2 m1)
/-- nothing more follows -/
def Closed (F : List Str) : Prop := ∀ r ∈ RS, (∀ z ∈ r.1, z ∈ F) → r.2 ∈ F
theorem closed_of {F : List Str} (h : ∀ w ∈ W, w ∈ F ∨ RS.find? (leadsR F w) = none) : Closed F := fun r hr hp => by
  have hw : r.2 ∈ W := of_decide_eq_true (List.all_eq_true.mp rs_in r hr)
  rcases h r.2 hw with h | h
  · exact h
  · exfalso
    have z := List.find?_eq_none.mp h r hr
    apply z
    unfold leadsR leads
    rw [beq_self_eq_true, Bool.true_and]
    exact List.all_eq_true.mpr fun y hy => decide_eq_true (hp y hy)
theorem closed_cl {S F : List Str} (h : Closed F) (hs : ∀ w ∈ S, w ∈ F) {w : Str} (c : Cl S w) : w ∈ F := by
  induction c with
  | base h1 => exact hs _ h1
  | rule hr _ ih => exact h _ hr ih
end Lk05

namespace Lk05
open PySem PV
def dAt (S : List Str) (k : Nat) (F : List Str) (j : Nat) (T : List PV.D) (m : Bool) (x y : Option (Nat × PV.D)) : SEnv := [some (0, tpl S), some (k + 1, lst F), some (j + 1, .list T), some (0, .bool m), x, y]
def whileOf : CSs → CSs
  | .cons _ (.cons (.whil _ b) _) => b
  | _ => .nil
def forOf : CSs → CSs
  | .cons _ (.cons (.forr _ _ b) _) => b
  | _ => .nil
theorem size100 {n : Nat} (h : n < 100) : PV.sizeOk (n + 1) = true := decide_eq_true (Nat.le_trans (Nat.succ_le_of_lt h) (by decide))
theorem lst_app (F : List Str) (w : Str) : PyData.list (txs F ++ [.str w]) = lst (F ++ [w]) := by
  unfold lst
  rw [txs_app]; rfl
theorem call_ways (n k j : Nat) (S F : List Str) (T : List PV.D) (m : Bool) (w : Str) (y : Option (Nat × PV.D)) (hF : okS F) (hw : PyData.strOk w = true) :
    ∃ k' i, denE (Ev (n + 1) []) (.call 4 (.cons (.var 1) (.cons (.var 4) .nil))) (dAt S k F j T m (some (0, .str w)) y) = .ok (.pv i (found F w)) (dAt S k' F j T m (some (0, .str w)) y) := by
  obtain ⟨k', i, e⟩ := ways_ok n k F w hF hw
  refine ⟨k', i, ?_⟩
  show (match PV.run tab.subF tab.P (n + 1) 4 [(k + 1, lst F), (0, .str w)] with
    | some (.ret k d ios) => RE.ok (TV.pv k d) (putBack [true, false] [.var 1, .pv 0 (.str w)] ios [some (0, tpl S), none, some (j + 1, .list T), some (0, .bool m), some (0, .str w), y])
    | some (.exc e ios) => RE.ex e (putBack [true, false] [.var 1, .pv 0 (.str w)] ios [some (0, tpl S), none, some (j + 1, .list T), some (0, .bool m), some (0, .str w), y])
    | none => RE.no) = _
  rw [e]; rfl
theorem turn_ok (n k j : Nat) (S F : List Str) (T : List PV.D) (m : Bool) (w : Str) (y : Option (Nat × PV.D)) (hF : okS F) (hw : PyData.strOk w = true) (h1 : F.length < 100) (h2 : T.length < 100) :
    ∃ k' j' y', denSs (Ev (n + 1) []) (forOf (whileOf b5)) (dAt S k F j T m (some (0, .str w)) y) = .nx (dAt S k' (dstep (F, T, m) w).1 j' (dstep (F, T, m) w).2.1 (dstep (F, T, m) w).2.2 (some (0, .str w)) y') := by
  obtain ⟨k1, i, e1⟩ := call_ways n k j S F T m w y hF hw
  have hn := nin_lst hw hF
  have lv : ∀ a : Nat, min (a + 1) 1 = 1 := fun a => by omega
  -- the first statement
  have s1 : denS (Ev (n + 1) []) (.asg (.name 5) (.call 4 (.cons (.var 1) (.cons (.var 4) .nil)))) (dAt S k F j T m (some (0, .str w)) y) = .nx (dAt S k1 F j T m (some (0, .str w)) (some (0, found F w))) := by
    show MS.of (denE (Ev (n + 1) []) _) _ _ = _
    rw [of_ok e1]
    unfold found
    cases RS.find? (leadsR F w) <;> rfl
  have hA : denT (Ev (n + 1) []) (.cmp .nin (.var 4) (.var 1)) (dAt S k1 F j T m (some (0, .str w)) (some (0, found F w))) = .ok (!decide (w ∈ F)) (dAt S 0 F j T m (some (0, .str w)) (some (0, found F w))) := by
    show M.opt (cmpop .nin (.str w) (lst F)) [some (0, tpl S), some (min (k1 + 1) 1, lst F), some (j + 1, .list T), some (0, .bool m), some (0, .str w), some (0, found F w)] = _
    rw [hn, lv]; rfl
  have s2 : ∀ (b : Bool) (ρ' : SEnv), denT (Ev (n + 1) []) (.and (.cmp .nin (.var 4) (.var 1)) (.cmp .notN (.var 5) (.lit .none))) (dAt S k1 F j T m (some (0, .str w)) (some (0, found F w))) = .ok b ρ' →
      denSs (Ev (n + 1) []) (forOf (whileOf b5)) (dAt S k F j T m (some (0, .str w)) y) = MS.seq (fun ρ => if b = true then denSs (Ev (n + 1) []) (.cons (.app 1 (.var 4)) (.cons (.app 2 (.var 5)) (.cons (.asg (.name 3) (.lit (.bool true))) .nil))) ρ else .nx ρ) (fun ρ => .nx ρ) ρ' := fun b ρ' h => by
    show MS.seq (denS (Ev (n + 1) []) (.asg (.name 5) (.call 4 (.cons (.var 1) (.cons (.var 4) .nil))))) _ _ = _
    rw [seq_nx s1]
    show MS.seq (MS.of (denT (Ev (n + 1) []) _) _) _ _ = _
    unfold MS.seq MS.of
    rw [h]
    cases b <;> rfl
  cases hm : decide (w ∈ F) with
  | true =>
    have hm' : w ∈ F := of_decide_eq_true hm
    have hT : denT (Ev (n + 1) []) (.and (.cmp .nin (.var 4) (.var 1)) (.cmp .notN (.var 5) (.lit .none))) (dAt S k1 F j T m (some (0, .str w)) (some (0, found F w))) = .ok false (dAt S 0 F j T m (some (0, .str w)) (some (0, found F w))) := by
      show M.bind (denT (Ev (n + 1) []) _) _ _ = _
      rw [bind_at hA, hm]; rfl
    rw [s2 _ _ hT]
    refine ⟨0, j, some (0, found F w), ?_⟩
    have e : dstep (F, T, m) w = (F, T, m) := by
      unfold dstep
      cases RS.find? (leadsR (F, T, m).1 w) with
      | none => rfl
      | some r => exact if_pos hm'
    rw [e]; rfl
  | false =>
    have hm' : w ∉ F := of_decide_eq_false hm
    cases hf : RS.find? (leadsR F w) with
    | none =>
      have hT : denT (Ev (n + 1) []) (.and (.cmp .nin (.var 4) (.var 1)) (.cmp .notN (.var 5) (.lit .none))) (dAt S k1 F j T m (some (0, .str w)) (some (0, found F w))) = .ok false (dAt S 0 F j T m (some (0, .str w)) (some (0, found F w))) := by
        show M.bind (denT (Ev (n + 1) []) _) _ _ = _
        rw [bind_at hA, hm]
        unfold found
        rw [hf]; rfl
      rw [s2 _ _ hT]
      have e : dstep (F, T, m) w = (F, T, m) := by
        unfold dstep
        rw [show RS.find? (leadsR (F, T, m).1 w) = none from hf]
      rw [e]
      exact ⟨0, j, some (0, found F w), rfl⟩
    | some r =>
      have hT : denT (Ev (n + 1) []) (.and (.cmp .nin (.var 4) (.var 1)) (.cmp .notN (.var 5) (.lit .none))) (dAt S k1 F j T m (some (0, .str w)) (some (0, found F w))) = .ok true (dAt S 0 F j T m (some (0, .str w)) (some (0, rowD r))) := by
        show M.bind (denT (Ev (n + 1) []) _) _ _ = _
        rw [bind_at hA, hm]
        unfold found
        rw [hf]; rfl
      rw [s2 _ _ hT]
      refine ⟨0, min j 9, some (0, rowD r), ?_⟩
      have e : dstep (F, T, m) w = (F ++ [w], T ++ [rowD r], true) := by
        unfold dstep
        rw [show RS.find? (leadsR (F, T, m).1 w) = some r from hf]
        exact if_neg hm'
      rw [e]
      have a1 : denS (Ev (n + 1) []) (.app 1 (.var 4)) (dAt S 0 F j T m (some (0, .str w)) (some (0, rowD r))) = .nx (dAt S 0 (F ++ [w]) j T m (some (0, .str w)) (some (0, rowD r))) := by
        have hz : PV.sizeOk ((txs F).length + 1) = true := size100 (by unfold txs; rw [List.length_map]; exact h1)
        show MS.of (fun ρ => if PV.sizeOk ((txs F).length + 1) = true then RE.ok () [some (0, tpl S), some (1, .list (txs F ++ [.str w])), some (j + 1, .list T), some (0, .bool m), some (0, .str w), some (0, rowD r)] else .no) (fun _ => .nx) (dAt S 0 F j T m (some (0, .str w)) (some (0, rowD r))) = _
        unfold MS.of
        rw [if_pos hz, lst_app]; rfl
      have a2 : denS (Ev (n + 1) []) (.app 2 (.var 5)) (dAt S 0 (F ++ [w]) j T m (some (0, .str w)) (some (0, rowD r))) = .nx (dAt S 0 (F ++ [w]) (min j 9) (T ++ [rowD r]) m (some (0, .str w)) (some (0, rowD r))) := by
        have hz : PV.sizeOk (T.length + 1) = true := size100 h2
        show MS.of (fun ρ => if PV.sizeOk (T.length + 1) = true then RE.ok () [some (0, tpl S), some (0 + 1, lst (F ++ [w])), some (min (j + 1) (9 + 1), .list (T ++ [rowD r])), some (0, .bool m), some (0, .str w), some (0, rowD r)] else .no) (fun _ => .nx) (dAt S 0 (F ++ [w]) j T m (some (0, .str w)) (some (0, rowD r))) = _
        unfold MS.of
        rw [if_pos hz, show min (j + 1) (9 + 1) = min j 9 + 1 by omega]; rfl
      show MS.seq (fun ρ => if true = true then MS.seq (denS (Ev (n + 1) []) (.app 1 (.var 4))) (MS.seq (denS (Ev (n + 1) []) (.app 2 (.var 5))) (denSs (Ev (n + 1) []) (.cons (.asg (.name 3) (.lit (.bool true))) .nil))) ρ else .nx ρ) (fun ρ => .nx ρ) (dAt S 0 F j T m (some (0, .str w)) (some (0, rowD r))) = _
      refine (seq_nx (ρ' := dAt S 0 (F ++ [w]) (min j 9) (T ++ [rowD r]) true (some (0, .str w)) (some (0, rowD r))) ?_).trans rfl
      rw [if_pos rfl, seq_nx a1, seq_nx a2]
      rfl
theorem inv_small {S F : List Str} {T : List PV.D} (i : Inv S F T) (hS : S.length ≤ 50) : F.length < 100 ∧ T.length < 100 := by
  have h1 := i.few
  have h2 := i.len
  omega
theorem round_ok (n : Nat) (S : List Str) (hS : S.length ≤ 50) : ∀ (ws : List Str) (a : St3) (k j : Nat) (x y : Option (Nat × PV.D)), (∀ w ∈ ws, w ∈ W) → Inv S a.1 a.2.1 →
    ∃ k' j' x' y', forL (fun x => MS.of (bindN (Ev (n + 1) []) (.name 4) x) fun _ => denSs (Ev (n + 1) []) (forOf (whileOf b5))) (txs ws) (dAt S k a.1 j a.2.1 a.2.2 x y) = .nx (dAt S k' (ws.foldl dstep a).1 j' (ws.foldl dstep a).2.1 (ws.foldl dstep a).2.2 x' y')
  | [], a, k, j, x, y, _, _ => ⟨k, j, x, y, rfl⟩
  | w :: ws, a, k, j, x, y, hw, i => by
    obtain ⟨F, T, m⟩ := a
    obtain ⟨h1, h2⟩ := inv_small i hS
    obtain ⟨k1, j1, y1, e1⟩ := turn_ok n k j S F T m w y i.ok (w_okS w (hw w List.mem_cons_self)) h1 h2
    obtain ⟨i1, _⟩ := dstep_inv (hw w List.mem_cons_self) i
    obtain ⟨k2, j2, x2, y2, e2⟩ := round_ok n S hS ws (dstep (F, T, m) w) k1 j1 (some (0, .str w)) y1 (fun z hz => hw z (List.mem_cons_of_mem _ hz)) i1
    refine ⟨k2, j2, x2, y2, ?_⟩
    have step : ∀ (f : PV.D → MS) (ρ : SEnv), forL f (txs (w :: ws)) ρ = (match f (.str w) ρ with | .nx ρ' => forL f (txs ws) ρ' | .ct ρ' => forL f (txs ws) ρ' | .bk ρ' => .nx ρ' | r => r) := fun _ _ => rfl
    have e0 : (MS.of (bindN (Ev (n + 1) []) (.name 4) (.str w)) fun _ => denSs (Ev (n + 1) []) (forOf (whileOf b5))) (dAt S k F j T m x y) = denSs (Ev (n + 1) []) (forOf (whileOf b5)) (dAt S k F j T m (some (0, .str w)) y) := rfl
    rw [step]
    show (match (MS.of (bindN (Ev (n + 1) []) (.name 4) (.str w)) fun _ => denSs (Ev (n + 1) []) (forOf (whileOf b5))) (dAt S k F j T m x y) with | .nx ρ' => _ | .ct ρ' => _ | .bk ρ' => _ | r => _) = _
    rw [e0, e1]
    exact e2
theorem while_ok (n : Nat) (S : List Str) (hS : S.length ≤ 50) : ∀ (b : Nat) (F : List Str) (T : List PV.D) (k j : Nat) (x y : Option (Nat × PV.D)), missing F ≤ b → Inv S F T →
    ∃ F' T' k' j' x' y', whileM (denT (Ev (n + 1) []) (.val (.var 3))) (denSs (Ev (n + 1) []) (whileOf b5)) (dAt S k F j T true x y) = .nx (dAt S k' F' j' T' false x' y') ∧ Inv S F' T' ∧ Closed F' := by
  intro b
  induction b with
  | zero => exact fun F T k j x y hb i => go n S hS F T k j x y i (fun F' h => absurd (Nat.lt_of_lt_of_le h hb) (Nat.not_lt_zero _))
  | succ b ih => exact fun F T k j x y hb i => go n S hS F T k j x y i (fun F' h T' k j x y i' => ih F' T' k j x y (Nat.le_of_lt_succ (Nat.lt_of_lt_of_le h hb)) i')
where
  go (n : Nat) (S : List Str) (hS : S.length ≤ 50) (F : List Str) (T : List PV.D) (k j : Nat) (x y : Option (Nat × PV.D)) (i : Inv S F T)
      (ih : ∀ F', missing F' < missing F → ∀ (T' : List PV.D) (k j : Nat) (x y : Option (Nat × PV.D)), Inv S F' T' → ∃ F2 T2 k' j' x' y', whileM (denT (Ev (n + 1) []) (.val (.var 3))) (denSs (Ev (n + 1) []) (whileOf b5)) (dAt S k F' j T' true x y) = .nx (dAt S k' F2 j' T2 false x' y') ∧ Inv S F2 T2 ∧ Closed F2) :
      ∃ F' T' k' j' x' y', whileM (denT (Ev (n + 1) []) (.val (.var 3))) (denSs (Ev (n + 1) []) (whileOf b5)) (dAt S k F j T true x y) = .nx (dAt S k' F' j' T' false x' y') ∧ Inv S F' T' ∧ Closed F' := by
    obtain ⟨k1, j1, x1, y1, e1⟩ := round_ok n S hS W (F, T, false) k j x y (fun _ h => h) i
    obtain ⟨i1, m1, f1, t1⟩ := dfold_inv (S := S) W (a := (F, T, false)) (fun _ h => h) i
    have hb : denSs (Ev (n + 1) []) (whileOf b5) (dAt S k F j T true x y) = .nx (dAt S k1 (W.foldl dstep (F, T, false)).1 j1 (W.foldl dstep (F, T, false)).2.1 (W.foldl dstep (F, T, false)).2.2 x1 y1) := by
      show MS.seq (denS (Ev (n + 1) []) (.asg (.name 3) (.lit (.bool false)))) (MS.seq (MS.of (denI (Ev (n + 1) []) (.seq (.glob "WORDS" g_WORDS))) fun xs => forL (fun x => MS.of (bindN (Ev (n + 1) []) (.name 4) x) fun _ => denSs (Ev (n + 1) []) (forOf (whileOf b5))) xs) (denSs (Ev (n + 1) []) .nil)) _ = _
      have ha : denS (Ev (n + 1) []) (.asg (.name 3) (.lit (.bool false))) (dAt S k F j T true x y) = .nx (dAt S k F j T false x y) := rfl
      rw [seq_nx ha]
      have hi : denI (Ev (n + 1) []) (.seq (.glob "WORDS" g_WORDS)) (dAt S k F j T false x y) = .ok (txs W) (dAt S k F j T false x y) := by
        rw [w_tpl]; rfl
      rw [seq_nx (by rw [of_ok hi]; exact e1)]
      rfl
    rw [whileM_eq]
    have ht : ∀ (k j : Nat) (F : List Str) (T : List PV.D) (m : Bool) (x y : Option (Nat × PV.D)), denT (Ev (n + 1) []) (.val (.var 3)) (dAt S k F j T m x y) = .ok m (dAt S k F j T m x y) := fun _ _ _ _ _ _ _ => rfl
    rw [ht]
    simp only []
    rw [hb]
    simp only []
    generalize W.foldl dstep (F, T, false) = a at i1 m1 f1 t1 hb
    obtain ⟨F1, T1, m⟩ := a
    cases m with
    | false =>
      obtain ⟨e, q⟩ := f1 rfl
      rw [whileM_eq, ht]
      refine ⟨F1, T1, k1, j1, x1, y1, rfl, i1, ?_⟩
      have e2 : F1 = F := congrArg (·.1) e
      rw [e2]
      exact closed_of q
    | true =>
      rcases t1 rfl with h | h
      · cases h
      · exact ih F1 h T1 k1 j1 x1 y1 i1
end Lk05

namespace Lk05
open PySem PV
theorem klist_txs (S : List Str) : kList (txs S) = 9 := by
  unfold kList
  rw [if_neg]
  intro h
  obtain ⟨d, hd, hc⟩ := List.any_eq_true.mp h
  obtain ⟨z, _, rfl⟩ := List.mem_map.mp hd
  cases hc
theorem inv_start {S : List Str} (h : okS S) : Inv S S [] where
  cl := fun w hw => .base hw
  sub := fun w hw => hw
  few := by
    show 0 + (W.filter fun w => !decide (w ∈ S)).length ≤ 18
    have h1 := List.length_filter_le (fun w => !decide (w ∈ S)) W
    have h2 : W.length = 18 := by kernel_rfl
    omega
  len := Nat.le_refl _
  ok := h
theorem derived_ok (n : Nat) (S : List Str) (hS : S.length ≤ 50) (h : okS S) : ∃ F T, PV.run tab.subF tab.P (n + 2) 5 [(0, tpl S)] = some (.ret 9 (.tuple [lst F, .list T]) []) ∧ Inv S F T ∧ Closed F := by
  obtain ⟨F, T, k, j, x, y, e, i, c⟩ := while_ok n S hS (missing S) S [] 8 8 none none (Nat.le_refl _) (inv_start h)
  refine ⟨F, T, ?_, i, c⟩
  refine call_rt (r := d5) (ρ := [some (0, tpl S), some (0, lst F), some (0, .list T), some (0, .bool false), x, y]) rfl rfl ?_ rfl
  show denSs (Ev (n + 1) []) b5 [some (0, tpl S), none, none, none, none, none] = _
  have h1 : denS (Ev (n + 1) []) (.par [1, 2, 3] (.cons (.blt .lst (.cons (.var 0) .nil)) (.cons (.lst .nil) (.cons (.lit (.bool true)) .nil)))) [some (0, tpl S), none, none, none, none, none] = .nx (dAt S 8 S 8 [] true none none) := by
    have hb : blt .lst [tpl S] = some (9, lst S) := by
      show some (kList (txs S), PyData.list (txs S)) = _
      rw [klist_txs]; rfl
    have e1 : denE (Ev (n + 1) []) (.blt .lst (.cons (.var 0) .nil)) [some (0, tpl S), none, none, none, none, none] = .ok (.pv 9 (lst S)) [some (0, tpl S), none, none, none, none, none] := by
      show M.opt ((blt .lst [tpl S]).map fun x => TV.pv x.1 x.2) _ = _
      rw [hb]; rfl
    have e2 : denA (Ev (n + 1) []) (.cons (.blt .lst (.cons (.var 0) .nil)) (.cons (.lst .nil) (.cons (.lit (.bool true)) .nil))) [some (0, tpl S), none, none, none, none, none] = .ok [.pv 9 (lst S), .pv 9 (.list []), .pv 0 (.bool true)] [some (0, tpl S), none, none, none, none, none] := by
      show M.bind (denE (Ev (n + 1) []) _) _ _ = _
      rw [bind_at e1]; rfl
    rw [denS]
    unfold MS.of
    rw [bind_at e2]; rfl
  unfold b5
  rw [denSs, seq_nx h1, denSs]
  have h2 : denS (Ev (n + 1) []) (.whil (.val (.var 3)) (whileOf b5)) (dAt S 8 S 8 [] true none none) = .nx (dAt S k F j T false x y) := e
  exact (seq_nx h2).trans rfl
end Lk05

namespace Lk05
open PySem PV
theorem set_self {ρ : SEnv} {v : Nat} (h : v < ρ.length) : ρ.set v (ρ[v]?.join) = ρ := by
  apply List.ext_getElem?
  intro i
  by_cases e : v = i
  · subst e
    rw [List.getElem?_set_self h]
    cases h2 : ρ[v]? with
    | none => rw [List.getElem?_eq_none_iff] at h2; omega
    | some x => rfl
  · rw [List.getElem?_set_ne e]
def keepD (F : List Str) : PV.D → List PV.D
  | .str w => if decide (w ∈ F) = true then [.str w] else []
  | _ => []
theorem fold_keep (F : List Str) : ∀ (ws : List Str) (a : List PV.D), (txs ws).foldl (fun (a : Nat × List PV.D) x => ((9 : Nat), a.2 ++ keepD F x)) (9, a) = (9, a ++ txs (ws.filter fun w => decide (w ∈ F)))
  | [], a => by rw [show txs [] = [] from rfl]; simp [txs]
  | w :: ws, a => by
    show (txs ws).foldl _ (9, a ++ (if decide (w ∈ F) = true then [PyData.str w] else [])) = _
    rw [fold_keep F ws, List.filter_cons, List.append_assoc]
    split
    · rfl
    · rfl
/-- [w for w in ws if w in found] -/
theorem comp_filter (X : Env0) (u v : Nat) (it : CI) (ws F : List Str) (ρ : SEnv) (hws : okS ws) (hF : okS F) (hio : v ∉ X.io) (hv : v < ρ.length) (huv : u ≠ v) (hu : ρ[u]? = some (some (0, lst F))) (hst : still ρ [v] = true) (hl : ws.length ≤ 100)
    (hi : denI X it ρ = .ok (txs ws) ρ) : denE X (.comp [v] (.name v) it (.some (.cmp .inn (.var v) (.var u))) (.done (.var v))) ρ = .ok (.pv 9 (lst (ws.filter fun w => decide (w ∈ F)))) ρ := by
  have step : ∀ x xs (a : Nat × List PV.D) ρ1, (ρ1 = ρ.set v none ∧ a.1 = 9 ∧ a.2.length + (x :: xs).length ≤ 100 ∧ ∃ l : List Str, okS l ∧ x :: xs = txs l) →
      ∃ ρ', turnM [v] (bindN X (.name v) x) (denC X (.some (.cmp .inn (.var v) (.var u)))) (denG X (.done (.var v)) a) a ρ1 = .ok (9, a.2 ++ keepD F x) ρ' ∧
        ρ' = ρ.set v none ∧ (9 : Nat) = 9 ∧ (a.2 ++ keepD F x).length + xs.length ≤ 100 ∧ ∃ l : List Str, okS l ∧ xs = txs l := by
    rintro x xs ⟨a1, a2⟩ ρ1 ⟨rfl, rfl, hle, l, hlo, hx⟩
    cases l with
    | nil => cases hx
    | cons w l =>
      cases hx
      have hle : a2.length + (l.length + 1) ≤ 100 := by simpa [txs] using hle
      have hw := hlo w List.mem_cons_self
      have vlt : v < (ρ.set v none).length := by rw [List.length_set]; exact hv
      have e0 : bindN X (.name v) (.str w) (ρ.set v none) = .ok () ((ρ.set v none).set v (some (0, .str w))) := by
        show setSlot X.io v 0 (.str w) (ρ.set v none) = _
        unfold setSlot
        have c : (X.io.contains v || decide ((ρ.set v none).length ≤ v)) = false := by
          rw [Bool.or_eq_false_iff]
          exact ⟨by simpa using hio, decide_eq_false (by omega)⟩
        rw [c]; rfl
      have gv : ((ρ.set v none).set v (some (0, .str w)))[v]? = some (some (0, .str w)) := List.getElem?_set_self vlt
      have gu : ((ρ.set v none).set v (some (0, .str w)))[u]? = some (some (0, lst F)) := by
        rw [List.getElem?_set_ne huv.symm, List.getElem?_set_ne huv.symm, hu]
      have rv : rd v ((ρ.set v none).set v (some (0, .str w))) = .ok (.pv 0 (.str w)) ((ρ.set v none).set v (some (0, .str w))) := by unfold rd; rw [gv]; rfl
      have ru : rd u ((ρ.set v none).set v (some (0, .str w))) = .ok (.pv 0 (lst F)) ((ρ.set v none).set v (some (0, .str w))) := by unfold rd; rw [gu]; rfl
      have ec : denC X (.some (.cmp .inn (.var v) (.var u))) ((ρ.set v none).set v (some (0, .str w))) = .ok (decide (w ∈ F)) ((ρ.set v none).set v (some (0, .str w))) := by
        show denT X (.cmp .inn (.var v) (.var u)) _ = _
        rw [denT]
        show M.bind (rd v) _ _ = _
        rw [bind_at rv]
        show M.bind (rd u) _ _ = _
        rw [bind_at ru]
        show M.opt (cmpop .inn (.str w) (lst F)) _ = _
        rw [inn_lst hw hF]; rfl
      have wp : wipeE ((ρ.set v none).set v (some (0, .str w))) [v] = ρ.set v none := by
        show ((ρ.set v none).set v (some (0, .str w))).set v none = _
        rw [List.set_set, List.set_set]
      refine ⟨_, ?_, rfl, rfl, ?_, l, fun z hz => hlo z (List.mem_cons_of_mem _ hz), rfl⟩
      · unfold turnM
        rw [bind_at e0, bind_at ec]
        by_cases hm : decide (w ∈ F) = true
        · rw [if_pos hm]
          have hz : PV.sizeOk (a2.length + 1) = true := size100 (by omega)
          show RE.well (M.bind (rd v) (fun t => accum X.io (9, a2) t) _) _ = _
          rw [bind_at rv]
          show RE.well ((if PV.sizeOk (a2.length + 1) = true then M.pure (min 9 (9 + 1), a2 ++ [.str w]) else M.no) ((ρ.set v none).set v (some (0, .str w)))) _ = _
          rw [if_pos hz]
          show RE.ok (9, a2 ++ [.str w]) (wipeE _ [v]) = _
          rw [wp]
          show _ = RE.ok (9, a2 ++ (if decide (w ∈ F) = true then [PyData.str w] else [])) _
          rw [if_pos hm]
        · rw [if_neg hm]
          show RE.ok (9, a2) (wipeE _ [v]) = _
          rw [wp]
          show _ = RE.ok (9, a2 ++ (if decide (w ∈ F) = true then [PyData.str w] else [])) _
          rw [if_neg hm, List.append_nil]
      · show (a2 ++ (if decide (w ∈ F) = true then [PyData.str w] else [])).length + (txs l).length ≤ 100
        rw [List.length_append]
        have : (txs l).length = l.length := by unfold txs; rw [List.length_map]
        split <;> simp <;> omega
  obtain ⟨ρ', e, h, _⟩ := turns_ex (f := fun acc x => turnM [v] (bindN X (.name v) x) (denC X (.some (.cmp .inn (.var v) (.var u)))) (denG X (.done (.var v)) acc) acc)
    (g := fun a x => (9, a.2 ++ keepD F x)) (I := fun xs a ρ1 => ρ1 = ρ.set v none ∧ a.1 = 9 ∧ a.2.length + xs.length ≤ 100 ∧ ∃ l : List Str, okS l ∧ xs = txs l)
    (xs := txs ws) (a := (9, [])) (ρ := ρ.set v none) ⟨rfl, rfl, by unfold txs; simpa using hl, ws, hws, rfl⟩ step
  rw [denE, bind_at hi]
  rw [if_pos hst]
  show RE.well (turns _ (txs ws) (9, []) (ρ.set v none)) _ = _
  rw [e, fold_keep, h]
  show RE.ok (TV.pv 9 (.list ([] ++ txs (ws.filter fun w => decide (w ∈ F))))) ((ρ.set v none).set v (ρ[v]?.join)) = _
  rw [List.set_set, set_self hv]; rfl
/-! ### the checks -/
theorem w_len : W.length = 18 := by kernel_rfl
theorem nin_tpl {z : Str} {F : List Str} (hz : PyData.strOk z = true) (hF : okS F) : cmpop .nin (.str z) (tpl F) = some (!decide (z ∈ F)) := by
  show (if (SeqAt.shaped (.str z) && SeqAt.shaped (tpl F)) = true then some (!(txs F).any fun y => PyData.eqv y (.str z)) else none) = _
  rw [shaped_str hz, shaped_tpl hF, any_strs]; rfl
theorem check_word_ok (n : Nat) {w : Str} (hw : w ∈ W) : PV.run tab.subF tab.P (n + 1) 0 [(0, .str w)] = some (.ret 0 .none []) := by
  refine call_nx (r := d0) (ρ := [some (0, .str w)]) rfl rfl ?_ rfl
  show denSs (Ev n []) b0 [some (0, .str w)] = _
  have ht : denT (Ev n []) (.or (.not (.val (.isi (.var 0) [.str]))) (.cmp .nin (.var 0) (.glob "WORDS" g_WORDS))) [some (0, .str w)] = .ok false [some (0, .str w)] := by
    show M.opt (cmpop .nin (.str w) g_WORDS) [some (0, .str w)] = _
    rw [w_tpl, nin_tpl (w_okS w hw) w_okS, decide_eq_true hw]; rfl
  unfold b0
  rw [cons_at (ρ' := [some (0, .str w)]) (by rw [ite_at ht, if_neg Bool.false_ne_true, nil_at])]
  exact nil_at
/-- one word or two -/
def Few (S : List Str) : Prop := (∃ a, a ∈ W ∧ S = [a]) ∨ ∃ a b, a ∈ W ∧ b ∈ W ∧ S = [a, b]
theorem Few.mem {S : List Str} (h : Few S) : ∀ w ∈ S, w ∈ W := by
  rcases h with ⟨a, ha, rfl⟩ | ⟨a, b, ha, hb, rfl⟩
  · intro w hw; rw [List.mem_singleton.mp hw]; exact ha
  · intro w hw
    rcases List.mem_cons.mp hw with rfl | hw
    · exact ha
    · rw [List.mem_singleton.mp hw]; exact hb
theorem Few.okS {S : List Str} (h : Few S) : okS S := fun w hw => w_okS w (h.mem w hw)
theorem Few.len {S : List Str} (h : Few S) : S.length ≤ 50 := by
  rcases h with ⟨a, ha, rfl⟩ | ⟨a, b, ha, hb, rfl⟩ <;> simp
theorem check_turn (n : Nat) (S : List Str) (x : Option (Nat × PV.D)) {w : Str} (hw : w ∈ W) :
    (MS.of (bindN (Ev (n + 1) []) (.name 1) (.str w)) fun _ => denSs (Ev (n + 1) []) (.cons (.expr (.call 0 (.cons (.var 1) .nil))) .nil)) [some (0, tpl S), x] = .nx [some (0, tpl S), some (0, .str w)] := by
  have e : denE (Ev (n + 1) []) (.call 0 (.cons (.var 1) .nil)) [some (0, tpl S), some (0, .str w)] = .ok (.pv 0 .none) [some (0, tpl S), some (0, .str w)] := by
    show (match PV.run tab.subF tab.P (n + 1) 0 [(0, .str w)] with
      | some (.ret k d ios) => RE.ok (TV.pv k d) (putBack [false] [.pv 0 (.str w)] ios [some (0, tpl S), some (0, .str w)])
      | some (.exc e ios) => RE.ex e (putBack [false] [.pv 0 (.str w)] ios [some (0, tpl S), some (0, .str w)])
      | none => RE.no) = _
    rw [check_word_ok n hw]; rfl
  show denSs (Ev (n + 1) []) (.cons (.expr (.call 0 (.cons (.var 1) .nil))) .nil) [some (0, tpl S), some (0, .str w)] = _
  exact one_at (by rw [denS, of_ok e])
theorem check_loop (n : Nat) (S : List Str) : ∀ (ws : List Str) (x : Option (Nat × PV.D)), (∀ w ∈ ws, w ∈ W) →
    ∃ x', forL (fun x => MS.of (bindN (Ev (n + 1) []) (.name 1) x) fun _ => denSs (Ev (n + 1) []) (.cons (.expr (.call 0 (.cons (.var 1) .nil))) .nil)) (txs ws) [some (0, tpl S), x] = .nx [some (0, tpl S), x']
  | [], x, _ => ⟨x, rfl⟩
  | w :: ws, x, h => by
    obtain ⟨x', e⟩ := check_loop n S ws (some (0, .str w)) fun z hz => h z (List.mem_cons_of_mem _ hz)
    refine ⟨x', ?_⟩
    show forL _ (.str w :: txs ws) _ = _
    rw [forL]
    simp only [check_turn n S x (h w List.mem_cons_self)]
    exact e
theorem check_words_ok (n : Nat) {S : List Str} (h : Few S) : PV.run tab.subF tab.P (n + 2) 3 [(0, tpl S)] = some (.ret 0 .none []) := by
  obtain ⟨x, e⟩ := check_loop n S S none h.mem
  refine call_nx (r := d3) (ρ := [some (0, tpl S), x]) rfl rfl ?_ rfl
  show denSs (Ev (n + 1) []) b3 [some (0, tpl S), none] = _
  have ht : denT (Ev (n + 1) []) (.or (.not (.val (.isi (.var 0) [.tup]))) (.not (.chain .le .le (.lit (.int 1)) (.blt .len (.cons (.var 0) .nil)) (.lit (.int 2))))) [some (0, tpl S), none] = .ok false [some (0, tpl S), none] := by
    rcases h with ⟨a, ha, rfl⟩ | ⟨a, b, ha, hb, rfl⟩ <;> rfl
  have hi : denI (Ev (n + 1) []) (.seq (.var 0)) [some (0, tpl S), none] = .ok (txs S) [some (0, tpl S), none] := rfl
  unfold b3
  rw [cons_at (ρ' := [some (0, tpl S), none]) (by rw [ite_at ht, if_neg Bool.false_ne_true, nil_at])]
  exact one_at (by rw [denS, of_ok hi]; exact e)
/-- what is forced, in the words' order -/
theorem all_forced_ok (n : Nat) {S : List Str} (h : Few S) : ∃ F : List Str, (∀ w, w ∈ F ↔ Cl S w) ∧ PV.run tab.subF tab.P (n + 3) 6 [(0, tpl S)] = some (.ret 9 (tpl (W.filter fun w => decide (w ∈ F))) []) := by
  obtain ⟨F, T, e, i, c⟩ := derived_ok n S h.len h.okS
  refine ⟨F, fun w => ⟨i.cl w, closed_cl c i.sub⟩, ?_⟩
  refine call_rt (r := d6) (ρ := [some (0, tpl S), some (0, lst F), none]) rfl rfl ?_ rfl
  show denSs (Ev (n + 2) []) b6 [some (0, tpl S), none, none] = _
  have e1 : denE (Ev (n + 2) []) (.call 3 (.cons (.var 0) .nil)) [some (0, tpl S), none, none] = .ok (.pv 0 .none) [some (0, tpl S), none, none] := by
    show (match PV.run tab.subF tab.P (n + 2) 3 [(0, tpl S)] with
      | some (.ret k d ios) => RE.ok (TV.pv k d) (putBack [false] [.pv 0 (tpl S)] ios [some (0, tpl S), none, none])
      | some (.exc e ios) => RE.ex e (putBack [false] [.pv 0 (tpl S)] ios [some (0, tpl S), none, none])
      | none => RE.no) = _
    rw [check_words_ok n h]; rfl
  have e2 : denE (Ev (n + 2) []) (.call 5 (.cons (.var 0) .nil)) [some (0, tpl S), none, none] = .ok (.pv 9 (.tuple [lst F, .list T])) [some (0, tpl S), none, none] := by
    show (match PV.run tab.subF tab.P (n + 2) 5 [(0, tpl S)] with
      | some (.ret k d ios) => RE.ok (TV.pv k d) (putBack [false] [.pv 0 (tpl S)] ios [some (0, tpl S), none, none])
      | some (.exc e ios) => RE.ex e (putBack [false] [.pv 0 (tpl S)] ios [some (0, tpl S), none, none])
      | none => RE.no) = _
    rw [e]; rfl
  have e3 : denE (Ev (n + 2) []) (.idx (.call 5 (.cons (.var 0) .nil)) (.lit (.int 0))) [some (0, tpl S), none, none] = .ok (.pv 0 (lst F)) [some (0, tpl S), none, none] := by
    rw [denE, bind_at e2]; rfl
  have e4 : denE (Ev (n + 2) []) (.comp [2] (.name 2) (.seq (.glob "WORDS" g_WORDS)) (.some (.cmp .inn (.var 2) (.var 1))) (.done (.var 2))) [some (0, tpl S), some (0, lst F), none] = .ok (.pv 9 (lst (W.filter fun w => decide (w ∈ F)))) [some (0, tpl S), some (0, lst F), none] :=
    comp_filter (Ev (n + 2) []) 1 2 _ W F _ w_okS i.ok (by simp) (by simp) (by decide) rfl rfl (by rw [w_len]; decide) (by rw [w_tpl]; rfl)
  have e5 : denA (Ev (n + 2) []) (.cons (.comp [2] (.name 2) (.seq (.glob "WORDS" g_WORDS)) (.some (.cmp .inn (.var 2) (.var 1))) (.done (.var 2))) .nil) [some (0, tpl S), some (0, lst F), none] = .ok [.pv 9 (lst (W.filter fun w => decide (w ∈ F)))] [some (0, tpl S), some (0, lst F), none] := by
    rw [denA, bind_at e4]; rfl
  have e6 : denE (Ev (n + 2) []) (.blt .tup (.cons (.comp [2] (.name 2) (.seq (.glob "WORDS" g_WORDS)) (.some (.cmp .inn (.var 2) (.var 1))) (.done (.var 2))) .nil)) [some (0, tpl S), some (0, lst F), none] = .ok (.pv 0 (tpl (W.filter fun w => decide (w ∈ F)))) [some (0, tpl S), some (0, lst F), none] := by
    rw [denE, bind_at e5]; rfl
  unfold b6
  rw [cons_at (ρ' := [some (0, tpl S), none, none]) (by rw [denS, of_ok e1])]
  rw [cons_at (ρ' := [some (0, tpl S), some (0, lst F), none]) (by rw [denS, of_ok e3]; rfl)]
  rw [denSs]
  refine seq_rt ?_
  rw [denS]
  unfold MS.of
  rw [bind_at e6]; rfl
/-- does one force another -/
theorem does_force_ok (n : Nat) {S : List Str} (h : Few S) {w : Str} (hw : w ∈ W) : ∃ b : Bool, (b = true ↔ Cl S w) ∧ PV.run tab.subF tab.P (n + 4) 7 [(0, tpl S), (0, .str w)] = some (.ret 9 (.bool b) []) := by
  obtain ⟨F, hc, e⟩ := all_forced_ok n h
  refine ⟨decide (w ∈ W.filter fun w => decide (w ∈ F)), ?_, ?_⟩
  · rw [decide_eq_true_iff, List.mem_filter, decide_eq_true_iff, hc]
    exact ⟨fun z => z.2, fun z => ⟨hw, z⟩⟩
  · refine call_rt (r := d7) (ρ := [some (0, tpl S), some (0, .str w)]) rfl rfl ?_ rfl
    show denSs (Ev (n + 3) []) b7 [some (0, tpl S), some (0, .str w)] = _
    have e1 : denE (Ev (n + 3) []) (.call 0 (.cons (.var 1) .nil)) [some (0, tpl S), some (0, .str w)] = .ok (.pv 0 .none) [some (0, tpl S), some (0, .str w)] := by
      show (match PV.run tab.subF tab.P (n + 3) 0 [(0, .str w)] with
        | some (.ret k d ios) => RE.ok (TV.pv k d) (putBack [false] [.pv 0 (.str w)] ios [some (0, tpl S), some (0, .str w)])
        | some (.exc e ios) => RE.ex e (putBack [false] [.pv 0 (.str w)] ios [some (0, tpl S), some (0, .str w)])
        | none => RE.no) = _
      rw [check_word_ok (n + 2) hw]; rfl
    have e2 : denE (Ev (n + 3) []) (.call 6 (.cons (.var 0) .nil)) [some (0, tpl S), some (0, .str w)] = .ok (.pv 9 (tpl (W.filter fun w => decide (w ∈ F)))) [some (0, tpl S), some (0, .str w)] := by
      show (match PV.run tab.subF tab.P (n + 3) 6 [(0, tpl S)] with
        | some (.ret k d ios) => RE.ok (TV.pv k d) (putBack [false] [.pv 0 (tpl S)] ios [some (0, tpl S), some (0, .str w)])
        | some (.exc e ios) => RE.ex e (putBack [false] [.pv 0 (tpl S)] ios [some (0, tpl S), some (0, .str w)])
        | none => RE.no) = _
      rw [e]; rfl
    have hok : okS (W.filter fun w => decide (w ∈ F)) := fun z hz => w_okS z (List.mem_filter.mp hz).1
    have e3 : denE (Ev (n + 3) []) (.cmp .inn (.var 1) (.call 6 (.cons (.var 0) .nil))) [some (0, tpl S), some (0, .str w)] = .ok (.pv 0 (.bool (decide (w ∈ W.filter fun w => decide (w ∈ F))))) [some (0, tpl S), some (0, .str w)] := by
      rw [denE]
      have r1 : denE (Ev (n + 3) []) (.var 1) [some (0, tpl S), some (0, .str w)] = .ok (.pv 0 (.str w)) [some (0, tpl S), some (0, .str w)] := rfl
      rw [bind_at r1, bind_at e2]
      show M.opt ((cmpop .inn (.str w) (tpl (W.filter fun w => decide (w ∈ F)))).map fun c => TV.pv 0 (.bool c)) _ = _
      rw [inn_tpl (w_okS w hw) hok]; rfl
    unfold b7
    rw [cons_at (ρ' := [some (0, tpl S), some (0, .str w)]) (by rw [denS, of_ok e1])]
    rw [denSs]
    refine seq_rt ?_
    rw [denS]
    unfold MS.of
    rw [bind_at e3]; rfl
end Lk05

namespace Lk05
open PySem PV
theorem arr_ok (n : Nat) : PV.run tab.subF tab.P (n + 1) 12 [] = some (.ret 9 (.list (itemsOf g_ARROWS)) []) := by kernel_rfl
theorem joint_ok (n : Nat) : PV.run tab.subF tab.P (n + 1) 13 [] = some (.ret 9 (.list (itemsOf g_JOINT_ARROWS)) []) := by kernel_rfl
theorem words_ok (n : Nat) : PV.run tab.subF tab.P (n + 1) 11 [] = some (.ret 9 (lst W) []) := by kernel_rfl
theorem arrows_ok (n : Nat) (ρ : SEnv) : denT (Ev (n + 1) []) (.or (.cmp .ne (.call0 1) (.blt .tup (.cons (.blt .sorted (.cons (.call0 12) .nil)) .nil))) (.cmp .ne (.call0 2) (.blt .tup (.cons (.blt .sorted (.cons (.call0 13) .nil)) .nil)))) ρ = .ok false ρ := by kernel_rfl
def ldAt (S : List Str) (k : Nat) (F : List Str) (x y : Option (Nat × PV.D)) : SEnv := [some (0, tpl S), some (k + 1, lst F), x, y, none]
def inner14 : CSs → CSs
  | .cons _ (.cons (.forr _ _ (.cons (.forr _ _ b) _)) _) => b
  | _ => .nil
def lstep (F : List Str) (r : Rule) : List Str := if decide (r.2 ∈ F) = false ∧ (r.1.all fun z => decide (z ∈ F)) = true then F ++ [r.2] else F
end Lk05

namespace Lk05
open PySem PV
theorem rules_all : RS = (RS : List Rule) := rfl
/-- what is kept while the law's own words are found -/
structure LInv (S F : List Str) : Prop where
  cl : ∀ w ∈ F, Cl S w
  sub : ∀ w ∈ S, w ∈ F
  len : F.length + missing F ≤ S.length + 18
  ok : okS F
theorem lstep_inv {S F : List Str} {r : Rule} (hr : r ∈ RS) (i : LInv S F) : LInv S (lstep F r) ∧ missing (lstep F r) ≤ missing F ∧ (missing (lstep F r) = missing F → lstep F r = F ∧ ((∀ z ∈ r.1, z ∈ F) → r.2 ∈ F)) := by
  have hw : r.2 ∈ W := of_decide_eq_true (List.all_eq_true.mp rs_in r hr)
  unfold lstep
  by_cases c : decide (r.2 ∈ F) = false ∧ (r.1.all fun z => decide (z ∈ F)) = true
  · rw [if_pos c]
    have hn : r.2 ∉ F := of_decide_eq_false c.1
    have lt := missing_lt hw hn
    have hp : ∀ z ∈ r.1, z ∈ F := fun z hz => of_decide_eq_true (List.all_eq_true.mp c.2 z hz)
    refine ⟨⟨fun z hz => ?_, fun z hz => List.mem_append_left _ (i.sub z hz), ?_, fun z hz => ?_⟩, Nat.le_of_lt lt, fun h => by omega⟩
    · rcases List.mem_append.mp hz with hz | hz
      · exact i.cl z hz
      · rw [List.mem_singleton.mp hz]; exact .rule hr fun y hy => i.cl y (hp y hy)
    · have := i.len
      rw [List.length_append, List.length_singleton]; omega
    · rcases List.mem_append.mp hz with hz | hz
      · exact i.ok z hz
      · rw [List.mem_singleton.mp hz]; exact w_okS _ hw
  · rw [if_neg c]
    refine ⟨i, Nat.le_refl _, fun _ => ⟨rfl, fun hp => ?_⟩⟩
    by_cases hm : r.2 ∈ F
    · exact hm
    · exact absurd ⟨decide_eq_false hm, List.all_eq_true.mpr fun z hz => decide_eq_true (hp z hz)⟩ c
theorem lfold_inv {S : List Str} : ∀ (rs : List Rule) {F : List Str}, (∀ r ∈ rs, r ∈ RS) → LInv S F → LInv S (rs.foldl lstep F) ∧ missing (rs.foldl lstep F) ≤ missing F ∧ (missing (rs.foldl lstep F) = missing F → rs.foldl lstep F = F ∧ ∀ r ∈ rs, (∀ z ∈ r.1, z ∈ F) → r.2 ∈ F)
  | [], F, _, i => ⟨i, Nat.le_refl _, fun _ => ⟨rfl, fun _ h => (nomatch h)⟩⟩
  | r :: rs, F, hr, i => by
    obtain ⟨i1, m1, q1⟩ := lstep_inv (hr r List.mem_cons_self) i
    obtain ⟨i2, m2, q2⟩ := lfold_inv rs (F := lstep F r) (fun z hz => hr z (List.mem_cons_of_mem _ hz)) i1
    rw [List.foldl_cons]
    refine ⟨i2, Nat.le_trans m2 m1, fun h => ?_⟩
    obtain ⟨e1, p1⟩ := q1 (by omega)
    rw [e1] at q2 m2 h ⊢
    obtain ⟨e2, p2⟩ := q2 h
    exact ⟨e2, fun x hx => (List.mem_cons.mp hx).elim (fun e => e ▸ p1) (p2 x)⟩
def rounds : Nat → List Str → List Str
  | 0, F => F
  | n + 1, F => rounds n (RS.foldl lstep F)
theorem rounds_inv {S : List Str} : ∀ (n : Nat) {F : List Str}, LInv S F → missing F < n → LInv S (rounds n F) ∧ Closed (rounds n F)
  | 0, F, _, h => absurd h (Nat.not_lt_zero _)
  | n + 1, F, i, h => by
    obtain ⟨i1, m1, q1⟩ := lfold_inv RS (F := F) (fun _ h => h) i
    by_cases e : missing (RS.foldl lstep F) = missing F
    · obtain ⟨e1, c1⟩ := q1 e
      have st : ∀ m, rounds m F = F := by
        intro m
        induction m with
        | zero => rfl
        | succ m ih => show rounds m (RS.foldl lstep F) = F; rw [e1]; exact ih
      rw [st (n + 1)]
      exact ⟨i, c1⟩
    · have h2 : missing (RS.foldl lstep F) < n := by omega
      exact rounds_inv n i1 h2
theorem linv_start {S : List Str} (h : okS S) : LInv S S ∧ missing S < 20 := by
  have h1 := List.length_filter_le (fun w => !decide (w ∈ S)) W
  have h2 := w_len
  have h3 : missing S ≤ 18 := by unfold missing; omega
  exact ⟨⟨fun w hw => .base hw, fun w hw => hw, by omega, h⟩, by omega⟩
end Lk05

namespace Lk05
open PySem PV
def lq (S : List Str) (k : Nat) (F : List Str) (x y z : Option (Nat × PV.D)) : SEnv := [some (0, tpl S), some (k + 1, lst F), x, y, z]
theorem led_all (n k : Nat) (S F : List Str) (x0 : Option (Nat × PV.D)) (r : List Str) (hF : okS F) (hr : okS r) (hl : r.length ≤ 100) :
    ∃ k', denE (Ev n []) (.comp [4] (.name 4) (.seq (.sl (.var 3) .none (.some (.un .neg (.lit (.int 1)))))) .none (.done (.cmp .inn (.var 4) (.var 1)))) (lq S k F x0 (some (0, tpl r)) none) =
      .ok (.pv 9 (.list (ins F r.dropLast))) (lq S k' F x0 (some (0, tpl r)) none) := by
  have hi : denI (Ev n []) (.seq (.sl (.var 3) .none (.some (.un .neg (.lit (.int 1)))))) (lq S k F x0 (some (0, tpl r)) none) = .ok (txs r.dropLast) (lq S k F x0 (some (0, tpl r)) none) := by
    have e : sliceD none (some (-1)) (tpl r) = some (0, .tuple (txs r.dropLast)) := by
      show some (0, PyData.tuple (cutD (txs r) none (some (-1)))) = _
      rw [cut_last]
      unfold txs
      rw [List.map_dropLast]
    show (M.bind (fun ρ => (M.opt ((sliceD none (some (-1)) (tpl r)).map fun x => TV.pv x.1 x.2)) ρ) fun s => (frz [] s).bind fun d => M.opt (seqItems d)) _ = _
    rw [e]; rfl
  have step : ∀ x xs a ρ, (∃ k', ρ = lq S k' F x0 (some (0, tpl r)) none ∧ a.2.length + (x :: xs).length ≤ 100 ∧ ∃ l, okS l ∧ x :: xs = txs l) →
      ∃ ρ', turnM [4] (bindN (Ev n []) (.name 4) x) (denC (Ev n []) .none) (denG (Ev n []) (.done (.cmp .inn (.var 4) (.var 1))) a) a ρ = .ok (gIn F a x) ρ' ∧
        ∃ k', ρ' = lq S k' F x0 (some (0, tpl r)) none ∧ (gIn F a x).2.length + xs.length ≤ 100 ∧ ∃ l, okS l ∧ xs = txs l := by
    rintro x xs a ρ ⟨k1, rfl, hl, l, hlo, hx⟩
    cases l with
    | nil => cases hx
    | cons z l =>
      cases hx
      refine ⟨lq S 0 F x0 (some (0, tpl r)) none, ?_, 0, rfl, ?_, l, fun y hy => hlo y (List.mem_cons_of_mem _ hy), rfl⟩
      · have hin := inn_lst (hlo z List.mem_cons_self) hF
        have hz : PV.sizeOk (a.2.length + 1) = true := by
          unfold PV.sizeOk
          refine decide_eq_true (Nat.le_trans (?_ : _ ≤ 100) (by decide))
          rw [List.length_cons] at hl; omega
        have h1 : denE (Ev n []) (.cmp .inn (.var 4) (.var 1)) (lq S k1 F x0 (some (0, tpl r)) (some (0, .str z))) = .ok (.pv 0 (.bool (decide (z ∈ F)))) (lq S 0 F x0 (some (0, tpl r)) (some (0, .str z))) := by
          show (M.opt ((cmpop .inn (.str z) (lst F)).map fun c => TV.pv 0 (.bool c))) [some (0, tpl S), some (min (k1 + 1) 1, lst F), x0, some (0, tpl r), some (0, .str z)] = _
          rw [hin, show min (k1 + 1) 1 = 1 by omega]; rfl
        show RE.well (M.bind (denE (Ev n []) (.cmp .inn (.var 4) (.var 1))) (fun t => accum [] a t) (lq S k1 F x0 (some (0, tpl r)) (some (0, .str z)))) _ = _
        rw [bind_at h1]
        show RE.well ((if PV.sizeOk (a.2.length + 1) = true then M.pure (min a.1 10, a.2 ++ [.bool (decide (z ∈ F))]) else M.no) (lq S 0 F x0 (some (0, tpl r)) (some (0, .str z)))) _ = _
        rw [if_pos hz]; rfl
      · show (a.2 ++ [_]).length + _ ≤ 100
        rw [List.length_append, List.length_singleton]
        rw [List.length_cons] at hl
        omega
  obtain ⟨ρ', e, k', hk⟩ := turns_ex (f := fun acc x => turnM [4] (bindN (Ev n []) (.name 4) x) (denC (Ev n []) .none) (denG (Ev n []) (.done (.cmp .inn (.var 4) (.var 1))) acc) acc) (g := gIn F)
    (I := fun xs a ρ => ∃ k', ρ = lq S k' F x0 (some (0, tpl r)) none ∧ a.2.length + xs.length ≤ 100 ∧ ∃ l, okS l ∧ xs = txs l) (xs := txs r.dropLast) (a := (9, [])) (ρ := lq S k F x0 (some (0, tpl r)) none)
    ⟨k, rfl, by unfold txs; simp; omega, r.dropLast, fun z hz => hr z (List.dropLast_subset r hz), rfl⟩ step
  refine ⟨k', ?_⟩
  show M.bind (denI (Ev n []) _) _ _ = _
  rw [bind_at hi]
  show (if still (lq S k F x0 (some (0, tpl r)) none) [4] = true then RE.well (turns _ (txs r.dropLast) (9, []) (wipeE (lq S k F x0 (some (0, tpl r)) none) [4])) _ else RE.no) = _
  rw [if_pos (show still (lq S k F x0 (some (0, tpl r)) none) [4] = true from rfl)]
  show RE.well (turns _ (txs r.dropLast) (9, []) (lq S k F x0 (some (0, tpl r)) none)) _ = _
  rw [e, fold_in, hk.1]
  rfl
theorem led_row (n k : Nat) (S F : List Str) (x0 : Option (Nat × PV.D)) (r : Rule) (hF : okS F) (hr : okS (r.1 ++ [r.2])) (hl : (r.1 ++ [r.2]).length ≤ 100) (h1 : F.length < 100) :
    ∃ k', denSs (Ev n []) (inner14 b14) (lq S k F x0 (some (0, rowD r)) none) = .nx (lq S k' (lstep F r) x0 (some (0, rowD r)) none) := by
  obtain ⟨p, l⟩ := r
  have hlo : PyData.strOk l = true := hr l (by simp)
  have hI : ∀ k, denE (Ev n []) (.idx (.var 3) (.un .neg (.lit (.int 1)))) (lq S k F x0 (some (0, tpl (p ++ [l]))) none) = .ok (.pv 0 (.str l)) (lq S k F x0 (some (0, tpl (p ++ [l]))) none) := fun k => by
    show (M.opt ((idxD (tpl (p ++ [l])) (.int (-1))).map (TV.pv 0))) _ = _
    rw [idx_last]; rfl
  have hA : denT (Ev n []) (.cmp .nin (.idx (.var 3) (.un .neg (.lit (.int 1)))) (.var 1)) (lq S k F x0 (some (0, tpl (p ++ [l]))) none) = .ok (!decide (l ∈ F)) (lq S 0 F x0 (some (0, tpl (p ++ [l]))) none) := by
    rw [denT, bind_at (hI k)]
    show M.opt (cmpop .nin (.str l) (lst F)) [some (0, tpl S), some (min (k + 1) 1, lst F), x0, some (0, tpl (p ++ [l])), none] = _
    rw [nin_lst hlo hF, show min (k + 1) 1 = 1 by omega]; rfl
  obtain ⟨k', hB⟩ := led_all n 0 S F x0 (p ++ [l]) hF hr hl
  rw [List.dropLast_concat] at hB
  have hB2 : denT (Ev n []) (.val (.blt .all (.cons (.comp [4] (.name 4) (.seq (.sl (.var 3) .none (.some (.un .neg (.lit (.int 1)))))) .none (.done (.cmp .inn (.var 4) (.var 1)))) .nil))) (lq S 0 F x0 (some (0, tpl (p ++ [l]))) none) =
      .ok (p.all fun z => decide (z ∈ F)) (lq S k' F x0 (some (0, tpl (p ++ [l]))) none) := by
    have hb : blt .all [.list (ins F p)] = some (0, .bool (p.all fun z => decide (z ∈ F))) := by
      show (boolsOf (ins F p)).map (fun l => (0, PyData.bool (l.all id))) = _
      rw [all_ins]
      show some (0, PyData.bool ((p.map fun z => decide (z ∈ F)).all id)) = _
      rw [all_map]
    have e1 : denA (Ev n []) (.cons (.comp [4] (.name 4) (.seq (.sl (.var 3) .none (.some (.un .neg (.lit (.int 1)))))) .none (.done (.cmp .inn (.var 4) (.var 1)))) .nil) (lq S 0 F x0 (some (0, tpl (p ++ [l]))) none) = .ok [.pv 9 (.list (ins F p))] (lq S k' F x0 (some (0, tpl (p ++ [l]))) none) := by
      show M.bind (denE (Ev n []) _) _ _ = _
      rw [bind_at hB]; rfl
    have e2 : denE (Ev n []) (.blt .all (.cons (.comp [4] (.name 4) (.seq (.sl (.var 3) .none (.some (.un .neg (.lit (.int 1)))))) .none (.done (.cmp .inn (.var 4) (.var 1)))) .nil)) (lq S 0 F x0 (some (0, tpl (p ++ [l]))) none) = .ok (.pv 0 (.bool (p.all fun z => decide (z ∈ F)))) (lq S k' F x0 (some (0, tpl (p ++ [l]))) none) := by
      show M.bind (denA (Ev n []) _) _ _ = _
      rw [bind_at e1]
      show M.opt ((blt .all [.list (ins F p)]).map fun x => TV.pv x.1 x.2) _ = _
      rw [hb]; rfl
    show M.bind (denE (Ev n []) _) _ _ = _
    rw [bind_at e2]; rfl
  have hT : ∃ k', denT (Ev n []) (.and (.cmp .nin (.idx (.var 3) (.un .neg (.lit (.int 1)))) (.var 1)) (.val (.blt .all (.cons (.comp [4] (.name 4) (.seq (.sl (.var 3) .none (.some (.un .neg (.lit (.int 1)))))) .none (.done (.cmp .inn (.var 4) (.var 1)))) .nil)))) (lq S k F x0 (some (0, tpl (p ++ [l]))) none) =
      .ok (!decide (l ∈ F) && p.all fun z => decide (z ∈ F)) (lq S k' F x0 (some (0, tpl (p ++ [l]))) none) := by
    cases hlw : decide (l ∈ F) with
    | true =>
      refine ⟨0, ?_⟩
      show M.bind (denT (Ev n []) _) _ _ = _
      rw [bind_at hA, hlw]; rfl
    | false =>
      refine ⟨k', ?_⟩
      show M.bind (denT (Ev n []) _) _ _ = _
      rw [bind_at hA, hlw, Bool.not_false, Bool.true_and]
      exact hB2
  obtain ⟨k2, hT⟩ := hT
  show ∃ k', MS.seq (MS.of (denT (Ev n []) _) fun k => if k = true then denSs (Ev n []) (.cons (.app 1 (.idx (.var 3) (.un .neg (.lit (.int 1))))) .nil) else denSs (Ev n []) .nil) (denSs (Ev n []) .nil) (lq S k F x0 (some (0, tpl (p ++ [l]))) none) = .nx (lq S k' (lstep F (p, l)) x0 (some (0, tpl (p ++ [l]))) none)
  by_cases c : decide (l ∈ F) = false ∧ (p.all fun z => decide (z ∈ F)) = true
  · rw [c.1, c.2] at hT
    have e : lstep F (p, l) = F ++ [l] := if_pos c
    rw [e]
    have a1 : denS (Ev n []) (.app 1 (.idx (.var 3) (.un .neg (.lit (.int 1))))) (lq S k2 F x0 (some (0, tpl (p ++ [l]))) none) = .nx (lq S (min k2 9) (F ++ [l]) x0 (some (0, tpl (p ++ [l]))) none) := by
      have hz : PV.sizeOk ((txs F).length + 1) = true := size100 (by unfold txs; rw [List.length_map]; exact h1)
      have hap : (M.bind (item (Ev n []).io (.pv 0 (.str l))) (fun x => appL 1 x)) (lq S k2 F x0 (some (0, tpl (p ++ [l]))) none) = .ok () (lq S (min k2 9) (F ++ [l]) x0 (some (0, tpl (p ++ [l]))) none) := by
        show (if PV.sizeOk ((txs F).length + 1) = true then RE.ok () [some (0, tpl S), some (min (k2 + 1) (9 + 1), .list (txs F ++ [.str l])), x0, some (0, tpl (p ++ [l])), none] else RE.no) = _
        rw [if_pos hz, lst_app, show min (k2 + 1) (9 + 1) = min k2 9 + 1 by omega]; rfl
      have hL : isL 1 (lq S k2 F x0 (some (0, tpl (p ++ [l]))) none) = .ok () (lq S k2 F x0 (some (0, tpl (p ++ [l]))) none) := rfl
      rw [denS]
      unfold MS.of
      rw [bind_at hL, bind_at (hI k2), hap]
    refine ⟨min k2 9, ?_⟩
    rw [seq_nx (ρ' := lq S (min k2 9) (F ++ [l]) x0 (some (0, tpl (p ++ [l]))) none) (by rw [of_ok hT]; show MS.seq _ _ _ = _; rw [seq_nx a1]; rfl)]
    rfl
  · have hb : (!decide (l ∈ F) && p.all fun z => decide (z ∈ F)) = false := by
      cases h1 : decide (l ∈ F) <;> cases h2 : (p.all fun z => decide (z ∈ F)) <;> simp_all
    rw [hb] at hT
    have e : lstep F (p, l) = F := if_neg c
    rw [e]
    refine ⟨k2, ?_⟩
    rw [seq_nx (ρ' := lq S k2 F x0 (some (0, tpl (p ++ [l]))) none) (by rw [of_ok hT]; rfl)]
    rfl
end Lk05

namespace Lk05
open PySem PV
theorem linv_small {S F : List Str} (i : LInv S F) (hS : S.length ≤ 50) : F.length < 100 := by
  have := i.len
  omega
theorem led_loop (n : Nat) (S : List Str) (hS : S.length ≤ 50) (x0 : Option (Nat × PV.D)) : ∀ (rs : List Rule) (F : List Str) (k : Nat) (y : Option (Nat × PV.D)), (∀ r ∈ rs, r ∈ RS) → LInv S F →
    ∃ k' y', forL (fun x => MS.of (bindN (Ev n []) (.name 3) x) fun _ => denSs (Ev n []) (inner14 b14)) (rs.map rowD) (lq S k F x0 y none) = .nx (lq S k' (rs.foldl lstep F) x0 y' none)
  | [], F, k, y, _, _ => ⟨k, y, rfl⟩
  | r :: rs, F, k, y, hr, i => by
    obtain ⟨o1, o2⟩ := okR_of (List.all_eq_true.mp rs_ok r (hr r List.mem_cons_self))
    obtain ⟨k1, e1⟩ := led_row n k S F x0 r i.ok o1 o2 (linv_small i hS)
    obtain ⟨i1, _, _⟩ := lstep_inv (hr r List.mem_cons_self) i
    obtain ⟨k2, y2, e2⟩ := led_loop n S hS x0 rs (lstep F r) k1 (some (0, rowD r)) (fun z hz => hr z (List.mem_cons_of_mem _ hz)) i1
    have step : ∀ f : PV.D → MS, forL f ((rowD r) :: rs.map rowD) (lq S k F x0 y none) = (match f (rowD r) (lq S k F x0 y none) with | .nx ρ' => forL f (rs.map rowD) ρ' | .ct ρ' => forL f (rs.map rowD) ρ' | .bk ρ' => .nx ρ' | r => r) := fun _ => rfl
    have e0 : (MS.of (bindN (Ev n []) (.name 3) (rowD r)) fun _ => denSs (Ev n []) (inner14 b14)) (lq S k F x0 y none) = denSs (Ev n []) (inner14 b14) (lq S k F x0 (some (0, rowD r)) none) := rfl
    rw [List.map_cons, step, e0, e1]
    exact ⟨k2, y2, e2⟩
def outer14 : CSs → CSs
  | .cons _ (.cons (.forr _ _ b) _) => b
  | _ => .nil
theorem led_iter (n : Nat) (ρ : SEnv) : denI (Ev (n + 1) []) (.seq (.bin .add (.call0 12) (.call0 13))) ρ = .ok (RS.map rowD) ρ := by
  have a : denE (Ev (n + 1) []) (.call0 12) ρ = .ok (.pv 9 (.list (itemsOf g_ARROWS))) ρ := by
    rw [denE]
    show (match PV.run tab.subF tab.P (n + 1) 12 [] with
      | some (.ret k d []) => RE.ok (TV.pv k d) ρ
      | _ => RE.no) = _
    rw [arr_ok]
  have b : denE (Ev (n + 1) []) (.call0 13) ρ = .ok (.pv 9 (.list (itemsOf g_JOINT_ARROWS))) ρ := by
    rw [denE]
    show (match PV.run tab.subF tab.P (n + 1) 13 [] with
      | some (.ret k d []) => RE.ok (TV.pv k d) ρ
      | _ => RE.no) = _
    rw [joint_ok]
  have c : denE (Ev (n + 1) []) (.bin .add (.call0 12) (.call0 13)) ρ = .ok (.pv 9 (.list (RS.map rowD))) ρ := by
    rw [← rs_rows]
    rw [denE, bind_at a, bind_at b]
    rfl
  rw [denI, bind_at c]
  rfl
theorem led_turns (n : Nat) (S : List Str) (hS : S.length ≤ 50) : ∀ (xs : List Int) (F : List Str) (k : Nat) (x y : Option (Nat × PV.D)), LInv S F →
    ∃ k' x' y', forL (fun x => MS.of (bindN (Ev (n + 1) []) (.name 2) x) fun _ => denSs (Ev (n + 1) []) (outer14 b14)) (xs.map PyData.int) (lq S k F x y none) = .nx (lq S k' (rounds xs.length F) x' y' none)
  | [], F, k, x, y, _ => ⟨k, x, y, rfl⟩
  | d :: xs, F, k, x, y, i => by
    obtain ⟨k1, y1, e1⟩ := led_loop (n + 1) S hS (some (0, .int d)) RS F k y (fun _ h => h) i
    obtain ⟨i1, _, _⟩ := lfold_inv RS (F := F) (fun _ h => h) i
    obtain ⟨k2, x2, y2, e2⟩ := led_turns n S hS xs (RS.foldl lstep F) k1 (some (0, .int d)) y1 i1
    have step : ∀ f : PV.D → MS, forL f (.int d :: xs.map PyData.int) (lq S k F x y none) = (match f (.int d) (lq S k F x y none) with | .nx ρ' => forL f (xs.map PyData.int) ρ' | .ct ρ' => forL f (xs.map PyData.int) ρ' | .bk ρ' => .nx ρ' | r => r) := fun _ => rfl
    have e0 : (MS.of (bindN (Ev (n + 1) []) (.name 2) (.int d)) fun _ => denSs (Ev (n + 1) []) (outer14 b14)) (lq S k F x y none) = denSs (Ev (n + 1) []) (outer14 b14) (lq S k F (some (0, .int d)) y none) := rfl
    have e3 : denSs (Ev (n + 1) []) (outer14 b14) (lq S k F (some (0, .int d)) y none) = .nx (lq S k1 (RS.foldl lstep F) (some (0, .int d)) y1 none) := by
      show denSs (Ev (n + 1) []) (.cons (.forr (.name 3) (.seq (.bin .add (.call0 12) (.call0 13))) (inner14 b14)) .nil) _ = _
      rw [denSs, denS, seq_nx (by rw [of_ok (led_iter n _)]; exact e1)]
      rfl
    rw [List.map_cons, step, e0, e3]
    exact ⟨k2, x2, y2, e2⟩
/-- the law's own closure -/
theorem led_ok (n : Nat) {S : List Str} (hS : S.length ≤ 50) (hk : okS S) : ∃ G : List Str, okS G ∧ (∀ w, w ∈ G ↔ Cl S w) ∧ PV.run tab.subF tab.P (n + 2) 14 [(0, tpl S)] = some (.ret 0 (lst G) []) := by
  obtain ⟨i, m⟩ := linv_start hk
  obtain ⟨i2, c2⟩ := rounds_inv 20 i m
  have hr : ∃ xs : List Int, xs.length = 20 ∧ ∀ ρ, denI (Ev (n + 1) []) (.rng (.cons (.lit (.int 20)) .nil)) ρ = .ok (xs.map PyData.int) ρ := ⟨(List.range 20).map Int.ofNat, rfl, fun _ => rfl⟩
  obtain ⟨xs, hx, hi⟩ := hr
  obtain ⟨k, x, y, e⟩ := led_turns n S hS xs S 8 none none i
  rw [hx] at e
  refine ⟨rounds 20 S, i2.ok, fun w => ⟨i2.cl w, fun h => closed_cl c2 i2.sub h⟩, ?_⟩
  refine call_rt (r := d14) (ρ := [some (0, tpl S), some (0, lst (rounds 20 S)), x, y, none]) rfl rfl ?_ rfl
  show denSs (Ev (n + 1) []) b14 [some (0, tpl S), none, none, none, none] = _
  unfold b14
  have hb : blt .lst [tpl S] = some (9, lst S) := by
    show some (kList (txs S), PyData.list (txs S)) = _
    rw [klist_txs]; rfl
  have e1 : denE (Ev (n + 1) []) (.blt .lst (.cons (.var 0) .nil)) [some (0, tpl S), none, none, none, none] = .ok (.pv 9 (lst S)) [some (0, tpl S), none, none, none, none] := by
    show M.opt ((blt .lst [tpl S]).map fun x => TV.pv x.1 x.2) _ = _
    rw [hb]; rfl
  rw [cons_at (ρ' := lq S 8 S none none none) (by rw [denS, of_ok e1]; rfl)]
  rw [cons_at (ρ' := lq S k (rounds 20 S) x y none) (by rw [denS, of_ok (hi _)]; exact e)]
  rfl
end Lk05

namespace Lk05
open PySem PV
theorem ask0_ok (n : Nat) {S : List Str} (h : Few S) : ∃ F : List Str, (∀ w, w ∈ F ↔ Cl S w) ∧ PV.run tab.subF tab.P (n + 4) 15 [(0, .int 0), (0, tpl S), (0, .str "")] = some (.ret 9 (tpl (W.filter fun w => decide (w ∈ F))) []) := by
  obtain ⟨F, hc, e⟩ := all_forced_ok n h
  refine ⟨F, hc, call_rt (r := d15) (ρ := [some (0, .int 0), some (0, tpl S), some (0, .str "")]) rfl rfl ?_ rfl⟩
  show denSs (Ev (n + 3) []) b15 [some (0, .int 0), some (0, tpl S), some (0, .str "")] = _
  have e1 : denE (Ev (n + 3) []) (.call 6 (.cons (.var 1) .nil)) [some (0, .int 0), some (0, tpl S), some (0, .str "")] = .ok (.pv 9 (tpl (W.filter fun w => decide (w ∈ F)))) [some (0, .int 0), some (0, tpl S), some (0, .str "")] := by
    show (match PV.run tab.subF tab.P (n + 3) 6 [(0, tpl S)] with
      | some (.ret k d ios) => RE.ok (TV.pv k d) (putBack [false] [.pv 0 (tpl S)] ios [some (0, .int 0), some (0, tpl S), some (0, .str "")])
      | some (.exc e ios) => RE.ex e (putBack [false] [.pv 0 (tpl S)] ios [some (0, .int 0), some (0, tpl S), some (0, .str "")])
      | none => RE.no) = _
    rw [e]; rfl
  have e0 : denT (Ev (n + 3) []) (.cmp .eq (.var 0) (.lit (.int 0))) [some (0, .int 0), some (0, tpl S), some (0, .str "")] = .ok true [some (0, .int 0), some (0, tpl S), some (0, .str "")] := rfl
  have e2 : denE (Ev (n + 3) []) (.ite (.cmp .eq (.var 0) (.lit (.int 0))) (.call 6 (.cons (.var 1) .nil)) (.call 7 (.cons (.var 1) (.cons (.var 2) .nil)))) [some (0, .int 0), some (0, tpl S), some (0, .str "")] = .ok (.pv 9 (tpl (W.filter fun w => decide (w ∈ F)))) [some (0, .int 0), some (0, tpl S), some (0, .str "")] := by
    rw [denE, bind_at e0, if_pos rfl]; exact e1
  have e3 : denSs (Ev (n + 3) []) (.cons (.ret (.ite (.cmp .eq (.var 0) (.lit (.int 0))) (.call 6 (.cons (.var 1) .nil)) (.call 7 (.cons (.var 1) (.cons (.var 2) .nil))))) .nil) [some (0, .int 0), some (0, tpl S), some (0, .str "")] = .rt 9 (tpl (W.filter fun w => decide (w ∈ F))) [some (0, .int 0), some (0, tpl S), some (0, .str "")] := by
    rw [denSs]
    refine seq_rt ?_
    rw [denS]
    unfold MS.of
    rw [bind_at e2]; rfl
  unfold b15
  rw [denSs]
  refine seq_rt ?_
  rw [denS]
  simp only [e3]
theorem ask1_ok (n : Nat) {S : List Str} (h : Few S) {w : Str} (hw : w ∈ W) : ∃ b : Bool, (b = true ↔ Cl S w) ∧ PV.run tab.subF tab.P (n + 5) 15 [(0, .int 1), (0, tpl S), (0, .str w)] = some (.ret 9 (.bool b) []) := by
  obtain ⟨b, hc, e⟩ := does_force_ok n h hw
  refine ⟨b, hc, call_rt (r := d15) (ρ := [some (0, .int 1), some (0, tpl S), some (0, .str w)]) rfl rfl ?_ rfl⟩
  show denSs (Ev (n + 4) []) b15 [some (0, .int 1), some (0, tpl S), some (0, .str w)] = _
  have e1 : denE (Ev (n + 4) []) (.call 7 (.cons (.var 1) (.cons (.var 2) .nil))) [some (0, .int 1), some (0, tpl S), some (0, .str w)] = .ok (.pv 9 (.bool b)) [some (0, .int 1), some (0, tpl S), some (0, .str w)] := by
    show (match PV.run tab.subF tab.P (n + 4) 7 [(0, tpl S), (0, .str w)] with
      | some (.ret k d ios) => RE.ok (TV.pv k d) (putBack [false, false] [.pv 0 (tpl S), .pv 0 (.str w)] ios [some (0, .int 1), some (0, tpl S), some (0, .str w)])
      | some (.exc e ios) => RE.ex e (putBack [false, false] [.pv 0 (tpl S), .pv 0 (.str w)] ios [some (0, .int 1), some (0, tpl S), some (0, .str w)])
      | none => RE.no) = _
    rw [e]; rfl
  have e0 : denT (Ev (n + 4) []) (.cmp .eq (.var 0) (.lit (.int 0))) [some (0, .int 1), some (0, tpl S), some (0, .str w)] = .ok false [some (0, .int 1), some (0, tpl S), some (0, .str w)] := rfl
  have e2 : denE (Ev (n + 4) []) (.ite (.cmp .eq (.var 0) (.lit (.int 0))) (.call 6 (.cons (.var 1) .nil)) (.call 7 (.cons (.var 1) (.cons (.var 2) .nil)))) [some (0, .int 1), some (0, tpl S), some (0, .str w)] = .ok (.pv 9 (.bool b)) [some (0, .int 1), some (0, tpl S), some (0, .str w)] := by
    rw [denE, bind_at e0, if_neg Bool.false_ne_true]; exact e1
  have e3 : denSs (Ev (n + 4) []) (.cons (.ret (.ite (.cmp .eq (.var 0) (.lit (.int 0))) (.call 6 (.cons (.var 1) .nil)) (.call 7 (.cons (.var 1) (.cons (.var 2) .nil))))) .nil) [some (0, .int 1), some (0, tpl S), some (0, .str w)] = .rt 9 (.bool b) [some (0, .int 1), some (0, tpl S), some (0, .str w)] := by
    rw [denSs]
    refine seq_rt ?_
    rw [denS]
    unfold MS.of
    rw [bind_at e2]; rfl
  unfold b15
  rw [denSs]
  refine seq_rt ?_
  rw [denS]
  simp only [e3]
end Lk05

namespace Lk05
open PySem PV
def tail16 : CSs → CSs
  | .cons _ (.cons _ (.cons _ t)) => t
  | _ => .nil
def isT : PV.RS → Bool
  | .rt _ (.bool true) _ => true
  | _ => false
theorem isT_ex {r : PV.RS} (h : isT r = true) : ∃ k ρ, r = .rt k (.bool true) ρ := by
  unfold isT at h
  split at h
  · exact ⟨_, _, rfl⟩
  · cases h
theorem tail_ok (n : Nat) (a b c d e : Option (Nat × PV.D)) : isT (denSs (Ev (n + 8) []) (tail16 b16) [a, b, c, d, none, e, none, none, none]) = true := by kernel_rfl
end Lk05

namespace Lk05
open PySem PV
theorem take_run (n k : Nat) {cells : List Int} {i cur seed many : Int} (ok : DrawOk cells i cur seed) (m1 : 1 ≤ many) (m2 : divOk many = true) :
    ∃ i' cur' seed' v, DrawOk cells i' cur' seed' ∧ 0 ≤ v ∧ v < many ∧ PV.run tab.subF tab.P (n + 1) 9 [(k + 1, drawD cells i cur seed), (0, .int many)] = some (.ret 9 (.int v) [(1, drawD cells i' cur' seed')]) := by
  obtain ⟨i', cur', seed', v, h1, h2, h3, e⟩ := take_ok (k := k) (f := none) (Ev n [0]) rfl ok m1 m2
  refine ⟨i', cur', seed', v, h1, h2, h3, call_rt (r := d9) (ρ := tkAt 0 cells i' cur' seed' many (some (0, .int v))) rfl rfl ?_ rfl⟩
  exact e
theorem draw_run (n : Nat) (ns : List Int) (hl : ns.length ≤ 63) : ∃ seed, DrawOk (ns.map absI) (-1) 0 seed ∧ PV.run tab.subF tab.P (n + 1) 8 [(0, .list (ns.map .int))] = some (.ret 9 (drawD (ns.map absI) (-1) 0 seed) []) := by
  obtain ⟨seed, ρ, h, e⟩ := draw_ok (Ev n []) rfl ns hl
  refine ⟨seed, h, call_rt (r := d8) (ρ := ρ) rfl rfl ?_ rfl⟩
  exact e
def lawAt (a : PV.D) (k : Nat) (d : PV.D) (x y z u v : Option (Nat × PV.D)) : SEnv := [some (0, a), some (k + 1, d), x, y, z, u, v, none, none]
/-- a draw within the law -/
theorem take_law (n k : Nat) (a : PV.D) (x y z u w : Option (Nat × PV.D)) {cells : List Int} {i cur seed many : Int} (ok : DrawOk cells i cur seed) (m1 : 1 ≤ many) (m2 : divOk many = true) :
    ∃ i' cur' seed' v, DrawOk cells i' cur' seed' ∧ 0 ≤ v ∧ v < many ∧ denE (Ev (n + 1) []) (.call 9 (.cons (.var 1) (.cons (.lit (.int many)) .nil))) (lawAt a k (drawD cells i cur seed) x y z u w) = .ok (.pv 9 (.int v)) (lawAt a 0 (drawD cells i' cur' seed') x y z u w) := by
  obtain ⟨i', cur', seed', v, h1, h2, h3, e⟩ := take_run n k ok m1 m2
  refine ⟨i', cur', seed', v, h1, h2, h3, ?_⟩
  show (match PV.run tab.subF tab.P (n + 1) 9 [(k + 1, drawD cells i cur seed), (0, .int many)] with
    | some (.ret k d ios) => RE.ok (TV.pv k d) (putBack [true, false] [.var 1, .pv 0 (.int many)] ios [some (0, a), none, x, y, z, u, w, none, none])
    | some (.exc e ios) => RE.ex e (putBack [true, false] [.var 1, .pv 0 (.int many)] ios [some (0, a), none, x, y, z, u, w, none, none])
    | none => RE.no) = _
  rw [e]; rfl
end Lk05

namespace Lk05
open PySem PV
theorem words_den (n : Nat) (ρ : SEnv) : denE (Ev (n + 1) []) (.call0 11) ρ = .ok (.pv 9 (lst W)) ρ := by
  rw [denE]
  show (match PV.run tab.subF tab.P (n + 1) 11 [] with
    | some (.ret k d []) => RE.ok (TV.pv k d) ρ
    | _ => RE.no) = _
  rw [words_ok]
/-- a word that is drawn -/
theorem pick_word (n k : Nat) (a : PV.D) (x y z u w : Option (Nat × PV.D)) {cells : List Int} {i cur seed : Int} (ok : DrawOk cells i cur seed) :
    ∃ i' cur' seed' s, DrawOk cells i' cur' seed' ∧ s ∈ W ∧ denE (Ev (n + 1) []) (.idx (.call0 11) (.call 9 (.cons (.var 1) (.cons (.lit (.int 18)) .nil)))) (lawAt a k (drawD cells i cur seed) x y z u w) = .ok (.pv 0 (.str s)) (lawAt a 0 (drawD cells i' cur' seed') x y z u w) := by
  obtain ⟨i', cur', seed', v, h1, h2, h3, e⟩ := take_law n k a x y z u w ok (many := 18) (by decide) (by decide +kernel)
  obtain ⟨m, rfl⟩ := Int.eq_ofNat_of_zero_le h2
  have hm : m < W.length := by rw [w_len]; omega
  refine ⟨i', cur', seed', W[m], h1, List.getElem_mem hm, ?_⟩
  rw [denE, bind_at (words_den n _), bind_at e]
  show (M.opt ((idxD (lst W) (.int (m : Int))).map (TV.pv 0))) _ = _
  have hx : idxD (lst W) (.int (m : Int)) = some (.str W[m]) := by
    show L2.atI (txs W) (m : Int) = _
    rw [at_nat]
    unfold txs
    rw [List.getElem?_map, List.getElem?_eq_getElem hm]; rfl
  rw [hx]; rfl
end Lk05

namespace Lk05
open PySem PV
def pickE : CE := .idx (.call0 11) (.call 9 (.cons (.var 1) (.cons (.lit (.int 18)) .nil)))
def manyI : CI := .rng (.cons (.bin .add (.lit (.int 1)) (.call 9 (.cons (.var 1) (.cons (.lit (.int 2)) .nil)))) .nil)
theorem many_ok (n k : Nat) (a : PV.D) (x y z u w : Option (Nat × PV.D)) {cells : List Int} {i cur seed : Int} (ok : DrawOk cells i cur seed) :
    ∃ i' cur' seed', DrawOk cells i' cur' seed' ∧ ∃ xs : List PV.D, (xs = [.int 0] ∨ xs = [.int 0, .int 1]) ∧ denI (Ev (n + 1) []) manyI (lawAt a k (drawD cells i cur seed) x y z u w) = .ok xs (lawAt a 0 (drawD cells i' cur' seed') x y z u w) := by
  obtain ⟨i', cur', seed', v, h1, h2, h3, e⟩ := take_law n k a x y z u w ok (many := 2) (by decide) (by decide +kernel)
  have e1 : denA (Ev (n + 1) []) (.cons (.bin .add (.lit (.int 1)) (.call 9 (.cons (.var 1) (.cons (.lit (.int 2)) .nil)))) .nil) (lawAt a k (drawD cells i cur seed) x y z u w) = .ok [.pv 0 (.int (1 + v))] (lawAt a 0 (drawD cells i' cur' seed') x y z u w) := by
    have e0 : denE (Ev (n + 1) []) (.bin .add (.lit (.int 1)) (.call 9 (.cons (.var 1) (.cons (.lit (.int 2)) .nil)))) (lawAt a k (drawD cells i cur seed) x y z u w) = .ok (.pv 0 (.int (1 + v))) (lawAt a 0 (drawD cells i' cur' seed') x y z u w) := by
      have l1 : denE (Ev (n + 1) []) (.lit (.int 1)) (lawAt a k (drawD cells i cur seed) x y z u w) = .ok (.pv 0 (.int 1)) (lawAt a k (drawD cells i cur seed) x y z u w) := rfl
      rw [denE, bind_at l1, bind_at e]; rfl
    rw [denA, bind_at e0]; rfl
  have hv : v = 0 ∨ v = 1 := by omega
  rcases hv with rfl | rfl
  · refine ⟨i', cur', seed', h1, [.int 0], .inl rfl, ?_⟩
    unfold manyI
    rw [denI, bind_at e1]; rfl
  · refine ⟨i', cur', seed', h1, [.int 0, .int 1], .inr rfl, ?_⟩
    unfold manyI
    rw [denI, bind_at e1]; rfl
end Lk05

namespace Lk05
open PySem PV
theorem turn_word (n k : Nat) (a : PV.D) (x y u w : Option (Nat × PV.D)) (t : Int) (ds : List PV.D) (hd : ds.length < 100) {cells : List Int} {i cur seed : Int} (ok : DrawOk cells i cur seed) :
    ∃ i' cur' seed' s, DrawOk cells i' cur' seed' ∧ s ∈ W ∧ turnM [4] (bindN (Ev (n + 1) []) (.name 4) (.int t)) (denC (Ev (n + 1) []) .none) (denG (Ev (n + 1) []) (.done pickE) (9, ds)) (9, ds) (lawAt a k (drawD cells i cur seed) x y none u w) = .ok (9, ds ++ [.str s]) (lawAt a 0 (drawD cells i' cur' seed') x y none u w) := by
  obtain ⟨i', cur', seed', s, h1, h2, e⟩ := pick_word n k a x y (some (0, .int t)) u w ok
  refine ⟨i', cur', seed', s, h1, h2, ?_⟩
  have hz : PV.sizeOk (ds.length + 1) = true := size100 hd
  show RE.well (M.bind (denE (Ev (n + 1) []) pickE) (fun t => accum [] (9, ds) t) (lawAt a k (drawD cells i cur seed) x y (some (0, .int t)) u w)) _ = _
  unfold pickE
  rw [bind_at e]
  show RE.well ((if PV.sizeOk (ds.length + 1) = true then M.pure (9, ds ++ [.str s]) else M.no) (lawAt a 0 (drawD cells i' cur' seed') x y (some (0, .int t)) u w)) _ = _
  rw [if_pos hz]; rfl
end Lk05

namespace Lk05
open PySem PV
/-- the words that are drawn -/
theorem drawn_ok (n k : Nat) (a : PV.D) (x y u w : Option (Nat × PV.D)) {cells : List Int} {i cur seed : Int} (ok : DrawOk cells i cur seed) :
    ∃ i' cur' seed' S, DrawOk cells i' cur' seed' ∧ Few S ∧ denE (Ev (n + 1) []) (.comp [4] (.name 4) manyI .none (.done pickE)) (lawAt a k (drawD cells i cur seed) x y none u w) = .ok (.pv 9 (lst S)) (lawAt a 0 (drawD cells i' cur' seed') x y none u w) := by
  obtain ⟨i1, c1, s1, o1, xs, hx, e⟩ := many_ok n k a x y none u w ok
  obtain ⟨i2, c2, s2, p, o2, hp, e2⟩ := turn_word n 0 a x y u w 0 [] (by decide) o1
  have open1 : ∀ (f : (Nat × List PV.D) → PV.D → M (Nat × List PV.D)) (d : PV.D) (ds : List PV.D) (acc : Nat × List PV.D) (ρ : SEnv), turns f (d :: ds) acc ρ = M.bind (f acc d) (fun b => turns f ds b) ρ := fun _ _ _ _ _ => rfl
  rcases hx with rfl | rfl
  · refine ⟨i2, c2, s2, [p], o2, .inl ⟨p, hp, rfl⟩, ?_⟩
    show M.bind (denI (Ev (n + 1) []) _) _ _ = _
    rw [bind_at e]
    show RE.well (turns (fun acc x => turnM [4] (bindN (Ev (n + 1) []) (.name 4) x) (denC (Ev (n + 1) []) .none) (denG (Ev (n + 1) []) (.done pickE) acc) acc) [.int 0] (9, []) (lawAt a 0 (drawD cells i1 c1 s1) x y none u w)) _ = _
    rw [open1, bind_at e2]; rfl
  · obtain ⟨i3, c3, s3, q, o3, hq, e3⟩ := turn_word n 0 a x y u w 1 [.str p] (show (1 : Nat) < 100 by decide) o2
    refine ⟨i3, c3, s3, [p, q], o3, .inr ⟨p, q, hp, hq, rfl⟩, ?_⟩
    show M.bind (denI (Ev (n + 1) []) _) _ _ = _
    rw [bind_at e]
    show RE.well (turns (fun acc x => turnM [4] (bindN (Ev (n + 1) []) (.name 4) x) (denC (Ev (n + 1) []) .none) (denG (Ev (n + 1) []) (.done pickE) acc) acc) [.int 0, .int 1] (9, []) (lawAt a 0 (drawD cells i1 c1 s1) x y none u w)) _ = _
    rw [open1, bind_at e2, open1]
    rw [bind_at (show turnM [4] (bindN (Ev (n + 1) []) (.name 4) (.int 1)) (denC (Ev (n + 1) []) .none) (denG (Ev (n + 1) []) (.done pickE) (9, [] ++ [.str p])) (9, [] ++ [.str p]) (lawAt a 0 (drawD cells i2 c2 s2) x y none u w) = _ from e3)]; rfl
end Lk05

namespace Lk05
open PySem PV
theorem st_words (n k : Nat) (a : PV.D) (x y u w : Option (Nat × PV.D)) {cells : List Int} {i cur seed : Int} (ok : DrawOk cells i cur seed) :
    ∃ i' cur' seed' S, DrawOk cells i' cur' seed' ∧ Few S ∧ denS (Ev (n + 1) []) (.asg (.name 3) (.blt .tup (.cons (.comp [4] (.name 4) manyI .none (.done pickE)) .nil))) (lawAt a k (drawD cells i cur seed) x y none u w) = .nx (lawAt a 0 (drawD cells i' cur' seed') x (some (0, tpl S)) none u w) := by
  obtain ⟨i1, c1, s1, S, o, hS, e⟩ := drawn_ok n k a x y u w ok
  refine ⟨i1, c1, s1, S, o, hS, ?_⟩
  have e1 : denA (Ev (n + 1) []) (.cons (.comp [4] (.name 4) manyI .none (.done pickE)) .nil) (lawAt a k (drawD cells i cur seed) x y none u w) = .ok [.pv 9 (lst S)] (lawAt a 0 (drawD cells i1 c1 s1) x y none u w) := by
    rw [denA, bind_at e]; rfl
  have e2 : denE (Ev (n + 1) []) (.blt .tup (.cons (.comp [4] (.name 4) manyI .none (.done pickE)) .nil)) (lawAt a k (drawD cells i cur seed) x y none u w) = .ok (.pv 0 (tpl S)) (lawAt a 0 (drawD cells i1 c1 s1) x y none u w) := by
    rw [denE, bind_at e1]; rfl
  rw [denS, of_ok e2]; rfl
end Lk05

namespace Lk05
open PySem PV
theorem st_found (n k : Nat) (a d : PV.D) (x u w : Option (Nat × PV.D)) {S : List Str} (h : Few S) :
    ∃ G, okS G ∧ (∀ z, z ∈ G ↔ Cl S z) ∧ denS (Ev (n + 2) []) (.asg (.name 5) (.call 14 (.cons (.var 3) .nil))) (lawAt a k d x (some (0, tpl S)) none u w) = .nx (lawAt a k d x (some (0, tpl S)) none (some (0, lst G)) w) := by
  obtain ⟨G, o, c, e⟩ := led_ok n h.len h.okS
  refine ⟨G, o, c, ?_⟩
  have e1 : denE (Ev (n + 2) []) (.call 14 (.cons (.var 3) .nil)) (lawAt a k d x (some (0, tpl S)) none u w) = .ok (.pv 0 (lst G)) (lawAt a k d x (some (0, tpl S)) none u w) := by
    show denE (Ev (n + 2) []) (.call 14 (.cons (.var 3) .nil)) [some (0, a), some (k + 1, d), x, some (0, tpl S), none, u, w, none, none] = .ok (.pv 0 (lst G)) [some (0, a), some (k + 1, d), x, some (0, tpl S), none, u, w, none, none]
    show (match PV.run tab.subF tab.P (n + 2) 14 [(0, tpl S)] with
      | some (.ret k1 d1 ios) => RE.ok (TV.pv k1 d1) (putBack [false] [.pv 0 (tpl S)] ios [some (0, a), some (k + 1, d), x, some (0, tpl S), none, u, w, none, none])
      | some (.exc e ios) => RE.ex e (putBack [false] [.pv 0 (tpl S)] ios [some (0, a), some (k + 1, d), x, some (0, tpl S), none, u, w, none, none])
      | none => RE.no) = _
    rw [e]; rfl
  rw [denS, of_ok e1]; rfl
end Lk05

namespace Lk05
open PySem PV
theorem eqv_tpl : ∀ zs : List Str, PyData.eqv (tpl zs) (tpl zs) = true := fun zs => by
  show PyData.eqv (.tuple (txs zs)) (.tuple (txs zs)) = true
  unfold PyData.eqv
  induction zs with
  | nil => show PyData.eqvAll [] [] = true; unfold PyData.eqvAll; rfl
  | cons z zs ih =>
    show PyData.eqvAll (.str z :: txs zs) (.str z :: txs zs) = true
    unfold PyData.eqvAll
    rw [ih, eqv_str]; simp
theorem ne_tpl {zs : List Str} (h : okS zs) : cmpop .ne (tpl zs) (tpl zs) = some false := by
  show (if (SeqAt.shaped (tpl zs) && SeqAt.shaped (tpl zs)) = true then some (PyData.eqv (tpl zs) (tpl zs)) else none).map (!·) = _
  rw [shaped_tpl h, eqv_tpl]; rfl
theorem test1 (n k : Nat) (a d : PV.D) (x : Option (Nat × PV.D)) {S G : List Str} (h : Few S) (oG : okS G) (cG : ∀ z, z ∈ G ↔ Cl S z) :
    denT (Ev (n + 4) []) (.cmp .ne (.call 15 (.cons (.lit (.int 0)) (.cons (.var 3) (.cons (.lit (.str "")) .nil)))) (.blt .tup (.cons (.comp [6] (.name 6) (.seq (.call0 11)) (.some (.cmp .inn (.var 6) (.var 5))) (.done (.var 6))) .nil))) (lawAt a k d x (some (0, tpl S)) none (some (0, lst G)) none) = .ok false (lawAt a k d x (some (0, tpl S)) none (some (0, lst G)) none) := by
  obtain ⟨F, cF, e⟩ := ask0_ok n h
  have hF : (W.filter fun w => decide (w ∈ F)) = W.filter fun w => decide (w ∈ G) := by
    congr 1; funext w
    exact decide_eq_decide.mpr ((cF w).trans (cG w).symm)
  rw [hF] at e
  have e1 : denE (Ev (n + 4) []) (.call 15 (.cons (.lit (.int 0)) (.cons (.var 3) (.cons (.lit (.str "")) .nil)))) (lawAt a k d x (some (0, tpl S)) none (some (0, lst G)) none) = .ok (.pv 9 (tpl (W.filter fun w => decide (w ∈ G)))) (lawAt a k d x (some (0, tpl S)) none (some (0, lst G)) none) :=
    call_pv (vs := [(0, .int 0), (0, tpl S), (0, .str "")]) ((sig_of (i := 15) (r := d15) rfl).trans rfl) rfl e
  have e2 : denE (Ev (n + 4) []) (.comp [6] (.name 6) (.seq (.call0 11)) (.some (.cmp .inn (.var 6) (.var 5))) (.done (.var 6))) (lawAt a k d x (some (0, tpl S)) none (some (0, lst G)) none) = .ok (.pv 9 (lst (W.filter fun w => decide (w ∈ G)))) (lawAt a k d x (some (0, tpl S)) none (some (0, lst G)) none) :=
    comp_filter _ 5 6 _ W G _ w_okS oG (by simp) (by show 6 < 9; decide) (by decide) rfl rfl (by rw [w_len]; decide) (by rw [denI, bind_at (words_den (n + 3) _)]; rfl)
  have e3 : denA (Ev (n + 4) []) (.cons (.comp [6] (.name 6) (.seq (.call0 11)) (.some (.cmp .inn (.var 6) (.var 5))) (.done (.var 6))) .nil) (lawAt a k d x (some (0, tpl S)) none (some (0, lst G)) none) = .ok [.pv 9 (lst (W.filter fun w => decide (w ∈ G)))] (lawAt a k d x (some (0, tpl S)) none (some (0, lst G)) none) := args_cons e2 args_nil
  have e4 : denE (Ev (n + 4) []) (.blt .tup (.cons (.comp [6] (.name 6) (.seq (.call0 11)) (.some (.cmp .inn (.var 6) (.var 5))) (.done (.var 6))) .nil)) (lawAt a k d x (some (0, tpl S)) none (some (0, lst G)) none) = .ok (.pv 0 (tpl (W.filter fun w => decide (w ∈ G)))) (lawAt a k d x (some (0, tpl S)) none (some (0, lst G)) none) := by
    rw [denE, bind_at e3]; rfl
  have oW : okS (W.filter fun w => decide (w ∈ G)) := fun z hz => w_okS z (List.mem_filter.mp hz).1
  rw [denT, bind_at e1, bind_at e4]
  show M.opt (cmpop .ne (tpl (W.filter fun w => decide (w ∈ G))) (tpl (W.filter fun w => decide (w ∈ G)))) _ = _
  rw [ne_tpl oW]; rfl
end Lk05

namespace Lk05
open PySem PV
theorem boolsOf_true : ∀ n : Nat, boolsOf (List.replicate n (.bool true)) = some (List.replicate n true)
  | 0 => rfl
  | n + 1 => by
    show (boolsOf (List.replicate n (.bool true))).map (true :: ·) = _
    rw [boolsOf_true n]; rfl
theorem all_true (n : Nat) : blt .all [.list (List.replicate n (.bool true))] = some (0, .bool true) := by
  show (boolsOf (List.replicate n (.bool true))).map (fun l => (0, PyData.bool (l.all id))) = _
  rw [boolsOf_true]
  simp
theorem says_run (n : Nat) (b : Bool) : PV.run tab.subF tab.P (n + 1) 10 [(0, .bool b), (0, .bool b)] = some (.ret 9 (.bool true) []) := by
  refine call_rt (r := d10) (ρ := [some (0, .bool b), some (0, .bool b)]) rfl rfl ?_ rfl
  have e : denSs (Ev n []) b10 [some (0, .bool b), some (0, .bool b)] = .rt 9 (.bool true) [some (0, .bool b), some (0, .bool b)] := by
    cases b <;> kernel_rfl
  exact e
def trueF (a : Nat × List PV.D) (_ : PV.D) : Nat × List PV.D := (9, a.2 ++ [.bool true])
theorem fold_true : ∀ (ws : List Str) (a : List PV.D), (txs ws).foldl trueF (9, a) = (9, a ++ List.replicate ws.length (.bool true))
  | [], a => by rw [show txs [] = [] from rfl]; simp
  | w :: ws, a => by
    show (txs ws).foldl trueF (9, a ++ [.bool true]) = _
    rw [fold_true ws, List.append_assoc]; rfl
def saysE : CE := .call 10 (.cons (.call 15 (.cons (.lit (.int 1)) (.cons (.var 3) (.cons (.var 6) .nil)))) (.cons (.cmp .inn (.var 6) (.var 5)) .nil))
theorem test2_all (n k : Nat) (a d : PV.D) (x : Option (Nat × PV.D)) {S G : List Str} (h : Few S) (oG : okS G) (cG : ∀ z, z ∈ G ↔ Cl S z) :
    denE (Ev (n + 5) []) (.comp [6] (.name 6) (.seq (.call0 11)) .none (.done saysE)) (lawAt a k d x (some (0, tpl S)) none (some (0, lst G)) none) = .ok (.pv 9 (.list (List.replicate W.length (.bool true)))) (lawAt a k d x (some (0, tpl S)) none (some (0, lst G)) none) := by
  have hi : denI (Ev (n + 5) []) (.seq (.call0 11)) (lawAt a k d x (some (0, tpl S)) none (some (0, lst G)) none) = .ok (txs W) (lawAt a k d x (some (0, tpl S)) none (some (0, lst G)) none) := by rw [denI, bind_at (words_den (n + 4) _)]; rfl
  have one : ∀ w, w ∈ W → denE (Ev (n + 5) []) saysE (lawAt a k d x (some (0, tpl S)) none (some (0, lst G)) (some (0, .str w))) = .ok (.pv 9 (.bool true)) (lawAt a k d x (some (0, tpl S)) none (some (0, lst G)) (some (0, .str w))) := by
    intro w hw
    obtain ⟨b, cb, e⟩ := ask1_ok n h hw
    have e1 : denE (Ev (n + 5) []) (.call 15 (.cons (.lit (.int 1)) (.cons (.var 3) (.cons (.var 6) .nil)))) (lawAt a k d x (some (0, tpl S)) none (some (0, lst G)) (some (0, .str w))) = .ok (.pv 9 (.bool b)) (lawAt a k d x (some (0, tpl S)) none (some (0, lst G)) (some (0, .str w))) :=
      call_pv (vs := [(0, .int 1), (0, tpl S), (0, .str w)]) ((sig_of (i := 15) (r := d15) rfl).trans rfl) rfl e
    have hb : decide (w ∈ G) = b := by
      cases b with
      | true => exact decide_eq_true ((cG w).mpr (cb.mp rfl))
      | false => exact decide_eq_false fun q => Bool.noConfusion (cb.mpr ((cG w).mp q))
    have e2 : denE (Ev (n + 5) []) (.cmp .inn (.var 6) (.var 5)) (lawAt a k d x (some (0, tpl S)) none (some (0, lst G)) (some (0, .str w))) = .ok (.pv 0 (.bool b)) (lawAt a k d x (some (0, tpl S)) none (some (0, lst G)) (some (0, .str w))) := by
      show (M.opt ((cmpop .inn (.str w) (lst G)).map fun c => TV.pv 0 (.bool c))) _ = _
      rw [inn_lst (w_okS w hw) oG, hb]; rfl
    exact call_pv (vs := [(9, .bool b), (0, .bool b)]) ((sig_of (i := 10) (r := d10) rfl).trans rfl) (args_cons e1 (args_cons e2 args_nil)) (says_run (n + 4) b)
  have step : ∀ y ys (acc : Nat × List PV.D) ρ1, (ρ1 = lawAt a k d x (some (0, tpl S)) none (some (0, lst G)) none ∧ acc.1 = 9 ∧ acc.2.length + (y :: ys).length ≤ 100 ∧ ∃ l : List Str, (∀ w ∈ l, w ∈ W) ∧ y :: ys = txs l) →
      ∃ ρ', turnM [6] (bindN (Ev (n + 5) []) (.name 6) y) (denC (Ev (n + 5) []) .none) (denG (Ev (n + 5) []) (.done saysE) acc) acc ρ1 = .ok (trueF acc y) ρ' ∧
        ρ' = lawAt a k d x (some (0, tpl S)) none (some (0, lst G)) none ∧ (trueF acc y).1 = 9 ∧ (trueF acc y).2.length + ys.length ≤ 100 ∧ ∃ l : List Str, (∀ w ∈ l, w ∈ W) ∧ ys = txs l := by
    rintro y ys ⟨a1, a2⟩ ρ1 ⟨rfl, rfl, hle, l, hlo, hx⟩
    cases l with
    | nil => cases hx
    | cons w l =>
      cases hx
      have hle : a2.length + (l.length + 1) ≤ 100 := by simpa [txs] using hle
      refine ⟨_, ?_, rfl, rfl, ?_, l, fun z hz => hlo z (List.mem_cons_of_mem _ hz), rfl⟩
      · have e0 : bindN (Ev (n + 5) []) (.name 6) (.str w) (lawAt a k d x (some (0, tpl S)) none (some (0, lst G)) none) = .ok () (lawAt a k d x (some (0, tpl S)) none (some (0, lst G)) (some (0, .str w))) := rfl
        have hz : PV.sizeOk (a2.length + 1) = true := size100 (by omega)
        unfold turnM
        rw [bind_at e0]
        show RE.well (M.bind (denE (Ev (n + 5) []) saysE) (fun t => accum [] (9, a2) t) _) _ = _
        rw [bind_at (one w (hlo w List.mem_cons_self))]
        show RE.well ((if PV.sizeOk (a2.length + 1) = true then M.pure (9, a2 ++ [.bool true]) else M.no) (lawAt a k d x (some (0, tpl S)) none (some (0, lst G)) (some (0, .str w)))) _ = _
        rw [if_pos hz]; rfl
      · show (a2 ++ [_]).length + (txs l).length ≤ 100
        rw [List.length_append]
        have : (txs l).length = l.length := by unfold txs; rw [List.length_map]
        simp; omega
  obtain ⟨ρ', e, h1, _⟩ := turns_ex (f := fun acc y => turnM [6] (bindN (Ev (n + 5) []) (.name 6) y) (denC (Ev (n + 5) []) .none) (denG (Ev (n + 5) []) (.done saysE) acc) acc)
    (g := trueF) (I := fun ys acc ρ1 => ρ1 = lawAt a k d x (some (0, tpl S)) none (some (0, lst G)) none ∧ acc.1 = 9 ∧ acc.2.length + ys.length ≤ 100 ∧ ∃ l : List Str, (∀ w ∈ l, w ∈ W) ∧ ys = txs l)
    (xs := txs W) (a := (9, [])) (ρ := lawAt a k d x (some (0, tpl S)) none (some (0, lst G)) none) ⟨rfl, rfl, by unfold txs; rw [List.length_map, w_len]; decide, W, fun _ q => q, rfl⟩ step
  rw [denE, bind_at hi]
  rw [if_pos (show still (lawAt a k d x (some (0, tpl S)) none (some (0, lst G)) none) [6] = true from rfl)]
  show RE.well (turns _ (txs W) (9, []) (lawAt a k d x (some (0, tpl S)) none (some (0, lst G)) none)) _ = _
  rw [e, fold_true, h1]
  rfl
theorem test2 (n k : Nat) (a d : PV.D) (x : Option (Nat × PV.D)) {S G : List Str} (h : Few S) (oG : okS G) (cG : ∀ z, z ∈ G ↔ Cl S z) :
    denT (Ev (n + 5) []) (.not (.val (.blt .all (.cons (.comp [6] (.name 6) (.seq (.call0 11)) .none (.done saysE)) .nil)))) (lawAt a k d x (some (0, tpl S)) none (some (0, lst G)) none) = .ok false (lawAt a k d x (some (0, tpl S)) none (some (0, lst G)) none) := by
  have e3 := args_cons (test2_all n k a d x h oG cG) args_nil
  have e4 : denE (Ev (n + 5) []) (.blt .all (.cons (.comp [6] (.name 6) (.seq (.call0 11)) .none (.done saysE)) .nil)) (lawAt a k d x (some (0, tpl S)) none (some (0, lst G)) none) = .ok (.pv 0 (.bool true)) (lawAt a k d x (some (0, tpl S)) none (some (0, lst G)) none) := by
    rw [denE, bind_at e3]
    show M.opt ((blt .all [.list (List.replicate W.length (.bool true))]).map fun x => TV.pv x.1 x.2) _ = _
    rw [all_true]; rfl
  have e5 : denT (Ev (n + 5) []) (.val (.blt .all (.cons (.comp [6] (.name 6) (.seq (.call0 11)) .none (.done saysE)) .nil))) (lawAt a k d x (some (0, tpl S)) none (some (0, lst G)) none) = .ok true (lawAt a k d x (some (0, tpl S)) none (some (0, lst G)) none) := by
    rw [denT, bind_at e4]; rfl
  rw [denT, bind_at e5]; rfl
end Lk05

namespace Lk05
open PySem PV
def turnB : CSs := (.cons (.asg (.name 3) (.blt .tup (.cons (.comp [4] (.name 4) manyI .none (.done pickE)) .nil))) (.cons (.asg (.name 5) (.call 14 (.cons (.var 3) .nil))) (.cons (.ite (.cmp .ne (.call 15 (.cons (.lit (.int 0)) (.cons (.var 3) (.cons (.lit (.str "")) .nil)))) (.blt .tup (.cons (.comp [6] (.name 6) (.seq (.call0 11)) (.some (.cmp .inn (.var 6) (.var 5))) (.done (.var 6))) .nil))) (.cons (.ret (.lit (.bool false))) .nil) .nil) (.cons (.ite (.not (.val (.blt .all (.cons (.comp [6] (.name 6) (.seq (.call0 11)) .none (.done saysE)) .nil)))) (.cons (.ret (.lit (.bool false))) .nil) .nil) .nil))))
theorem lturn_ok (n k : Nat) (a : PV.D) (x y u : Option (Nat × PV.D)) {cells : List Int} {i cur seed : Int} (ok : DrawOk cells i cur seed) :
    ∃ i' cur' seed' y' u', DrawOk cells i' cur' seed' ∧ denSs (Ev (n + 5) []) turnB (lawAt a k (drawD cells i cur seed) x y none u none) = .nx (lawAt a 0 (drawD cells i' cur' seed') x y' none u' none) := by
  obtain ⟨i1, c1, s1, S, o, hS, e1⟩ := st_words (n + 4) k a x y u none ok
  obtain ⟨G, oG, cG, e2⟩ := st_found (n + 3) 0 a (drawD cells i1 c1 s1) x u none hS
  have e3 := test1 (n + 1) 0 a (drawD cells i1 c1 s1) x hS oG cG
  have e4 := test2 n 0 a (drawD cells i1 c1 s1) x hS oG cG
  refine ⟨i1, c1, s1, some (0, tpl S), some (0, lst G), o, ?_⟩
  unfold turnB
  rw [cons_at e1, cons_at e2, cons_at (ρ' := lawAt a 0 (drawD cells i1 c1 s1) x (some (0, tpl S)) none (some (0, lst G)) none) (by rw [ite_at e3, if_neg Bool.false_ne_true, nil_at])]
  exact one_at (by rw [ite_at e4, if_neg Bool.false_ne_true, nil_at])
theorem loop_ok (n k : Nat) (a : PV.D) (x y u : Option (Nat × PV.D)) {cells : List Int} {i cur seed : Int} (ok : DrawOk cells i cur seed) :
    ∃ k' d' x' y' u', denS (Ev (n + 5) []) (.forr (.name 2) (.rng (.cons (.lit (.int 4)) .nil)) turnB) (lawAt a k (drawD cells i cur seed) x y none u none) = .nx (lawAt a k' d' x' y' none u' none) := by
  have hi : ∀ ρ, denI (Ev (n + 5) []) (.rng (.cons (.lit (.int 4)) .nil)) ρ = .ok [.int 0, .int 1, .int 2, .int 3] ρ := fun _ => rfl
  obtain ⟨ρ', e, k', i', c', s', x', y', u', o', rfl⟩ := forL_ex (f := fun z => MS.of (bindN (Ev (n + 5) []) (.name 2) z) fun _ => denSs (Ev (n + 5) []) turnB)
    (I := fun _ ρ => ∃ k i c s x y u, DrawOk cells i c s ∧ ρ = lawAt a k (drawD cells i c s) x y none u none) (xs := [.int 0, .int 1, .int 2, .int 3]) (ρ := lawAt a k (drawD cells i cur seed) x y none u none) ⟨k, i, cur, seed, x, y, u, ok, rfl⟩ (by
      rintro z zs ρ ⟨k, i, c, s, x, y, u, o, rfl⟩
      have hz : ∃ x', bindN (Ev (n + 5) []) (.name 2) z (lawAt a k (drawD cells i c s) x y none u none) = .ok () (lawAt a k (drawD cells i c s) x' y none u none) := ⟨_, rfl⟩
      obtain ⟨x', hz⟩ := hz
      obtain ⟨i1, c1, s1, y1, u1, o1, e1⟩ := lturn_ok n k a x' y u o
      refine ⟨_, .inl ?_, 0, i1, c1, s1, x', y1, u1, o1, rfl⟩
      show MS.of _ _ _ = _
      rw [of_ok hz]
      exact e1)
  refine ⟨k', drawD cells i' c' s', x', y', u', ?_⟩
  rw [denS, of_ok (hi _)]
  exact e
abbrev lvl : Nat := 20
theorem law : ∀ ns : List Int, ns.length ≤ 63 → (∀ z ∈ ns, Builtin.Int.intBits z ≤ 1048576) → ∃ k ios, run tab.subF tab.P lvl 16 [(0, .list (ns.map .int))] = some (.ret k (.bool true) ios) := by
  intro ns hl _
  obtain ⟨seed, o, e1⟩ := draw_run 18 ns hl
  have s1 : denS (Ev 19 []) (.asg (.name 1) (.call 8 (.cons (.var 0) .nil))) [some (0, .list (ns.map .int)), none, none, none, none, none, none, none, none] = .nx (lawAt (.list (ns.map .int)) 8 (drawD (ns.map absI) (-1) 0 seed) none none none none none) := by
    have c1 : denE (Ev 19 []) (.call 8 (.cons (.var 0) .nil)) [some (0, .list (ns.map .int)), none, none, none, none, none, none, none, none] = .ok (.pv 9 (drawD (ns.map absI) (-1) 0 seed)) [some (0, .list (ns.map .int)), none, none, none, none, none, none, none, none] :=
      call_pv (vs := [(0, .list (ns.map .int))]) ((sig_of (i := 8) (r := d8) rfl).trans rfl) rfl e1
    rw [denS, of_ok c1]; rfl
  have s2 := arrows_ok 18 (lawAt (.list (ns.map .int)) 8 (drawD (ns.map absI) (-1) 0 seed) none none none none none)
  obtain ⟨k', d', x', y', u', s3⟩ := loop_ok 14 8 (.list (ns.map .int)) none none none o
  obtain ⟨k2, ρ2, s4⟩ := isT_ex (tail_ok 11 (some (0, .list (ns.map .int))) (some (k' + 1, d')) x' y' u')
  refine ⟨k2, [], call_rt (r := d16) (ρ := ρ2) rfl rfl ?_ rfl⟩
  show denSs (Ev 19 []) b16 [some (0, .list (ns.map .int)), none, none, none, none, none, none, none, none] = _
  have b : b16 = .cons (.asg (.name 1) (.call 8 (.cons (.var 0) .nil))) (.cons (.ite (.or (.cmp .ne (.call0 1) (.blt .tup (.cons (.blt .sorted (.cons (.call0 12) .nil)) .nil))) (.cmp .ne (.call0 2) (.blt .tup (.cons (.blt .sorted (.cons (.call0 13) .nil)) .nil)))) (.cons (.ret (.lit (.bool false))) .nil) .nil) (.cons (.forr (.name 2) (.rng (.cons (.lit (.int 4)) .nil)) turnB) (tail16 b16))) := rfl
  rw [b, cons_at s1, cons_at (by rw [ite_at s2, if_neg Bool.false_ne_true, nil_at]), cons_at s3]
  exact s4
end Lk05

open PySem PySem.W PyProof.Rows
theorem PySem.Challenge.cw_foldkinds_k05_arrows_of_kinds_holds : PySem.Challenge.rw_foldkinds_k05_arrows_of_kinds.Holds := by
  w_on; o_law; k_head; (case hw => w_witness2)
  k_fill
  refine PV.walk_pv (l := PySem.Challenge.rw_foldkinds_k05_arrows_of_kinds) (k := Lk05.lvl) rfl rfl ⟨rfl, by decide, by decide⟩ (fun w h Y => PySem.W.kIn_of Y) ?F
  case F =>
    intro w mg fa h KX G hmg
    refine' PV.tab_ok (t := Lk05.tab) (i := 16) (r := Lk05.d16) KX G hmg (Lk05.kok (PV.fnK_mk ?pva0 ?pvl0 ?pvc0 ?pvk0)
      (PV.fnK_mk ?pva1 ?pvl1 ?pvc1 ?pvk1)
      (PV.fnK_mk ?pva2 ?pvl2 ?pvc2 ?pvk2)
      (PV.fnK_mk ?pva3 ?pvl3 ?pvc3 ?pvk3)
      (PV.fnK_mk ?pva4 ?pvl4 ?pvc4 ?pvk4)
      (PV.fnK_mk ?pva5 ?pvl5 ?pvc5 ?pvk5)
      (PV.fnK_mk ?pva6 ?pvl6 ?pvc6 ?pvk6)
      (PV.fnK_mk ?pva7 ?pvl7 ?pvc7 ?pvk7)
      (PV.fnK_mk ?pva8 ?pvl8 ?pvc8 ?pvk8)
      (PV.fnK_mk ?pva9 ?pvl9 ?pvc9 ?pvk9)
      (PV.fnK_mk ?pva10 ?pvl10 ?pvc10 ?pvk10)
      (PV.fnK_mk ?pva11 ?pvl11 ?pvc11 ?pvk11)
      (PV.fnK_mk ?pva12 ?pvl12 ?pvc12 ?pvk12)
      (PV.fnK_mk ?pva13 ?pvl13 ?pvc13 ?pvk13)
      (PV.fnK_mk ?pva14 ?pvl14 ?pvc14 ?pvk14)
      (PV.fnK_mk ?pva15 ?pvl15 ?pvc15 ?pvk15)
      (PV.fnK_mk ?pva16 ?pvl16 ?pvc16 ?pvk16)
      ?pvg0
      ?pvg1
      ?pvg2
      ?pvn0
      ?pvn1
      ?pvn2
      ?pvn3
      ?pvn4
      ?pvn5
      ?pvn6
      ?pvn7
      ?pvn8
      ?pvn9
      ?pvn10
      ⟨?pvxa0, ?pvxk0, ?pvxq0, ?pvxb0, ?pvxt0⟩
      ⟨?pvxa1, ?pvxk1, ?pvxq1, ?pvxb1, ?pvxt1⟩
      ?pvs0_0
      ?pvs0_1
      ?pvs1_0
      ?pvs1_1) Lk05.ts rfl rfl rfl rfl Lk05.law
    (case pva0 => k_is); (case pvl0 => k_is); (case pvc0 => k_is); (case pvk0 => k_is)
    (case pva1 => k_is); (case pvl1 => k_is); (case pvc1 => k_is); (case pvk1 => k_is)
    (case pva2 => k_is); (case pvl2 => k_is); (case pvc2 => k_is); (case pvk2 => k_is)
    (case pva3 => k_is); (case pvl3 => k_is); (case pvc3 => k_is); (case pvk3 => k_is)
    (case pva4 => k_is); (case pvl4 => k_is); (case pvc4 => k_is); (case pvk4 => k_is)
    (case pva5 => k_is); (case pvl5 => k_is); (case pvc5 => k_is); (case pvk5 => k_is)
    (case pva6 => k_is); (case pvl6 => k_is); (case pvc6 => k_is); (case pvk6 => k_is)
    (case pva7 => k_is); (case pvl7 => k_is); (case pvc7 => k_is); (case pvk7 => k_is)
    (case pva8 => k_is); (case pvl8 => k_is); (case pvc8 => k_is); (case pvk8 => k_is)
    (case pva9 => k_is); (case pvl9 => k_is); (case pvc9 => k_is); (case pvk9 => k_is)
    (case pva10 => k_is); (case pvl10 => k_is); (case pvc10 => k_is); (case pvk10 => k_is)
    (case pva11 => k_is); (case pvl11 => k_is); (case pvc11 => k_is); (case pvk11 => k_is)
    (case pva12 => k_is); (case pvl12 => k_is); (case pvc12 => k_is); (case pvk12 => k_is)
    (case pva13 => k_is); (case pvl13 => k_is); (case pvc13 => k_is); (case pvk13 => k_is)
    (case pva14 => k_is); (case pvl14 => k_is); (case pvc14 => k_is); (case pvk14 => k_is)
    (case pva15 => k_is); (case pvl15 => k_is); (case pvc15 => k_is); (case pvk15 => k_is)
    (case pva16 => k_is); (case pvl16 => k_is); (case pvc16 => k_is); (case pvk16 => k_is)
    (case pvg0 => kernel_rfl)
    (case pvg1 => kernel_rfl)
    (case pvg2 => kernel_rfl)
    (case pvn0 => k_is)
    (case pvn1 => k_is)
    (case pvn2 => k_is)
    (case pvn3 => k_is)
    (case pvn4 => k_is)
    (case pvn5 => k_is)
    (case pvn6 => k_is)
    (case pvn7 => k_is)
    (case pvn8 => k_is)
    (case pvn9 => k_is)
    (case pvn10 => k_is)
    (case pvxa0 => k_is); (case pvxk0 => k_is); (case pvxq0 => k_exc); (case pvxb0 => k_is); (case pvxt0 => k_is)
    (case pvxa1 => k_is); (case pvxk1 => k_is); (case pvxq1 => k_exc); (case pvxb1 => k_is); (case pvxt1 => k_is)
    (case pvs0_0 => first | k_is | kernel_rfl)
    (case pvs0_1 => first | k_is | kernel_rfl)
    (case pvs1_0 => first | k_is | kernel_rfl)
    (case pvs1_1 => first | k_is | kernel_rfl)
