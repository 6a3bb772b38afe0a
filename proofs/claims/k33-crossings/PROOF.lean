import PyProof.Rows.All
import Wide.All
import OpenK.AllK
import Wide.FinOn
import HandS.ForMost
import HandS.SortInts
import HandS.Strs
import HandS.IsInst
import HandS.Deep
import HandS.TupAny
import HandS.TupLe
import HandS.SetFor
import HandS.TupMul
import HandS.Style
import KE.BitLaws
import HandS.WideBits
import PySem.Challenge.RW_tracetalk_k33_crossings
set_option Elab.async false
set_option linter.all false
set_option maxRecDepth 100000
/-! T3, part a: data D, how it lies in a heap (Rel, Own), environments, steps. -/
namespace T3
open PySem L2

inductive D where
  | non
  | bl (b : Bool)
  | int (i : Int)
  | str (x : Str)
  | lst (xs : List D)
  | tup (xs : List D)
  | scr (ns : List Int)
  | obj (c : Nat) (fs : List D)
  | dK (ks : List Key) (vs : List D)
  | dT (ks : List (List Key)) (vs : List D)

/-- classes by number: address, attributes in the order in which they are stored -/
abbrev CT := Nat → Option (Addr × List Str)

mutual
/-- frozen data: in F, the part of the heap that never changes any more -/
inductive Rel (K : PySem.W.Frag) (ct : CT) (F : Hp) : D → V → Prop
  | non : Rel K ct F .non .non
  | bl (b : Bool) : Rel K ct F (.bl b) (.bl b)
  | int (i : Int) : Rel K ct F (.int i) (.int i)
  | str (x : Str) : Rel K ct F (.str x) (.str x)
  | lst {a : Addr} {xs : List D} {vs : List V} : F a = some (.lst vs) → RelAll K ct F xs vs → Rel K ct F (.lst xs) (.ref a)
  | tup {a : Addr} {xs : List D} {vs : List V} : SqT K F a vs → RelAll K ct F xs vs → Rel K ct F (.tup xs) (.ref a)
  | scr {a : Addr} {ns : List Int} : SqL K F a (ns.map V.int) → Rel K ct F (.scr ns) (.ref a)
  | obj {a C dx : Addr} {names : List Str} {c : Nat} {xs : List D} {vs : List V} : ct c = some (C, names) → vs.length ≤ names.length → F a = some (.ins C dx (names.zip vs)) → RelAll K ct F xs vs → Rel K ct F (.obj c xs) (.ref a)
  | dK {a : Addr} {ks : List Key} {xs : List D} {vs : List V} : F a = some (.dK (ks.zip vs)) → ks.length = vs.length → RelAll K ct F xs vs → Rel K ct F (.dK ks xs) (.ref a)
  | dT {a : Addr} {ks : List (List Key)} {xs : List D} {vs : List V} : F a = some (.dT (ks.zip vs)) → ks.length = vs.length → RelAll K ct F xs vs → Rel K ct F (.dT ks xs) (.ref a)
inductive RelAll (K : PySem.W.Frag) (ct : CT) (F : Hp) : List D → List V → Prop
  | nil : RelAll K ct F [] []
  | cons {d : D} {v : V} {ds : List D} {vs : List V} : Rel K ct F d v → RelAll K ct F ds vs → RelAll K ct F (d :: ds) (v :: vs)
end

/-- what is known of a slot's ownership -/
inductive OT where
  | fz
  | lst (k : OT)
  | ins (c : Nat) (ks : List OT)
  | dK
  | dT

mutual
/-- owned data: the addresses at the end are its own, nobody else knows them -/
inductive Own (K : PySem.W.Frag) (ct : CT) (F H : Hp) : OT → D → V → List Addr → Prop
  | fz {d : D} {v : V} : Rel K ct F d v → Own K ct F H .fz d v []
  | lst {k : OT} {a : Addr} {xs : List D} {vs : List V} {B : List Addr} : H a = some (.lst vs) → OwnAll K ct F H k xs vs B → Own K ct F H (.lst k) (.lst xs) (.ref a) (a :: B)
  | ins {ks : List OT} {a C dx : Addr} {names : List Str} {c : Nat} {xs : List D} {vs : List V} {B : List Addr} : ct c = some (C, names) → vs.length ≤ names.length → H a = some (.ins C dx (names.zip vs)) →
      OwnEach K ct F H ks xs vs B → Own K ct F H (.ins c ks) (.obj c xs) (.ref a) (a :: B)
  | dK {a : Addr} {ks : List Key} {xs : List D} {vs : List V} : H a = some (.dK (ks.zip vs)) → ks.length = vs.length → RelAll K ct F xs vs → Own K ct F H .dK (.dK ks xs) (.ref a) [a]
  | dT {a : Addr} {ks : List (List Key)} {xs : List D} {vs : List V} : H a = some (.dT (ks.zip vs)) → ks.length = vs.length → RelAll K ct F xs vs → Own K ct F H .dT (.dT ks xs) (.ref a) [a]
inductive OwnAll (K : PySem.W.Frag) (ct : CT) (F H : Hp) : OT → List D → List V → List Addr → Prop
  | nil {k : OT} : OwnAll K ct F H k [] [] []
  | cons {k : OT} {d : D} {v : V} {ds : List D} {vs : List V} {B Bs : List Addr} : Own K ct F H k d v B → OwnAll K ct F H k ds vs Bs → OwnAll K ct F H k (d :: ds) (v :: vs) (B ++ Bs)
inductive OwnEach (K : PySem.W.Frag) (ct : CT) (F H : Hp) : List OT → List D → List V → List Addr → Prop
  | nil : OwnEach K ct F H [] [] [] []
  | cons {k : OT} {ks : List OT} {d : D} {v : V} {ds : List D} {vs : List V} {B Bs : List Addr} : Own K ct F H k d v B → OwnEach K ct F H ks ds vs Bs → OwnEach K ct F H (k :: ks) (d :: ds) (v :: vs) (B ++ Bs)
end

abbrev Sub (F H : Hp) : Prop := ∀ a o, F a = some o → H a = some o

section
variable {K : PySem.W.Frag} {ct : CT} {F F' H H' : Hp}

theorem sqT_mono {a : Addr} {vs : List V} (s : Sub F F') (h : SqT K F a vs) : SqT K F' a vs := by
  rcases h with h | h
  · rcases h with h | ⟨o, h⟩
    · exact .inl (.inl (s _ _ h))
    · exact .inl (.inr ⟨o, s _ _ h⟩)
  · exact .inr h
theorem sqL_mono {a : Addr} {vs : List V} (s : Sub F F') (h : SqL K F a vs) : SqL K F' a vs := by
  rcases h with h | h
  · rcases h with h | ⟨o, h⟩
    · exact .inl (.inl (s _ _ h))
    · exact .inl (.inr ⟨o, s _ _ h⟩)
  · exact .inr h

mutual
theorem Rel.mono {d : D} {v : V} (s : Sub F F') : Rel K ct F d v → Rel K ct F' d v
  | .non => .non
  | .bl b => .bl b
  | .int i => .int i
  | .str x => .str x
  | .lst h r => .lst (s _ _ h) (RelAll.mono s r)
  | .tup h r => .tup (sqT_mono s h) (RelAll.mono s r)
  | .scr h => .scr (sqL_mono s h)
  | .obj h1 h2 h3 r => .obj h1 h2 (s _ _ h3) (RelAll.mono s r)
  | .dK h e r => .dK (s _ _ h) e (RelAll.mono s r)
  | .dT h e r => .dT (s _ _ h) e (RelAll.mono s r)
theorem RelAll.mono {ds : List D} {vs : List V} (s : Sub F F') : RelAll K ct F ds vs → RelAll K ct F' ds vs
  | .nil => .nil
  | .cons h r => .cons (Rel.mono s h) (RelAll.mono s r)
end

mutual
/-- owned data stays where its own addresses and F stay -/
theorem Own.mono {k : OT} {d : D} {v : V} {B : List Addr} (s : Sub F F') : Own K ct F H k d v B → (∀ b ∈ B, ∀ o, H b = some o → H' b = some o) → Own K ct F' H' k d v B
  | .fz r, _ => .fz (Rel.mono s r)
  | .lst h r, q => .lst (q _ List.mem_cons_self _ h) (OwnAll.mono s r fun b hb => q b (List.mem_cons_of_mem _ hb))
  | .ins h1 h2 h3 r, q => .ins h1 h2 (q _ List.mem_cons_self _ h3) (OwnEach.mono s r fun b hb => q b (List.mem_cons_of_mem _ hb))
  | .dK h e r, q => .dK (q _ List.mem_cons_self _ h) e (RelAll.mono s r)
  | .dT h e r, q => .dT (q _ List.mem_cons_self _ h) e (RelAll.mono s r)
theorem OwnAll.mono {k : OT} {ds : List D} {vs : List V} {B : List Addr} (s : Sub F F') : OwnAll K ct F H k ds vs B → (∀ b ∈ B, ∀ o, H b = some o → H' b = some o) → OwnAll K ct F' H' k ds vs B
  | .nil, _ => .nil
  | .cons h r, q => .cons (Own.mono s h fun b hb => q b (List.mem_append_left _ hb)) (OwnAll.mono s r fun b hb => q b (List.mem_append_right _ hb))
theorem OwnEach.mono {ks : List OT} {ds : List D} {vs : List V} {B : List Addr} (s : Sub F F') : OwnEach K ct F H ks ds vs B → (∀ b ∈ B, ∀ o, H b = some o → H' b = some o) → OwnEach K ct F' H' ks ds vs B
  | .nil, _ => .nil
  | .cons h r, q => .cons (Own.mono s h fun b hb => q b (List.mem_append_left _ hb)) (OwnEach.mono s r fun b hb => q b (List.mem_append_right _ hb))
end

mutual
/-- what is owned is there -/
theorem Own.there {k : OT} {d : D} {v : V} {B : List Addr} : Own K ct F H k d v B → ∀ b ∈ B, ∃ o, H b = some o
  | .fz _, _, hb => nomatch hb
  | .lst h r, b, hb => by
    rcases List.mem_cons.mp hb with e | e
    · exact ⟨_, e ▸ h⟩
    · exact OwnAll.there r b e
  | .ins h1 h2 h3 r, b, hb => by
    rcases List.mem_cons.mp hb with e | e
    · exact ⟨_, e ▸ h3⟩
    · exact OwnEach.there r b e
  | .dK h _ _, b, hb => ⟨_, List.mem_singleton.mp hb ▸ h⟩
  | .dT h _ _, b, hb => ⟨_, List.mem_singleton.mp hb ▸ h⟩
theorem OwnAll.there {k : OT} {ds : List D} {vs : List V} {B : List Addr} : OwnAll K ct F H k ds vs B → ∀ b ∈ B, ∃ o, H b = some o
  | .nil, _, hb => nomatch hb
  | .cons h r, b, hb => by
    rcases List.mem_append.mp hb with e | e
    · exact Own.there h b e
    · exact OwnAll.there r b e
theorem OwnEach.there {ks : List OT} {ds : List D} {vs : List V} {B : List Addr} : OwnEach K ct F H ks ds vs B → ∀ b ∈ B, ∃ o, H b = some o
  | .nil, _, hb => nomatch hb
  | .cons h r, b, hb => by
    rcases List.mem_append.mp hb with e | e
    · exact Own.there h b e
    · exact OwnEach.there r b e
end

mutual
/-- what is owned may be frozen: F' knows its addresses -/
theorem Own.rel {k : OT} {d : D} {v : V} {B : List Addr} (s : Sub F F') : Own K ct F H k d v B → (∀ b ∈ B, ∀ o, H b = some o → F' b = some o) → Rel K ct F' d v
  | .fz r, _ => Rel.mono s r
  | .lst h r, q => .lst (q _ List.mem_cons_self _ h) (OwnAll.rel s r fun b hb => q b (List.mem_cons_of_mem _ hb))
  | .ins h1 h2 h3 r, q => .obj h1 h2 (q _ List.mem_cons_self _ h3) (OwnEach.rel s r fun b hb => q b (List.mem_cons_of_mem _ hb))
  | .dK h e r, q => .dK (q _ List.mem_cons_self _ h) e (RelAll.mono s r)
  | .dT h e r, q => .dT (q _ List.mem_cons_self _ h) e (RelAll.mono s r)
theorem OwnAll.rel {k : OT} {ds : List D} {vs : List V} {B : List Addr} (s : Sub F F') : OwnAll K ct F H k ds vs B → (∀ b ∈ B, ∀ o, H b = some o → F' b = some o) → RelAll K ct F' ds vs
  | .nil, _ => .nil
  | .cons h r, q => .cons (Own.rel s h fun b hb => q b (List.mem_append_left _ hb)) (OwnAll.rel s r fun b hb => q b (List.mem_append_right _ hb))
theorem OwnEach.rel {ks : List OT} {ds : List D} {vs : List V} {B : List Addr} (s : Sub F F') : OwnEach K ct F H ks ds vs B → (∀ b ∈ B, ∀ o, H b = some o → F' b = some o) → RelAll K ct F' ds vs
  | .nil, _ => .nil
  | .cons h r, q => .cons (Own.rel s h fun b hb => q b (List.mem_append_left _ hb)) (OwnEach.rel s r fun b hb => q b (List.mem_append_right _ hb))
end

theorem RelAll.len {ds : List D} {vs : List V} : RelAll K ct F ds vs → ds.length = vs.length
  | .nil => rfl
  | .cons _ r => congrArg (· + 1) (RelAll.len r)
theorem RelAll.get {ds : List D} {vs : List V} : RelAll K ct F ds vs → ∀ (i : Nat) (d : D), ds[i]? = some d → ∃ v, vs[i]? = some v ∧ Rel K ct F d v
  | .nil, i, d, h => by simp at h
  | .cons h r, 0, d, e => by simp at e; subst e; exact ⟨_, rfl, h⟩
  | .cons h r, i + 1, d, e => by simpa using RelAll.get r i d (by simpa using e)
theorem RelAll.get' {ds : List D} {vs : List V} : RelAll K ct F ds vs → ∀ (i : Nat) (v : V), vs[i]? = some v → ∃ d, ds[i]? = some d ∧ Rel K ct F d v
  | .nil, i, d, h => by simp at h
  | .cons h r, 0, d, e => by simp at e; subst e; exact ⟨_, rfl, h⟩
  | .cons h r, i + 1, d, e => by simpa using RelAll.get' r i d (by simpa using e)
theorem RelAll.app {ds es : List D} {vs us : List V} : RelAll K ct F ds vs → RelAll K ct F es us → RelAll K ct F (ds ++ es) (vs ++ us)
  | .nil, q => q
  | .cons h r, q => .cons h (RelAll.app r q)
theorem RelAll.setI {ds : List D} {vs : List V} {d : D} {v : V} (n : Rel K ct F d v) : RelAll K ct F ds vs → ∀ i : Nat, RelAll K ct F (ds.set i d) (vs.set i v)
  | .nil, _ => .nil
  | .cons h r, 0 => .cons n r
  | .cons h r, i + 1 => .cons h (RelAll.setI n r i)
theorem RelAll.drop {ds : List D} {vs : List V} : ∀ n : Nat, RelAll K ct F ds vs → RelAll K ct F (ds.drop n) (vs.drop n)
  | 0, r => r
  | n + 1, .nil => .nil
  | n + 1, .cons h r => RelAll.drop n r
theorem RelAll.take {ds : List D} {vs : List V} : ∀ n : Nat, RelAll K ct F ds vs → RelAll K ct F (ds.take n) (vs.take n)
  | 0, r => .nil
  | n + 1, .nil => .nil
  | n + 1, .cons h r => .cons h (RelAll.take n r)
theorem RelAll.rev {ds : List D} {vs : List V} : RelAll K ct F ds vs → RelAll K ct F ds.reverse vs.reverse
  | .nil => .nil
  | .cons h r => by rw [List.reverse_cons, List.reverse_cons]; exact RelAll.app (RelAll.rev r) (.cons h .nil)
theorem RelAll.rep {ds : List D} {vs : List V} (r : RelAll K ct F ds vs) : ∀ k : Nat, RelAll K ct F (List.replicate k ds).flatten (List.replicate k vs).flatten
  | 0 => .nil
  | k + 1 => by rw [List.replicate_succ, List.replicate_succ, List.flatten_cons, List.flatten_cons]; exact RelAll.app r (RelAll.rep r k)
theorem RelAll.dropLast {ds : List D} {vs : List V} (r : RelAll K ct F ds vs) : RelAll K ct F ds.dropLast vs.dropLast := by
  rw [List.dropLast_eq_take, List.dropLast_eq_take, RelAll.len r]; exact RelAll.take _ r
theorem RelAll.erase {ds : List D} {vs : List V} : RelAll K ct F ds vs → ∀ i : Nat, RelAll K ct F (ds.eraseIdx i) (vs.eraseIdx i)
  | .nil, _ => .nil
  | .cons h r, 0 => r
  | .cons h r, i + 1 => .cons h (RelAll.erase r i)
/-- frozen items need no addresses -/
theorem OwnAll.of_fz {ds : List D} {vs : List V} : RelAll K ct F ds vs → OwnAll K ct F H .fz ds vs []
  | .nil => .nil
  | .cons h r => OwnAll.cons (B := []) (Bs := []) (.fz h) (OwnAll.of_fz r)
theorem OwnAll.fz' {ds : List D} {vs : List V} {B : List Addr} : OwnAll K ct F H .fz ds vs B → RelAll K ct F ds vs ∧ B = []
  | .nil => ⟨.nil, rfl⟩
  | .cons (.fz h) r => by
    obtain ⟨q, e⟩ := OwnAll.fz' r
    subst e
    exact ⟨.cons h q, rfl⟩
theorem OwnAll.len {k : OT} {ds : List D} {vs : List V} {B : List Addr} : OwnAll K ct F H k ds vs B → ds.length = vs.length
  | .nil => rfl
  | .cons _ r => congrArg (· + 1) (OwnAll.len r)
theorem OwnEach.len {k : List OT} {ds : List D} {vs : List V} {B : List Addr} : OwnEach K ct F H k ds vs B → ds.length = vs.length
  | .nil => rfl
  | .cons _ r => congrArg (· + 1) (OwnEach.len r)
end

/-! ### the state's soundness, steps -/
structure Ok (A : List Addr) (F H : Hp) : Prop where
  sub : Sub F H
  nd : A.Nodup
  out : ∀ a ∈ A, F a = none
structure Stp (A : List Addr) (F H : Hp) (A' : List Addr) (F' H' : Hp) : Prop where
  fs : Sub F F'
  fr : ∀ b o, H b = some o → b ∉ A → H' b = some o
  nf : ∀ b o, F' b = some o → F b = some o ∨ H b = none ∨ b ∈ A
  na : ∀ a ∈ A', a ∈ A ∨ H a = none

section
variable {A A' A1 A2 B B1 B2 : List Addr} {F F' F1 F2 H H' H1 H2 : Hp}
theorem Stp.refl : Stp A F H A F H := ⟨fun _ _ h => h, fun _ _ h _ => h, fun _ _ h => .inl h, fun _ h => .inl h⟩
theorem Stp.refl' (h : ∀ a ∈ A', a ∈ A) : Stp A F H A' F H := ⟨fun _ _ h => h, fun _ _ h _ => h, fun _ _ h => .inl h, fun a q => .inl (h a q)⟩
theorem Stp.none_of (s : Stp A F H A' F' H') {b : Addr} (h : H' b = none) : H b = none ∨ b ∈ A := by
  cases e : H b with
  | none => exact .inl rfl
  | some o =>
    refine .inr (Classical.byContradiction fun q => ?_)
    rw [s.fr b o e q] at h
    cases h
theorem Stp.trans (s : Stp A F H A1 F1 H1) (t : Stp A1 F1 H1 A2 F2 H2) : Stp A F H A2 F2 H2 := by
  refine ⟨fun a o h => t.fs a o (s.fs a o h), fun b o h q => t.fr b o (s.fr b o h q) fun z => ?_, fun b o h => ?_, fun a h => ?_⟩
  · rcases s.na b z with z | z
    · exact q z
    · rw [z] at h; cases h
  · rcases t.nf b o h with z | z | z
    · exact s.nf b o z
    · exact .inr (s.none_of z)
    · rcases s.na b z with z | z
      · exact .inr (.inr z)
      · exact .inr (.inl z)
  · rcases t.na a h with z | z
    · exact s.na a z
    · rcases s.none_of z with z | z
      · exact .inr z
      · exact .inl z
theorem Stp.weak (s : Stp A F H A' F' H') (h : ∀ a ∈ A, a ∈ A1) (h' : ∀ a ∈ A2, a ∈ A' ∨ a ∈ A1) : Stp A1 F H A2 F' H' := by
  refine ⟨s.fs, fun b o e q => s.fr b o e fun z => q (h b z), fun b o e => ?_, fun a q => ?_⟩
  · rcases s.nf b o e with z | z | z
    · exact .inl z
    · exact .inr (.inl z)
    · exact .inr (.inr (h b z))
  · rcases h' a q with z | z
    · rcases s.na a z with z | z
      · exact .inl (h a z)
      · exact .inr z
    · exact .inl z
theorem Stp.same (s : Stp [] F H A' F' H') : Sub H H' := fun a o h => s.fr a o h (by simp)
theorem Ok.perm (h : Ok A F H) (p : A.Perm A') : Ok A' F H := ⟨h.sub, p.nodup_iff.mp h.nd, fun a q => h.out a (p.mem_iff.mpr q)⟩
theorem Ok.left (h : Ok (A ++ B) F H) : Ok A F H := ⟨h.sub, (List.nodup_append.mp h.nd).1, fun a q => h.out a (List.mem_append_left _ q)⟩
theorem Ok.right (h : Ok (A ++ B) F H) : Ok B F H := ⟨h.sub, (List.nodup_append.mp h.nd).2.1, fun a q => h.out a (List.mem_append_right _ q)⟩
theorem Ok.nil (h : Ok A F H) : Ok [] F H := ⟨h.sub, List.nodup_nil, fun _ q => nomatch q⟩
theorem Ok.apart (h : Ok (A ++ B) F H) {a : Addr} (ha : a ∈ A) : a ∉ B := fun hb => (List.nodup_append.mp h.nd).2.2 a ha a hb rfl

/-- THE FRAME: a step over A1 leaves what is owned at A2 -/
theorem Stp.frame (s : Stp A1 F H A' F' H') (o : Ok (A1 ++ A2) F H) (o' : Ok A' F' H') (th : ∀ a ∈ A2, ∃ u, H a = some u) :
    Stp (A1 ++ A2) F H (A' ++ A2) F' H' ∧ Ok (A' ++ A2) F' H' ∧ ∀ b ∈ A2, ∀ u, H b = some u → H' b = some u := by
  have n1 : ∀ b ∈ A2, b ∉ A1 := fun b hb ha => o.apart ha hb
  refine ⟨s.weak (fun a h => List.mem_append_left _ h) fun a h => ?_, ⟨o'.sub, List.nodup_append.mpr ⟨o'.nd, (List.nodup_append.mp o.nd).2.1, fun a ha b hb e => ?_⟩, fun a ha => ?_⟩, fun b hb u h => s.fr b u h (n1 b hb)⟩
  · rcases List.mem_append.mp h with z | z
    · exact .inl z
    · exact .inr (List.mem_append_right _ z)
  · subst e
    obtain ⟨u, hu⟩ := th a hb
    rcases s.na a ha with z | z
    · exact n1 a hb z
    · rw [z] at hu; cases hu
  · rcases List.mem_append.mp ha with z | z
    · exact o'.out a z
    · cases e : F' a with
      | none => rfl
      | some u =>
        obtain ⟨w, hw⟩ := th a z
        rcases s.nf a u e with q | q | q
        · rw [o.out a (List.mem_append_right _ z)] at q; cases q
        · rw [q] at hw; cases hw
        · exact absurd q (n1 a z)
end

/-! ### views -/
/-- read at a moment: frozen or owned -/
def View (K : PySem.W.Frag) (ct : CT) (F H : Hp) (d : D) (v : V) : Prop := ∃ k B, Own K ct F H k d v B
section
variable {K : PySem.W.Frag} {ct : CT} {F F' H H' : Hp} {d : D} {v : V}
theorem View.of {k : OT} {B : List Addr} (h : Own K ct F H k d v B) : View K ct F H d v := ⟨k, B, h⟩
theorem View.rel (h : Rel K ct F d v) : View K ct F H d v := ⟨.fz, [], .fz h⟩
theorem View.mono (s : Sub F F') (t : Sub H H') (h : View K ct F H d v) : View K ct F' H' d v := by
  obtain ⟨k, B, o⟩ := h
  exact ⟨k, B, o.mono s fun b _ u q => t b u q⟩
/-- at H itself it is as if frozen -/
theorem View.now (s : Sub F H) (h : View K ct F H d v) : Rel K ct H d v := by
  obtain ⟨k, B, o⟩ := h
  exact o.rel s fun b _ u q => q
end

/-- read at a moment, the items frozen -/
inductive Wv (K : PySem.W.Frag) (ct : CT) (F H : Hp) : D → V → Prop
  | rel {d : D} {v : V} : Rel K ct F d v → Wv K ct F H d v
  | lst {a : Addr} {xs : List D} {vs : List V} : H a = some (.lst vs) → RelAll K ct F xs vs → Wv K ct F H (.lst xs) (.ref a)
  | dK {a : Addr} {ks : List Key} {xs : List D} {vs : List V} : H a = some (.dK (ks.zip vs)) → ks.length = vs.length → RelAll K ct F xs vs → Wv K ct F H (.dK ks xs) (.ref a)
  | dT {a : Addr} {ks : List (List Key)} {xs : List D} {vs : List V} : H a = some (.dT (ks.zip vs)) → ks.length = vs.length → RelAll K ct F xs vs → Wv K ct F H (.dT ks xs) (.ref a)
/-- kinds whose items are frozen -/
def OT.flat : OT → Bool
  | .fz => true
  | .lst .fz => true
  | .dK => true
  | .dT => true
  | _ => false
section
variable {K : PySem.W.Frag} {ct : CT} {F F' H H' : Hp} {d : D} {v : V}
theorem Wv.of {k : OT} {B : List Addr} (hk : k.flat = true) (h : Own K ct F H k d v B) : Wv K ct F H d v := by
  cases h with
  | fz r => exact .rel r
  | @lst k a xs vs B h r =>
    cases k with
    | fz => exact .lst h (OwnAll.fz' r).1
    | _ => simp [OT.flat] at hk
  | ins h1 h2 h3 r => simp [OT.flat] at hk
  | dK h e r => exact .dK h e r
  | dT h e r => exact .dT h e r
theorem Wv.view (h : Wv K ct F H d v) : View K ct F H d v := by
  cases h with
  | rel r => exact .rel r
  | lst h r => exact ⟨.lst .fz, _, .lst h (OwnAll.of_fz r)⟩
  | dK h e r => exact ⟨.dK, _, .dK h e r⟩
  | dT h e r => exact ⟨.dT, _, .dT h e r⟩
theorem Wv.mono (s : Sub F F') (t : Sub H H') (h : Wv K ct F H d v) : Wv K ct F' H' d v := by
  cases h with
  | rel r => exact .rel (r.mono s)
  | lst h r => exact .lst (t _ _ h) (r.mono s)
  | dK h e r => exact .dK (t _ _ h) e (r.mono s)
  | dT h e r => exact .dT (t _ _ h) e (r.mono s)
end

/-! ### environments -/
abbrev Env := List (Option D)
def SlotR (K : PySem.W.Frag) (ct : CT) (F H : Hp) (k : OT) (e : Option D) (o : Option V) (B : List Addr) : Prop :=
  match e with
  | none => B = []
  | some d => ∃ v, o = some v ∧ Own K ct F H k d v B
inductive EnvR (K : PySem.W.Frag) (ct : CT) (F H : Hp) : List OT → Env → St → List Addr → Prop
  | nil : EnvR K ct F H [] [] [] []
  | cons {k : OT} {m : List OT} {e : Option D} {env : Env} {o : Option V} {σ : St} {B A : List Addr} : SlotR K ct F H k e o B → EnvR K ct F H m env σ A → EnvR K ct F H (k :: m) (e :: env) (o :: σ) (B ++ A)
section
variable {K : PySem.W.Frag} {ct : CT} {F F' H H' : Hp} {m : List OT} {env : Env} {σ : St} {A : List Addr}
theorem SlotR.mono {k : OT} {e : Option D} {o : Option V} {B : List Addr} (s : Sub F F') (h : SlotR K ct F H k e o B) (q : ∀ b ∈ B, ∀ u, H b = some u → H' b = some u) : SlotR K ct F' H' k e o B := by
  cases e with
  | none => exact h
  | some d =>
    obtain ⟨v, e, h⟩ := h
    exact ⟨v, e, h.mono s q⟩
theorem SlotR.there {k : OT} {e : Option D} {o : Option V} {B : List Addr} (h : SlotR K ct F H k e o B) : ∀ b ∈ B, ∃ u, H b = some u := by
  cases e with
  | none => intro b hb; rw [show B = [] from h] at hb; exact nomatch hb
  | some d =>
    obtain ⟨v, e, h⟩ := h
    exact h.there
theorem EnvR.mono (s : Sub F F') : ∀ {m : List OT} {env : Env} {σ : St} {A : List Addr}, EnvR K ct F H m env σ A → (∀ b ∈ A, ∀ u, H b = some u → H' b = some u) → EnvR K ct F' H' m env σ A
  | _, _, _, _, .nil, _ => .nil
  | _, _, _, _, .cons h r, q => .cons (h.mono s fun b hb => q b (List.mem_append_left _ hb)) (EnvR.mono s r fun b hb => q b (List.mem_append_right _ hb))
theorem EnvR.there : ∀ {m : List OT} {env : Env} {σ : St} {A : List Addr}, EnvR K ct F H m env σ A → ∀ b ∈ A, ∃ u, H b = some u
  | _, _, _, _, .nil, _, hb => nomatch hb
  | _, _, _, _, .cons h r, b, hb => by
    rcases List.mem_append.mp hb with e | e
    · exact h.there b e
    · exact EnvR.there r b e
theorem EnvR.lenM : ∀ {m : List OT} {env : Env} {σ : St} {A : List Addr}, EnvR K ct F H m env σ A → m.length = σ.length
  | _, _, _, _, .nil => rfl
  | _, _, _, _, .cons _ r => congrArg (· + 1) (EnvR.lenM r)
theorem EnvR.lenE : ∀ {m : List OT} {env : Env} {σ : St} {A : List Addr}, EnvR K ct F H m env σ A → env.length = σ.length
  | _, _, _, _, .nil => rfl
  | _, _, _, _, .cons _ r => congrArg (· + 1) (EnvR.lenE r)
/-- a slot, and the others without it -/
theorem EnvR.at_ (r : EnvR K ct F H m env σ A) : ∀ (i : Nat) (k : OT), m[i]? = some k → ∃ (e : Option D) (o : Option V) (B R : List Addr), env[i]? = some e ∧ σ[i]? = some o ∧ A.Perm (B ++ R) ∧ SlotR K ct F H k e o B ∧ (∀ b ∈ R, ∃ u, H b = some u) ∧
    ∀ (F' H' : Hp) (k' : OT) (e' : Option D) (o' : Option V) (B' : List Addr), Sub F F' → (∀ b ∈ R, ∀ u, H b = some u → H' b = some u) → SlotR K ct F' H' k' e' o' B' →
      ∃ A', A'.Perm (B' ++ R) ∧ EnvR K ct F' H' (m.set i k') (env.set i e') (σ.set i o') A' := by
  induction r with
  | nil => intro i k h; simp at h
  | @cons k0 m e env o σ B A h r ih =>
    intro i k hk
    cases i with
    | zero =>
      simp at hk; subst hk
      exact ⟨e, o, B, A, rfl, rfl, .refl _, h, EnvR.there r, fun F' H' k' e' o' B' s q n => ⟨B' ++ A, .refl _, .cons n (EnvR.mono s r q)⟩⟩
    | succ i =>
      obtain ⟨e1, o1, B1, R1, h1, h2, p, sl, th, up⟩ := ih i k (by simpa using hk)
      refine ⟨e1, o1, B1, B ++ R1, by simpa using h1, by simpa using h2, ?_, sl, fun b hb => ?_, fun F' H' k' e' o' B' s q n => ?_⟩
      · refine (List.Perm.append_left B p).trans ?_
        rw [← List.append_assoc, ← List.append_assoc]
        exact List.Perm.append_right _ List.perm_append_comm
      · rcases List.mem_append.mp hb with z | z
        · exact h.there b z
        · exact th b z
      · obtain ⟨A', p', r'⟩ := up F' H' k' e' o' B' s (fun b hb => q b (List.mem_append_right _ hb)) n
        refine ⟨B ++ A', ?_, .cons (h.mono s fun b hb => q b (List.mem_append_left _ hb)) r'⟩
        refine (List.Perm.append_left B p').trans ?_
        rw [← List.append_assoc, ← List.append_assoc]
        exact List.Perm.append_right _ List.perm_append_comm
/-- a frozen slot read -/
theorem EnvR.fzAt (r : EnvR K ct F H m env σ A) {i : Nat} {d : D} (hm : m[i]? = some .fz) (he : env[i]? = some (some d)) : ∃ v, σ[i]? = some (some v) ∧ Rel K ct F d v := by
  obtain ⟨e, o, B, R, h1, h2, _, sl, _, _⟩ := r.at_ i _ hm
  rw [he] at h1
  cases h1
  obtain ⟨v, e, h⟩ := sl
  cases h with
  | fz h => exact ⟨v, by rw [h2, e], h⟩
theorem EnvR.wvAt (r : EnvR K ct F H m env σ A) {i : Nat} {d : D} {k : OT} (hm : m[i]? = some k) (hk : k.flat = true) (he : env[i]? = some (some d)) : ∃ v, σ[i]? = some (some v) ∧ Wv K ct F H d v := by
  obtain ⟨e, o, B, R, h1, h2, _, sl, _, _⟩ := r.at_ i _ hm
  rw [he] at h1
  cases h1
  obtain ⟨v, e, h⟩ := sl
  exact ⟨v, by rw [h2, e], .of hk h⟩
theorem EnvR.viewAt (r : EnvR K ct F H m env σ A) {i : Nat} {d : D} (he : env[i]? = some (some d)) : ∃ v, σ[i]? = some (some v) ∧ View K ct F H d v := by
  have hl := r.lenM
  have hl2 := r.lenE
  have hi : i < m.length := by
    have := (List.getElem?_eq_some_iff.mp he).1
    omega
  obtain ⟨e, o, B, R, h1, h2, _, sl, _, _⟩ := r.at_ i _ (List.getElem?_eq_getElem hi)
  rw [he] at h1
  cases h1
  obtain ⟨v, e, h⟩ := sl
  exact ⟨v, by rw [h2, e], .of h⟩
end
end T3

/-! T3, part b: readings of expressions, glue. -/
namespace T3
open PySem L2

/-- pure: what it gives; with a change of what is owned -/
abbrev PF := Env → Option D
abbrev IF := Env → Option (D × Env)
abbrev PFs := Env → Option (List D)
abbrev IFs := Env → Option (List D × Env)

section
variable (K : PySem.W.Frag) (ct : CT) (m : List OT)
def tP (f : PF) (k : OT) : TE := fun σ H Q => ∃ F A env d, Ok A F H ∧ EnvR K ct F H m env σ A ∧ f env = some d ∧
  ∀ F' H' B v, Stp [] F H B F' H' → Ok B F' H' → Own K ct F' H' k d v B → Q v H'
def tV (f : PF) : TE := fun σ H Q => ∃ F A env d, Ok A F H ∧ EnvR K ct F H m env σ A ∧ f env = some d ∧
  ∀ F' H' v, Stp [] F H [] F' H' → Ok [] F' H' → View K ct F' H' d v → Q v H'
def tW (f : PF) : TE := fun σ H Q => ∃ F A env d, Ok A F H ∧ EnvR K ct F H m env σ A ∧ f env = some d ∧
  ∀ F' H' v, Stp [] F H [] F' H' → Ok [] F' H' → Wv K ct F' H' d v → Q v H'
def tI (f : IF) (k : OT) : TE := fun σ H Q => ∃ F A env d env', Ok A F H ∧ EnvR K ct F H m env σ A ∧ f env = some (d, env') ∧
  ∀ F' H' A' B v, Stp A F H (A' ++ B) F' H' → Ok (A' ++ B) F' H' → EnvR K ct F' H' m env' σ A' → Own K ct F' H' k d v B → Q v H'
def tVs (f : PFs) : TA := fun σ H Q => ∃ F A env ds, Ok A F H ∧ EnvR K ct F H m env σ A ∧ f env = some ds ∧
  ∀ F' H' vs, Stp [] F H [] F' H' → Ok [] F' H' → Paired (View K ct F' H') ds vs → Q vs H'
def tWs (f : PFs) : TA := fun σ H Q => ∃ F A env ds, Ok A F H ∧ EnvR K ct F H m env σ A ∧ f env = some ds ∧
  ∀ F' H' vs, Stp [] F H [] F' H' → Ok [] F' H' → Paired (Wv K ct F' H') ds vs → Q vs H'
def tFs (f : PFs) : TA := fun σ H Q => ∃ F A env ds, Ok A F H ∧ EnvR K ct F H m env σ A ∧ f env = some ds ∧
  ∀ F' H' vs, Stp [] F H [] F' H' → Ok [] F' H' → RelAll K ct F' ds vs → Q vs H'
def tIs (f : IFs) : TA := fun σ H Q => ∃ F A env ds env', Ok A F H ∧ EnvR K ct F H m env σ A ∧ f env = some (ds, env') ∧
  ∀ F' H' A' vs, Stp A F H A' F' H' → Ok A' F' H' → EnvR K ct F' H' m env' σ A' → RelAll K ct F' ds vs → Q vs H'
end

/-- a pure expression with a result of kind k; one that is looked at; one that may change what is owned; arguments -/
abbrev EP (X : Cx) (ct : CT) (m : List OT) (e : Expr) (f : PF) (k : OT) : Prop := PE X e (tP X.K ct m f k)
abbrev EV (X : Cx) (ct : CT) (m : List OT) (e : Expr) (f : PF) : Prop := PE X e (tV X.K ct m f)
abbrev EW (X : Cx) (ct : CT) (m : List OT) (e : Expr) (f : PF) : Prop := PE X e (tW X.K ct m f)
abbrev AW (X : Cx) (ct : CT) (m : List OT) (es : List Expr) (f : PFs) : Prop := PA X es (tWs X.K ct m f)
abbrev EI (X : Cx) (ct : CT) (m : List OT) (e : Expr) (f : IF) (k : OT) : Prop := PE X e (tI X.K ct m f k)
abbrev AV (X : Cx) (ct : CT) (m : List OT) (es : List Expr) (f : PFs) : Prop := PA X es (tVs X.K ct m f)
abbrev AF (X : Cx) (ct : CT) (m : List OT) (es : List Expr) (f : PFs) : Prop := PA X es (tFs X.K ct m f)
abbrev AI (X : Cx) (ct : CT) (m : List OT) (es : List Expr) (f : IFs) : Prop := PA X es (tIs X.K ct m f)

theorem pe_imp {X : Cx} {e : Expr} {t t' : TE} (h : PE X e t) (i : ∀ σ H Q, t' σ H Q → t σ H Q) : PE X e t' := ⟨fun pins s σ H Q I q => h.run pins s σ H Q I (i σ H Q q)⟩
theorem pa_imp {X : Cx} {e : List Expr} {t t' : TA} (h : PA X e t) (i : ∀ σ H Q, t' σ H Q → t σ H Q) : PA X e t' := ⟨fun pos pins s σ H Q I q => h.run pos pins s σ H Q I (i σ H Q q)⟩

section
variable {K : PySem.W.Frag} {ct : CT} {m : List OT} {F F' H H' : Hp} {A A' B : List Addr} {env : Env} {σ : St}

/-- an environment behind a pure step -/
theorem EnvR.pure (r : EnvR K ct F H m env σ A) (o : Ok A F H) (s : Stp [] F H B F' H') (o' : Ok B F' H') :
    EnvR K ct F' H' m env σ A ∧ Ok (B ++ A) F' H' ∧ Ok A F' H' ∧ Stp A F H (A ++ B) F' H' ∧ Stp A F H A F' H' := by
  obtain ⟨s2, o2, k⟩ := Stp.frame (A1 := []) (A2 := A) s o o' r.there
  exact ⟨r.mono s.fs k, o2, o2.right, s2.weak (fun a h => h) fun a h => (List.mem_append.mp h).elim (fun z => .inl (List.mem_append_right _ z)) fun z => .inl (List.mem_append_left _ z),
    s2.weak (fun a h => h) fun a h => .inr h⟩
theorem Ok.swap (o : Ok (A ++ B) F H) : Ok (B ++ A) F H := o.perm List.perm_append_comm
end

/-! ### names and constants -/
def pC (d : D) : PF := fun _ => some d
def pVar (i : Nat) : PF := fun env => (env[i]?).bind id
def iP (f : PF) : IF := fun env => (f env).map fun d => (d, env)
section
variable {X : Cx} {ct : CT} {m : List OT} {e a b : Expr} {f fa fb : PF} {g ga gb : IF} {k : OT} {pos : Pos}

theorem ep_c {v : V} {d : D} (h : PE X e (tC v)) (r : ∀ F, Rel X.K ct F d v) : EP X ct m e (pC d) .fz :=
  pe_imp h fun σ H Q ⟨F, A, env, d', o, r', e, q⟩ => by
    cases e
    exact q F H [] v Stp.refl o.nil (.fz (r F))
theorem ep_int {i j pos} : EP X ct m (.Constant (.int i) j pos) (pC (.int i)) .fz := ep_c pe_int fun _ => .int i
theorem ep_bl {b j pos} : EP X ct m (.Constant (.bool b) j pos) (pC (.bl b)) .fz := ep_c pe_bl fun _ => .bl b
theorem ep_non {j pos} : EP X ct m (.Constant .none j pos) (pC .non) .fz := ep_c pe_non fun _ => .non
theorem ep_str {x j pos} : EP X ct m (.Constant (.str x) j pos) (pC (.str x)) .fz := ep_c pe_str fun _ => .str x
/-- a module's constant that is an int -/
theorem ep_gint {i : Int} {x : Str} {t : Tok} {pos : Pos} (hg : Gl X x) (hm : X.mg x = some (.int i t)) (hd : (x == ("__debug__" : Str)) = false := by decide) : EP X ct m (.Name x pos) (pC (.int i)) .fz :=
  ep_c (pe_glob (v := .int i) hg hm ⟨t, rfl⟩ hd) fun _ => .int i
theorem bind_id {env : Env} {i : Nat} {d : D} (h : pVar i env = some d) : env[i]? = some (some d) := by
  unfold pVar at h
  cases e : env[i]? with
  | none => rw [e] at h; cases h
  | some o => rw [e] at h; exact congrArg some h
/-- a frozen slot -/
theorem ep_var {i : Nat} (hv : PE X e (tVar i)) (hm : m[i]? = some .fz) : EP X ct m e (pVar i) .fz :=
  pe_imp hv fun σ H Q ⟨F, A, env, d, o, r, e, q⟩ => by
    obtain ⟨v, h1, h2⟩ := r.fzAt hm (bind_id e)
    exact ⟨v, h1, q F H [] v Stp.refl o.nil (.fz h2)⟩
/-- any slot, looked at -/
theorem ev_var {i : Nat} (hv : PE X e (tVar i)) : EV X ct m e (pVar i) :=
  pe_imp hv fun σ H Q ⟨F, A, env, d, o, r, e, q⟩ => by
    obtain ⟨v, h1, h2⟩ := r.viewAt (bind_id e)
    exact ⟨v, h1, q F H v Stp.refl o.nil h2⟩
theorem ew_var {i : Nat} (hv : PE X e (tVar i)) (hm : m[i]? = some k) (hk : k.flat = true) : EW X ct m e (pVar i) :=
  pe_imp hv fun σ H Q ⟨F, A, env, d, o, r, e, q⟩ => by
    obtain ⟨v, h1, h2⟩ := r.wvAt hm hk (bind_id e)
    exact ⟨v, h1, q F H v Stp.refl o.nil h2⟩
/-! ### from one to another -/
theorem ew_of (h : EP X ct m e f k) (hk : k.flat = true) : EW X ct m e f :=
  pe_imp h fun σ H Q ⟨F, A, env, d, o, r, e, q⟩ => ⟨F, A, env, d, o, r, e, fun F' H' B v s o' w => by
    exact q F' H' v (s.weak (fun _ z => z) fun _ z => nomatch z) o'.nil (.of hk w)⟩
theorem ev_w (h : EW X ct m e f) : EV X ct m e f :=
  pe_imp h fun σ H Q ⟨F, A, env, d, o, r, e, q⟩ => ⟨F, A, env, d, o, r, e, fun F' H' v s o' w => q F' H' v s o' w.view⟩
theorem ev_of (h : EP X ct m e f k) : EV X ct m e f :=
  pe_imp h fun σ H Q ⟨F, A, env, d, o, r, e, q⟩ => ⟨F, A, env, d, o, r, e, fun F' H' B v s o' w => by
    exact q F' H' v (s.weak (fun _ z => z) fun _ z => nomatch z) o'.nil (.of w)⟩
/-- a new object's part of the heap -/
def addF (F H : Hp) (B : List Addr) : Hp := fun b => if b ∈ B then H b else F b
theorem addF_in {F H : Hp} {B : List Addr} {b : Addr} (h : b ∈ B) : addF F H B b = H b := if_pos h
theorem addF_out {F H : Hp} {B : List Addr} {b : Addr} (h : b ∉ B) : addF F H B b = F b := if_neg h
/-- freezing: what is owned at B becomes part of F -/
theorem freeze {F H : Hp} {A B : List Addr} (o : Ok (A ++ B) F H) (th : ∀ b ∈ B, ∃ u, H b = some u) :
    Ok A (addF F H B) H ∧ Sub F (addF F H B) ∧ (∀ b ∈ B, ∀ u, H b = some u → addF F H B b = some u) ∧ Stp (A ++ B) F H A (addF F H B) H := by
  have s : Sub F (addF F H B) := fun a u h => by
    rw [addF_out fun z => by rw [o.out a (List.mem_append_right _ z)] at h; cases h]
    exact h
  refine ⟨⟨fun a u h => ?_, o.left.nd, fun a h => ?_⟩, s, fun b hb u h => by rw [addF_in hb]; exact h, s, fun b u h _ => h, fun b u h => ?_, fun a h => .inl (List.mem_append_left _ h)⟩
  · by_cases z : a ∈ B
    · rw [addF_in z] at h; exact h
    · rw [addF_out z] at h; exact o.sub a u h
  · rw [addF_out (o.apart h)]; exact o.out a (List.mem_append_left _ h)
  · by_cases z : b ∈ B
    · exact .inr (.inr (List.mem_append_right _ z))
    · rw [addF_out z] at h; exact .inl h
theorem ep_fz (h : EP X ct m e f k) : EP X ct m e f .fz :=
  pe_imp h fun σ H Q ⟨F, A, env, d, o, r, e, q⟩ => ⟨F, A, env, d, o, r, e, fun F' H' B v s o' w => by
    obtain ⟨o2, s2, k2, st⟩ := freeze (A := []) (B := B) o' w.there
    exact q (addF F' H' B) H' [] v (s.trans st) o2 (.fz (w.rel s2 k2))⟩
theorem ei_fz (h : EI X ct m e g k) : EI X ct m e g .fz :=
  pe_imp h fun σ H Q ⟨F, A, env, d, env', o, r, e, q⟩ => ⟨F, A, env, d, env', o, r, e, fun F' H' A' B v s o' r' w => by
    obtain ⟨o2, s2, k2, st⟩ := freeze o' w.there
    refine q (addF F' H' B) H' A' [] v ?_ (by rw [List.append_nil]; exact o2) (r'.mono s2 fun b hb u h => h) (.fz (w.rel s2 k2))
    rw [List.append_nil]
    exact s.trans st⟩
theorem ei_of (h : EP X ct m e f k) : EI X ct m e (iP f) k :=
  pe_imp h fun σ H Q ⟨F, A, env, d, env', o, r, e, q⟩ => by
    unfold iP at e
    cases e1 : f env with
    | none => rw [e1] at e; cases e
    | some d1 =>
      rw [e1] at e
      cases e
      refine ⟨F, A, env, _, o, r, e1, fun F' H' B v s o' w => ?_⟩
      obtain ⟨r2, o2, o3, s2, s3⟩ := r.pure o s o'
      exact q F' H' A B v s2 o2.swap r2 w
end

/-! ### two in a row -/
def p2 (g : D → D → Option D) (fa fb : PF) : PF := fun env => (fa env).bind fun x => (fb env).bind fun y => g x y
def i2 (g : D → D → Option D) (fa fb : IF) : IF := fun env => (fa env).bind fun p => (fb p.2).bind fun q => (g p.1 q.1).map fun d => (d, q.2)
def p1 (g : D → Option D) (fa : PF) : PF := fun env => (fa env).bind g
def i1 (g : D → Option D) (fa : IF) : IF := fun env => (fa env).bind fun p => (g p.1).map fun d => (d, p.2)
section
variable {K : PySem.W.Frag} {ct : CT} {m : List OT} {F H : Hp} {A : List Addr} {env : Env} {σ : St} {fa fb : PF} {ga gb : IF} {x y : D}
theorem two_v {R : V → V → Hp → Prop} (o : Ok A F H) (r : EnvR K ct F H m env σ A) (ea : fa env = some x) (eb : fb env = some y)
    (q : ∀ F' H' v u, Stp [] F H [] F' H' → Ok [] F' H' → View K ct F' H' x v → View K ct F' H' y u → R v u H') :
    tV K ct m fa σ H fun v H1 => tV K ct m fb σ H1 fun u H2 => R v u H2 := by
  refine ⟨F, A, env, x, o, r, ea, fun F1 H1 v s1 o1 w1 => ?_⟩
  obtain ⟨r2, _, o2, _, _⟩ := r.pure o s1 o1
  exact ⟨F1, A, env, y, o2, r2, eb, fun F2 H2 u s2 o3 w2 => q F2 H2 v u (s1.trans s2) o3 (w1.mono s2.fs s2.same) w2⟩
theorem two_w {R : V → V → Hp → Prop} (o : Ok A F H) (r : EnvR K ct F H m env σ A) (ea : fa env = some x) (eb : fb env = some y)
    (q : ∀ F' H' v u, Stp [] F H [] F' H' → Ok [] F' H' → Wv K ct F' H' x v → Wv K ct F' H' y u → R v u H') :
    tW K ct m fa σ H fun v H1 => tW K ct m fb σ H1 fun u H2 => R v u H2 := by
  refine ⟨F, A, env, x, o, r, ea, fun F1 H1 v s1 o1 w1 => ?_⟩
  obtain ⟨r2, _, o2, _, _⟩ := r.pure o s1 o1
  exact ⟨F1, A, env, y, o2, r2, eb, fun F2 H2 u s2 o3 w2 => q F2 H2 v u (s1.trans s2) o3 (w1.mono s2.fs s2.same) w2⟩
theorem two_i {R : V → V → Hp → Prop} {env1 env2 : Env} (o : Ok A F H) (r : EnvR K ct F H m env σ A) (ea : ga env = some (x, env1)) (eb : gb env1 = some (y, env2))
    (q : ∀ F' H' A' v u, Stp A F H A' F' H' → Ok A' F' H' → EnvR K ct F' H' m env2 σ A' → Rel K ct F' x v → Rel K ct F' y u → R v u H') :
    tI K ct m ga .fz σ H fun v H1 => tI K ct m gb .fz σ H1 fun u H2 => R v u H2 := by
  refine ⟨F, A, env, x, env1, o, r, ea, fun F1 H1 A1 B1 v s1 o1 r1 w1 => ?_⟩
  cases w1 with
  | fz w1 =>
    rw [List.append_nil] at s1 o1
    refine ⟨F1, A1, env1, y, env2, o1, r1, eb, fun F2 H2 A2 B2 u s2 o2 r2 w2 => ?_⟩
    cases w2 with
    | fz w2 =>
      rw [List.append_nil] at s2 o2
      exact q F2 H2 A2 v u (s1.trans s2) o2 r2 (w1.mono s2.fs) w2
end

/-! ### operations on values -/
/-- what an operation on two values gives: frozen or owned anew -/
def VOp2 (K : PySem.W.Frag) (ct : CT) (r : R2) (g : D → D → Option D) (k : OT) : Prop :=
  ∀ (F H : Hp) (x y d : D) (v u : V) (Q : VK), Ok [] F H → View K ct F H x v → View K ct F H y u → g x y = some d →
    (∀ F' H' B w, Stp [] F H B F' H' → Ok B F' H' → Own K ct F' H' k d w B → Q w H') → r v u H Q
/-- .. a part of what stands: looked at -/
def VOp2V (K : PySem.W.Frag) (ct : CT) (r : R2) (g : D → D → Option D) : Prop :=
  ∀ (F H : Hp) (x y d : D) (v u : V) (Q : VK), Ok [] F H → View K ct F H x v → View K ct F H y u → g x y = some d → (∀ w, View K ct F H d w → Q w H) → r v u H Q
/-- .. of things whose items are frozen -/
def VOp2W (K : PySem.W.Frag) (ct : CT) (r : R2) (g : D → D → Option D) (k : OT) : Prop :=
  ∀ (F H : Hp) (x y d : D) (v u : V) (Q : VK), Ok [] F H → Wv K ct F H x v → Wv K ct F H y u → g x y = some d →
    (∀ F' H' B w, Stp [] F H B F' H' → Ok B F' H' → Own K ct F' H' k d w B → Q w H') → r v u H Q
def VOpNW (K : PySem.W.Frag) (ct : CT) (r : List V → Hp → VK → Prop) (g : List D → Option D) (k : OT) : Prop :=
  ∀ (F H : Hp) (xs : List D) (d : D) (vs : List V) (Q : VK), Ok [] F H → Paired (Wv K ct F H) xs vs → g xs = some d →
    (∀ F' H' B w, Stp [] F H B F' H' → Ok B F' H' → Own K ct F' H' k d w B → Q w H') → r vs H Q
theorem VOp2.w {K : PySem.W.Frag} {ct : CT} {r : R2} {g : D → D → Option D} {k : OT} (h : VOp2 K ct r g k) : VOp2W K ct r g k := fun F H x y d v u Q o w1 w2 e q => h F H x y d v u Q o w1.view w2.view e q
def VOpN (K : PySem.W.Frag) (ct : CT) (r : List V → Hp → VK → Prop) (g : List D → Option D) (k : OT) : Prop :=
  ∀ (F H : Hp) (xs : List D) (d : D) (vs : List V) (Q : VK), Ok [] F H → Paired (View K ct F H) xs vs → g xs = some d →
    (∀ F' H' B w, Stp [] F H B F' H' → Ok B F' H' → Own K ct F' H' k d w B → Q w H') → r vs H Q

theorem bind_some2 {α β : Type} {o : Option α} {f : α → Option β} {b : β} (h : o.bind f = some b) : ∃ a, o = some a ∧ f a = some b := Option.bind_eq_some_iff.mp h
theorem map_some2 {α β : Type} {o : Option α} {f : α → β} {b : β} (h : o.map f = some b) : ∃ a, o = some a ∧ f a = b := Option.map_eq_some_iff.mp h

/-- behind a step over what is owned, a pure one -/
theorem Stp.then_pure {K : PySem.W.Frag} {ct : CT} {m : List OT} {F H F1 H1 F2 H2 : Hp} {A A1 B : List Addr} {env : Env} {σ : St} (s1 : Stp A F H A1 F1 H1) (o1 : Ok A1 F1 H1) (r1 : EnvR K ct F1 H1 m env σ A1)
    (s2 : Stp [] F1 H1 B F2 H2) (o2 : Ok B F2 H2) : Stp A F H (A1 ++ B) F2 H2 ∧ Ok (A1 ++ B) F2 H2 ∧ EnvR K ct F2 H2 m env σ A1 := by
  obtain ⟨r2, o3, _, s3, _⟩ := r1.pure o1 s2 o2
  exact ⟨s1.trans s3, o3.swap, r2⟩

section
variable {K : PySem.W.Frag} {ct : CT} {m : List OT} {fa fb : PF} {ga gb : IF} {k : OT} {g : D → D → Option D} {r : R2} {σ : St} {H : Hp} {Q : VK}
theorem imp_2 (hv : VOp2 K ct r g k) (h : tP K ct m (p2 g fa fb) k σ H Q) : tOp r (tV K ct m fa) (tV K ct m fb) σ H Q := by
  obtain ⟨F, A, env, d, o, r, e, q⟩ := h
  obtain ⟨x, ex, e⟩ := bind_some2 e
  obtain ⟨y, ey, e⟩ := bind_some2 e
  refine two_v o r ex ey fun F' H' v u s o' w1 w2 => hv F' H' x y d v u Q o' w1 w2 e fun F2 H2 B w s2 o2 w3 => q F2 H2 B w (s.trans s2) o2 w3
theorem imp_2V (hv : VOp2V K ct r g) (h : tV K ct m (p2 g fa fb) σ H Q) : tOp r (tV K ct m fa) (tV K ct m fb) σ H Q := by
  obtain ⟨F, A, env, d, o, r, e, q⟩ := h
  obtain ⟨x, ex, e⟩ := bind_some2 e
  obtain ⟨y, ey, e⟩ := bind_some2 e
  refine two_v o r ex ey fun F' H' v u s o' w1 w2 => hv F' H' x y d v u Q o' w1 w2 e fun w w3 => q F' H' w s o' w3
theorem imp_2w (hv : VOp2W K ct r g k) (h : tP K ct m (p2 g fa fb) k σ H Q) : tOp r (tW K ct m fa) (tW K ct m fb) σ H Q := by
  obtain ⟨F, A, env, d, o, r, e, q⟩ := h
  obtain ⟨x, ex, e⟩ := bind_some2 e
  obtain ⟨y, ey, e⟩ := bind_some2 e
  refine two_w o r ex ey fun F' H' v u s o' w1 w2 => hv F' H' x y d v u Q o' w1 w2 e fun F2 H2 B w s2 o2 w3 => q F2 H2 B w (s.trans s2) o2 w3
theorem imp_i2w (hv : VOp2W K ct r g k) (h : tI K ct m (i2 g ga gb) k σ H Q) : tOp r (tI K ct m ga .fz) (tI K ct m gb .fz) σ H Q := by
  obtain ⟨F, A, env, d, env', o, r, e, q⟩ := h
  obtain ⟨⟨x, env1⟩, ex, e⟩ := bind_some2 e
  obtain ⟨⟨y, env2⟩, ey, e⟩ := bind_some2 e
  obtain ⟨d', ed, e⟩ := map_some2 e
  cases e
  refine two_i o r ex ey fun F' H' A' v u s o' r' w1 w2 => hv F' H' x y d v u Q o'.nil (.rel w1) (.rel w2) ed fun F2 H2 B w s2 o2 w3 => ?_
  obtain ⟨s3, o3, r3⟩ := Stp.then_pure s o' r' s2 o2
  exact q F2 H2 A' B w s3 o3 r3 w3
end
section
variable {X : Cx} {ct : CT} {m : List OT} {a b e : Expr} {fa fb : PF} {ga gb : IF} {k : OT} {pos : Pos} {g : D → D → Option D} {r : R2}
/-- through any rule that makes tOp -/
theorem ep_2 (mk : ∀ ta tb, PE X a ta → PE X b tb → PE X e (tOp r ta tb)) (hv : VOp2 X.K ct r g k) (ha : EV X ct m a fa) (hb : EV X ct m b fb) : EP X ct m e (p2 g fa fb) k :=
  pe_imp (mk _ _ ha hb) fun _ _ _ => imp_2 hv
theorem ev_2 (mk : ∀ ta tb, PE X a ta → PE X b tb → PE X e (tOp r ta tb)) (hv : VOp2V X.K ct r g) (ha : EV X ct m a fa) (hb : EV X ct m b fb) : EV X ct m e (p2 g fa fb) :=
  pe_imp (mk _ _ ha hb) fun _ _ _ => imp_2V hv
theorem ep_2w (mk : ∀ ta tb, PE X a ta → PE X b tb → PE X e (tOp r ta tb)) (hv : VOp2W X.K ct r g k) (ha : EW X ct m a fa) (hb : EW X ct m b fb) : EP X ct m e (p2 g fa fb) k :=
  pe_imp (mk _ _ ha hb) fun _ _ _ => imp_2w hv
theorem ei_2w (mk : ∀ ta tb, PE X a ta → PE X b tb → PE X e (tOp r ta tb)) (hv : VOp2W X.K ct r g k) (ha : EI X ct m a ga .fz) (hb : EI X ct m b gb .fz) : EI X ct m e (i2 g ga gb) k :=
  pe_imp (mk _ _ ha hb) fun _ _ _ => imp_i2w hv
theorem ei_2 (mk : ∀ ta tb, PE X a ta → PE X b tb → PE X e (tOp r ta tb)) (hv : VOp2 X.K ct r g k) (ha : EI X ct m a ga .fz) (hb : EI X ct m b gb .fz) : EI X ct m e (i2 g ga gb) k :=
  ei_2w mk hv.w ha hb
end

/-! ### arguments -/
def psN : PFs := fun _ => some []
def psC (f : PF) (fs : PFs) : PFs := fun env => (f env).bind fun d => (fs env).map fun ds => d :: ds
def isN : IFs := fun env => some ([], env)
def isC (f : IF) (fs : IFs) : IFs := fun env => (f env).bind fun p => (fs p.2).map fun q => (p.1 :: q.1, q.2)
section
variable {X : Cx} {ct : CT} {m : List OT} {e : Expr} {es : List Expr} {f : PF} {fs : PFs} {g : IF} {gs : IFs}
theorem av_nil : AV X ct m [] psN := pa_imp pa_nil fun σ H Q ⟨F, A, env, ds, o, r, e, q⟩ => by
  cases e
  exact q F H [] Stp.refl o.nil .nil
theorem av_cons (h : EV X ct m e f) (hs : AV X ct m es fs) (he : starEach (e :: es) X.env = (false, eval e X.env) :: starEach es X.env := by rfl) : AV X ct m (e :: es) (psC f fs) :=
  pa_imp (pa_cons h hs he) fun σ H Q ⟨F, A, env, ds, o, r, e, q⟩ => by
    obtain ⟨d, e1, e⟩ := bind_some2 e
    obtain ⟨ds', e2, e⟩ := map_some2 e
    subst e
    refine ⟨F, A, env, d, o, r, e1, fun F1 H1 v s1 o1 w1 => ?_⟩
    obtain ⟨r2, _, o2, _, _⟩ := r.pure o s1 o1
    refine ⟨F1, A, env, ds', o2, r2, e2, fun F2 H2 vs s2 o3 w2 => ?_⟩
    exact q F2 H2 _ (s1.trans s2) o3 (.cons (w1.mono s2.fs s2.same) w2)
theorem aw_nil : AW X ct m [] psN := pa_imp pa_nil fun σ H Q ⟨F, A, env, ds, o, r, e, q⟩ => by
  cases e
  exact q F H [] Stp.refl o.nil .nil
theorem aw_cons (h : EW X ct m e f) (hs : AW X ct m es fs) (he : starEach (e :: es) X.env = (false, eval e X.env) :: starEach es X.env := by rfl) : AW X ct m (e :: es) (psC f fs) :=
  pa_imp (pa_cons h hs he) fun σ H Q ⟨F, A, env, ds, o, r, e, q⟩ => by
    obtain ⟨d, e1, e⟩ := bind_some2 e
    obtain ⟨ds', e2, e⟩ := map_some2 e
    subst e
    refine ⟨F, A, env, d, o, r, e1, fun F1 H1 v s1 o1 w1 => ?_⟩
    obtain ⟨r2, _, o2, _, _⟩ := r.pure o s1 o1
    refine ⟨F1, A, env, ds', o2, r2, e2, fun F2 H2 vs s2 o3 w2 => ?_⟩
    exact q F2 H2 _ (s1.trans s2) o3 (.cons (w1.mono s2.fs s2.same) w2)
theorem af_nil : AF X ct m [] psN := pa_imp pa_nil fun σ H Q ⟨F, A, env, ds, o, r, e, q⟩ => by
  cases e
  exact q F H [] Stp.refl o.nil .nil
theorem af_cons (h : EP X ct m e f .fz) (hs : AF X ct m es fs) (he : starEach (e :: es) X.env = (false, eval e X.env) :: starEach es X.env := by rfl) : AF X ct m (e :: es) (psC f fs) :=
  pa_imp (pa_cons h hs he) fun σ H Q ⟨F, A, env, ds, o, r, e, q⟩ => by
    obtain ⟨d, e1, e⟩ := bind_some2 e
    obtain ⟨ds', e2, e⟩ := map_some2 e
    subst e
    refine ⟨F, A, env, d, o, r, e1, fun F1 H1 B v s1 o1 w1 => ?_⟩
    cases w1 with
    | fz w1 =>
      obtain ⟨r2, _, o2, _, _⟩ := r.pure o s1 o1
      refine ⟨F1, A, env, ds', o2, r2, e2, fun F2 H2 vs s2 o3 w2 => ?_⟩
      exact q F2 H2 _ (s1.trans s2) o3 (.cons (w1.mono s2.fs) w2)
theorem ai_nil : AI X ct m [] isN := pa_imp pa_nil fun σ H Q ⟨F, A, env, ds, env', o, r, e, q⟩ => by
  cases e
  exact q F H A [] Stp.refl o r .nil
theorem ai_cons (h : EI X ct m e g .fz) (hs : AI X ct m es gs) (he : starEach (e :: es) X.env = (false, eval e X.env) :: starEach es X.env := by rfl) : AI X ct m (e :: es) (isC g gs) :=
  pa_imp (pa_cons h hs he) fun σ H Q ⟨F, A, env, ds, env', o, r, e, q⟩ => by
    obtain ⟨⟨d, env1⟩, e1, e⟩ := bind_some2 e
    obtain ⟨⟨ds', env2⟩, e2, e⟩ := map_some2 e
    cases e
    refine ⟨F, A, env, d, env1, o, r, e1, fun F1 H1 A1 B1 v s1 o1 r1 w1 => ?_⟩
    cases w1 with
    | fz w1 =>
      rw [List.append_nil] at s1 o1
      exact ⟨F1, A1, env1, ds', env2, o1, r1, e2, fun F2 H2 A2 vs s2 o2 r2 w2 => q F2 H2 A2 (v :: vs) (s1.trans s2) o2 r2 (.cons (w1.mono s2.fs) w2)⟩
theorem views_of {K : PySem.W.Frag} {F H : Hp} : ∀ {ds : List D} {vs : List V}, RelAll K ct F ds vs → Paired (View K ct F H) ds vs
  | _, _, .nil => .nil
  | _, _, .cons h r => .cons (.rel h) (views_of r)
theorem wvs_of {K : PySem.W.Frag} {F H : Hp} : ∀ {ds : List D} {vs : List V}, RelAll K ct F ds vs → Paired (Wv K ct F H) ds vs
  | _, _, .nil => .nil
  | _, _, .cons h r => .cons (.rel h) (wvs_of r)
end
def pN (g : List D → Option D) (fs : PFs) : PF := fun env => (fs env).bind g
def iN (g : List D → Option D) (fs : IFs) : IF := fun env => (fs env).bind fun p => (g p.1).map fun d => (d, p.2)
section
variable {X : Cx} {ct : CT} {m : List OT} {e : Expr} {es : List Expr} {fs : PFs} {gs : IFs} {g : List D → Option D} {k : OT} {r : List V → Hp → VK → Prop}
theorem ep_n (mk : ∀ t, PA X es t → PE X e (tCB r t)) (hv : VOpN X.K ct r g k) (ha : AV X ct m es fs) : EP X ct m e (pN g fs) k :=
  pe_imp (mk _ ha) fun σ H Q ⟨F, A, env, d, o, rr, e, q⟩ => by
    obtain ⟨ds, e1, e⟩ := bind_some2 e
    refine ⟨F, A, env, ds, o, rr, e1, fun F1 H1 vs s1 o1 w => ?_⟩
    exact hv F1 H1 ds d vs Q o1 w e fun F2 H2 B w' s2 o2 w2 => q F2 H2 B w' (s1.trans s2) o2 w2
theorem ep_nw (mk : ∀ t, PA X es t → PE X e (tCB r t)) (hv : VOpNW X.K ct r g k) (ha : AW X ct m es fs) : EP X ct m e (pN g fs) k :=
  pe_imp (mk _ ha) fun σ H Q ⟨F, A, env, d, o, rr, e, q⟩ => by
    obtain ⟨ds, e1, e⟩ := bind_some2 e
    refine ⟨F, A, env, ds, o, rr, e1, fun F1 H1 vs s1 o1 w => ?_⟩
    exact hv F1 H1 ds d vs Q o1 w e fun F2 H2 B w' s2 o2 w2 => q F2 H2 B w' (s1.trans s2) o2 w2
theorem ei_nw (mk : ∀ t, PA X es t → PE X e (tCB r t)) (hv : VOpNW X.K ct r g k) (ha : AI X ct m es gs) : EI X ct m e (iN g gs) k :=
  pe_imp (mk _ ha) fun σ H Q ⟨F, A, env, d, env', o, rr, e, q⟩ => by
    obtain ⟨⟨ds, env1⟩, e1, e⟩ := bind_some2 e
    obtain ⟨d', e2, e⟩ := map_some2 e
    cases e
    refine ⟨F, A, env, ds, env1, o, rr, e1, fun F1 H1 A1 vs s1 o1 r1 w => ?_⟩
    refine hv F1 H1 ds d vs Q o1.nil (wvs_of w) e2 fun F2 H2 B w' s2 o2 w2 => ?_
    obtain ⟨s3, o3, r3⟩ := Stp.then_pure s1 o1 r1 s2 o2
    exact q F2 H2 A1 B w' s3 o3 r3 w2
theorem ei_n (mk : ∀ t, PA X es t → PE X e (tCB r t)) (hv : VOpN X.K ct r g k) (ha : AI X ct m es gs) : EI X ct m e (iN g gs) k :=
  pe_imp (mk _ ha) fun σ H Q ⟨F, A, env, d, env', o, rr, e, q⟩ => by
    obtain ⟨⟨ds, env1⟩, e1, e⟩ := bind_some2 e
    obtain ⟨d', e2, e⟩ := map_some2 e
    cases e
    refine ⟨F, A, env, ds, env1, o, rr, e1, fun F1 H1 A1 vs s1 o1 r1 w => ?_⟩
    refine hv F1 H1 ds d vs Q o1.nil (views_of w) e2 fun F2 H2 B w' s2 o2 w2 => ?_
    obtain ⟨s3, o3, r3⟩ := Stp.then_pure s1 o1 r1 s2 o2
    exact q F2 H2 A1 B w' s3 o3 r3 w2
end
end T3

/-! T3, part c: operations on data. -/
namespace T3
open PySem L2

/-! ### data as plain data -/
mutual
def toP : D → PyData
  | .non => .none
  | .bl b => .bool b
  | .int i => .int i
  | .str x => .str x
  | .lst xs => .list (toPs xs)
  | .tup xs => .tuple (toPs xs)
  | .scr ns => .list (ns.map .int)
  | .obj _ _ => .dict []
  | .dK _ _ => .dict []
  | .dT _ _ => .dict []
def toPs : List D → List PyData
  | [] => []
  | d :: ds => toP d :: toPs ds
end
theorem toPs_map : ∀ ds : List D, toPs ds = ds.map toP
  | [] => rfl
  | d :: ds => by rw [toPs, List.map_cons, toPs_map ds]
/-- comparable by == -/
def shp (d : D) : Bool := SeqAt.shaped (toP d)
def dE (d e : D) : Bool := PyData.eqv (toP d) (toP e)
theorem dpAll_ints {K : PySem.W.Frag} {H : Hp} : ∀ ns : List Int, DpAll K H (ns.map V.int) (ns.map .int)
  | [] => .nil
  | n :: ns => .cons (.int n) (dpAll_ints ns)
section
variable {K : PySem.W.Frag} {ct : CT} {H : Hp}
mutual
theorem Rel.dp : ∀ {d : D} {v : V}, Rel K ct H d v → (toP d).canLay0 = true → Dp K H v (toP d)
  | _, _, .non, _ => .non
  | _, _, .bl b, _ => .bl b
  | _, _, .int i, _ => .int i
  | _, _, .str x, _ => .str x
  | _, _, .lst h r, q => by
    rw [toP] at q ⊢
    exact .lst (.of h) (RelAll.dp r (by simpa [PyData.canLay0] using q))
  | _, _, .tup h r, q => by
    rw [toP] at q ⊢
    exact .tup h (RelAll.dp r (by simpa [PyData.canLay0] using q))
  | _, _, .scr h, q => by
    rw [toP]
    exact .lst h (dpAll_ints _)
  | _, _, .obj _ _ _ _, q => by simp [toP, PyData.canLay0] at q
  | _, _, .dK _ _ _, q => by simp [toP, PyData.canLay0] at q
  | _, _, .dT _ _ _, q => by simp [toP, PyData.canLay0] at q
theorem RelAll.dp : ∀ {ds : List D} {vs : List V}, RelAll K ct H ds vs → PyData.canLayAll0 (toPs ds) = true → DpAll K H vs (toPs ds)
  | _, _, .nil, _ => .nil
  | _, _, .cons h r, q => by
    rw [toPs, PyData.canLayAll0, Bool.and_eq_true] at q
    rw [toPs]
    exact .cons (Rel.dp h q.1) (RelAll.dp r q.2)
end
theorem View.dp {F : Hp} {d : D} {v : V} (s : Sub F H) (w : View K ct F H d v) (q : shp d = true) : Dp K H v (toP d) := (w.now s).dp (SeqAt.canLay_of_shaped q)
end

/-! ### what the operations are -/
def nI2 (f : Int → Int → Int) : D → D → Option D
  | .int i, .int j => some (.int (f i j))
  | _, _ => none
def nIc (C : Int → Int → Bool) (f : Int → Int → Int) : D → D → Option D
  | .int i, .int j => if C i j = true then some (.int (f i j)) else none
  | _, _ => none
def nCmp (f : Int → Int → Bool) : D → D → Option D
  | .int i, .int j => some (.bl (f i j))
  | _, _ => none
def cMul (i j : Int) : Bool := (decide (-(2 ^ 64) < i) && decide (i < 2 ^ 64)) || (decide (-(2 ^ 64) < j) && decide (j < 2 ^ 64))
def cPos (_ j : Int) : Bool := decide (0 < j)
def cDiv (_ j : Int) : Bool := decide (0 < j) && decide (j < 1073741824)
def cPow (i j : Int) : Bool := decide (0 ≤ j) && decide (j ≤ 1000000) && decide (i.natAbs < 2 ^ 64)
def cNn (_ j : Int) : Bool := decide (0 ≤ j)
def nEq (x y : D) : Option D := if (shp x && shp y) = true then some (.bl (dE x y)) else none
def nNe (x y : D) : Option D := if (shp x && shp y) = true then some (.bl (!dE x y)) else none
def flatD : D → Bool
  | .non => true
  | .bl _ => true
  | .int _ => true
  | .str _ => true
  | _ => false
def nIn (x : D) : D → Option D
  | .lst ys => if (shp x && shp (.lst ys)) = true then some (.bl (ys.any fun y => dE y x)) else none
  | .tup ys => if (flatD x && ys.all flatD) = true then some (.bl (ys.any fun y => dE y x)) else none
  | _ => none
def nNotIn (x : D) : D → Option D
  | .lst ys => if (shp x && shp (.lst ys)) = true then some (.bl (!ys.any fun y => dE y x)) else none
  | .tup ys => if (flatD x && ys.all flatD) = true then some (.bl (!ys.any fun y => dE y x)) else none
  | _ => none
def nIsB (x y : D) : Option D := match x, y with
  | .bl a, .bl b => some (.bl (decide (a = b)))
  | _, _ => none
def isNonD : D → Bool
  | .non => true
  | _ => false
def nIsN (x y : D) : Option D := match y with
  | .non => some (.bl (isNonD x))
  | _ => none
def nNotN (x y : D) : Option D := match y with
  | .non => some (.bl (!isNonD x))
  | _ => none
def nLen1 : D → Option D
  | .lst xs => some (.int xs.length)
  | .tup xs => some (.int xs.length)
  | .scr xs => some (.int xs.length)
  | _ => none
def nIx (x y : D) : Option D := match x, y with
  | .lst xs, .int i => atI xs i
  | .tup xs, .int i => atI xs i
  | .scr ns, .int i => (atI ns i).map .int
  | _, _ => none
def nCatL (x y : D) : Option D := match x, y with
  | .lst xs, .lst ys => if xs.length + ys.length ≤ sizeLine then some (.lst (xs ++ ys)) else none
  | _, _ => none
def nCatT (x y : D) : Option D := match x, y with
  | .tup xs, .tup ys => if xs.length + ys.length ≤ sizeLine then some (.tup (xs ++ ys)) else none
  | _, _ => none
/-- +: of ints, lists, tuples -/
def nAdd (x y : D) : Option D := match x, y with
  | .int i, .int j => some (.int (i + j))
  | .lst xs, .lst ys => nCatL (.lst xs) (.lst ys)
  | .tup xs, .tup ys => nCatT (.tup xs) (.tup ys)
  | _, _ => none
def nRepL (x y : D) : Option D := match x, y with
  | .lst xs, .int k => if -(2 ^ 63) ≤ k ∧ k < 2 ^ 63 ∧ xs.length * k.toNat ≤ sizeLine then some (.lst (List.replicate k.toNat xs).flatten) else none
  | _, _ => none
theorem atI_ix {α : Type} {xs : List α} {i : Int} {v : α} (h : atI xs i = some v) : ∃ j, ixN xs.length i = some j ∧ xs[j]? = some v := by
  unfold atI at h
  exact bind_some2 h
theorem atI_rel {K : PySem.W.Frag} {ct : CT} {F : Hp} {xs : List D} {vs : List V} {i : Int} {d : D} (r : RelAll K ct F xs vs) (h : atI xs i = some d) : ∃ v, atI vs i = some v ∧ Rel K ct F d v := by
  obtain ⟨j, h1, h2⟩ := atI_ix h
  obtain ⟨v, h3, h4⟩ := r.get j d h2
  refine ⟨v, ?_, h4⟩
  unfold atI
  rw [← r.len, h1]
  exact h3

/-! ### they are so -/
section
variable {K : PySem.W.Frag} {ct : CT} {F H : Hp}
theorem view_int {i : Int} {v : V} (w : View K ct F H (.int i) v) : v = .int i := by
  obtain ⟨k, B, o⟩ := w
  cases o with
  | fz r => cases r; rfl
theorem view_bl {i : Bool} {v : V} (w : View K ct F H (.bl i) v) : v = .bl i := by
  obtain ⟨k, B, o⟩ := w
  cases o with
  | fz r => cases r; rfl
theorem view_non {v : V} (w : View K ct F H .non v) : v = .non := by
  obtain ⟨k, B, o⟩ := w
  cases o with
  | fz r => cases r; rfl
theorem view_lst {xs : List D} {v : V} (s : Sub F H) (w : View K ct F H (.lst xs) v) : ∃ a vs, v = .ref a ∧ H a = some (.lst vs) ∧ RelAll K ct H xs vs := by
  cases w.now s with
  | lst h r => exact ⟨_, _, rfl, h, r⟩
theorem view_tup {xs : List D} {v : V} (s : Sub F H) (w : View K ct F H (.tup xs) v) : ∃ a vs, v = .ref a ∧ SqT K H a vs ∧ RelAll K ct F xs vs := by
  obtain ⟨k, B, o⟩ := w
  cases o with
  | fz r =>
    cases r with
    | tup h r => exact ⟨_, _, rfl, sqT_mono s h, r⟩
theorem view_scr {ns : List Int} {v : V} (s : Sub F H) (w : View K ct F H (.scr ns) v) : ∃ a, v = .ref a ∧ SqL K H a (ns.map V.int) := by
  obtain ⟨k, B, o⟩ := w
  cases o with
  | fz r =>
    cases r with
    | scr h => exact ⟨_, rfl, sqL_mono s h⟩
/-- the items of a list that is looked at, frozen or owned -/
theorem view_items {xs : List D} {v : V} (s : Sub F H) (w : View K ct F H (.lst xs) v) : ∃ a vs, v = .ref a ∧ H a = some (.lst vs) ∧ xs.length = vs.length ∧ ∀ (i : Nat) (d : D), xs[i]? = some d → ∃ u, vs[i]? = some u ∧ View K ct F H d u := by
  obtain ⟨k, B, o⟩ := w
  have all : ∀ {k : OT} {xs : List D} {vs : List V} {B : List Addr}, OwnAll K ct F H k xs vs B → ∀ (i : Nat) (d : D), xs[i]? = some d → ∃ u, vs[i]? = some u ∧ View K ct F H d u := by
    intro k xs
    induction xs with
    | nil => intro vs B r i d h; simp at h
    | cons x xs ih =>
      intro vs B r i d h
      cases r with
      | cons h1 r1 =>
        cases i with
        | zero => simp at h; subst h; exact ⟨_, rfl, .of h1⟩
        | succ i => simpa using ih r1 i d (by simpa using h)
  cases o with
  | fz r =>
    cases r with
    | lst h r => exact ⟨_, _, rfl, s _ _ h, r.len, fun i d e => by
        obtain ⟨u, h1, h2⟩ := r.get i d e
        exact ⟨u, h1, .rel h2⟩⟩
  | lst h r => exact ⟨_, _, rfl, h, r.len, all r⟩
/-- a frozen result, nothing new -/
theorem fin_fz {d : D} {w : V} {Q : VK} (o : Ok [] F H) (q : ∀ F' H' B w, Stp [] F H B F' H' → Ok B F' H' → Own K ct F' H' .fz d w B → Q w H') (r : Rel K ct F d w) : Q w H := q F H [] w Stp.refl o (.fz r)
/-- a new object at p, owned -/
theorem new_own {p : Addr} {u : HO} (o : Ok [] F H) (hp : H p = none) : Stp [] F H [p] F (upd H p u) ∧ Ok [p] F (upd H p u) ∧ Sub H (upd H p u) := by
  have s : Sub H (upd H p u) := fun a x h => by rw [upd_ne (fun e => by rw [e, hp] at h; cases h)]; exact h
  have fp : F p = none := by
    cases e : F p with
    | none => rfl
    | some z => rw [o.sub p z e] at hp; cases hp
  refine ⟨⟨fun _ _ h => h, fun a x h _ => s a x h, fun _ _ h => .inl h, fun a h => .inr (by rw [List.mem_singleton.mp h]; exact hp)⟩, ⟨fun a x h => s a x (o.sub a x h), by simp, fun a h => by rw [List.mem_singleton.mp h]; exact fp⟩, s⟩
/-- a new object at p, frozen at once -/
theorem new_fz {p : Addr} {u : HO} (o : Ok [] F H) (hp : H p = none) : Stp [] F H [] (upd F p u) (upd H p u) ∧ Ok [] (upd F p u) (upd H p u) ∧ Sub F (upd F p u) ∧ upd F p u p = some u := by
  have fp : F p = none := by
    cases e : F p with
    | none => rfl
    | some z => rw [o.sub p z e] at hp; cases hp
  have sF : Sub F (upd F p u) := fun a x h => by rw [upd_ne (fun e => by rw [e, fp] at h; cases h)]; exact h
  have s : Sub H (upd H p u) := fun a x h => by rw [upd_ne (fun e => by rw [e, hp] at h; cases h)]; exact h
  refine ⟨⟨sF, fun a x h _ => s a x h, fun b x h => ?_, fun _ h => nomatch h⟩, ⟨fun a x h => ?_, List.nodup_nil, fun _ h => nomatch h⟩, sF, upd_same⟩
  · by_cases e : b = p
    · subst e; exact .inr (.inl hp)
    · rw [upd_ne e] at h; exact .inl h
  · by_cases e : a = p
    · subst e; rw [upd_same] at h ⊢; exact h
    · rw [upd_ne e] at h ⊢; exact o.sub a x h
/-- frozen items of a heap that is looked at are frozen in F as far as they are flat or were so -/
theorem v_int {g : Int → Int → V} {f : D → D → Option D} {C : Int → Int → Prop} (h1 : ∀ x y d, f x y = some d → ∃ i j, x = .int i ∧ y = .int j ∧ C i j ∧ (∀ F, Rel K ct F d (g i j))) : VOp2 K ct (rI C g) f .fz := by
  intro F H x y d v u Q o w1 w2 e q
  obtain ⟨i, j, rfl, rfl, hc, r⟩ := h1 x y d e
  cases view_int w1
  cases view_int w2
  exact ⟨i, j, rfl, rfl, hc, fin_fz o q (r F)⟩
theorem v_int0 {g : Int → Int → V} {f : D → D → Option D} (h1 : ∀ x y d, f x y = some d → ∃ i j, x = .int i ∧ y = .int j ∧ (∀ F, Rel K ct F d (g i j))) : VOp2 K ct (rI0 g) f .fz := by
  intro F H x y d v u Q o w1 w2 e q
  obtain ⟨i, j, rfl, rfl, r⟩ := h1 x y d e
  cases view_int w1
  cases view_int w2
  exact ⟨i, j, rfl, rfl, fin_fz o q (r F)⟩
theorem nI2_ints {f : Int → Int → Int} {x y d : D} (e : nI2 f x y = some d) : ∃ i j, x = .int i ∧ y = .int j ∧ d = .int (f i j) := by
  cases x <;> cases y <;> first | (simp [nI2] at e; done) | (simp only [nI2, Option.some.injEq] at e; exact ⟨_, _, rfl, rfl, e.symm⟩)
theorem nIc_ints {C : Int → Int → Bool} {f : Int → Int → Int} {x y d : D} (e : nIc C f x y = some d) : ∃ i j, x = .int i ∧ y = .int j ∧ C i j = true ∧ d = .int (f i j) := by
  cases x <;> cases y <;> first
    | (simp [nIc] at e; done)
    | (simp only [nIc] at e
       split at e
       · rename_i h
         cases e
         exact ⟨_, _, rfl, rfl, h, rfl⟩
       · cases e)
theorem nCmp_ints {f : Int → Int → Bool} {x y d : D} (e : nCmp f x y = some d) : ∃ i j, x = .int i ∧ y = .int j ∧ d = .bl (f i j) := by
  cases x <;> cases y <;> first | (simp [nCmp] at e; done) | (simp only [nCmp, Option.some.injEq] at e; exact ⟨_, _, rfl, rfl, e.symm⟩)
theorem vo_i2 {f : Int → Int → Int} : VOp2 K ct (rI0 fun i j => .int (f i j)) (nI2 f) .fz := v_int0 fun x y d e => by
  obtain ⟨i, j, h1, h2, rfl⟩ := nI2_ints e
  exact ⟨i, j, h1, h2, fun _ => .int _⟩
theorem vo_ic {C : Int → Int → Bool} {C' : Int → Int → Prop} {f : Int → Int → Int} (hc : ∀ i j, C i j = true → C' i j) : VOp2 K ct (rI C' fun i j => .int (f i j)) (nIc C f) .fz := v_int fun x y d e => by
  obtain ⟨i, j, h1, h2, h3, rfl⟩ := nIc_ints e
  exact ⟨i, j, h1, h2, hc i j h3, fun _ => .int _⟩
theorem vo_cmp {f : Int → Int → Bool} : VOp2 K ct (rI0 fun i j => .bl (f i j)) (nCmp f) .fz := v_int0 fun x y d e => by
  obtain ⟨i, j, h1, h2, rfl⟩ := nCmp_ints e
  exact ⟨i, j, h1, h2, fun _ => .bl _⟩
theorem cMul_ok (i j : Int) (h : cMul i j = true) : CMul i j := by
  unfold cMul at h
  rw [Bool.or_eq_true, Bool.and_eq_true, Bool.and_eq_true] at h
  rcases h with ⟨a, b⟩ | ⟨a, b⟩
  · exact .inl ⟨of_decide_eq_true a, of_decide_eq_true b⟩
  · exact .inr ⟨of_decide_eq_true a, of_decide_eq_true b⟩
theorem cPos_ok (i j : Int) (h : cPos i j = true) : 0 < j := of_decide_eq_true h
theorem cNn_ok (i j : Int) (h : cNn i j = true) : 0 ≤ j := of_decide_eq_true h
theorem cDiv_ok (i j : Int) (h : cDiv i j = true) : CDiv i j := by
  unfold cDiv at h
  rw [Bool.and_eq_true] at h
  exact ⟨of_decide_eq_true h.1, of_decide_eq_true h.2⟩
theorem cPow_ok (i j : Int) (h : cPow i j = true) : CPow i j := by
  unfold cPow at h
  rw [Bool.and_eq_true, Bool.and_eq_true] at h
  exact ⟨of_decide_eq_true h.1.1, of_decide_eq_true h.1.2, of_decide_eq_true h.2⟩
theorem vo_eq : VOp2 K ct (rEqD K) nEq .fz := by
  intro F H x y d v u Q o w1 w2 e q
  unfold nEq at e
  split at e
  · rename_i h
    rw [Bool.and_eq_true] at h
    cases e
    exact ⟨toP x, toP y, w1.dp o.sub h.1, w2.dp o.sub h.2, h.1, h.2, fin_fz o q (.bl _)⟩
  · cases e
theorem vo_ne : VOp2 K ct (rNeD K) nNe .fz := by
  intro F H x y d v u Q o w1 w2 e q
  unfold nNe at e
  split at e
  · rename_i h
    rw [Bool.and_eq_true] at h
    cases e
    exact ⟨toP x, toP y, w1.dp o.sub h.1, w2.dp o.sub h.2, h.1, h.2, fin_fz o q (.bl _)⟩
  · cases e
theorem flat_v {d : D} {v : V} (r : Rel K ct F d v) (h : flatD d = true) : flatV v = true := by
  cases r <;> first | rfl | (simp [flatD] at h)
theorem flats_v : ∀ {ds : List D} {vs : List V}, RelAll K ct F ds vs → ds.all flatD = true → vs.all flatV = true
  | _, _, .nil, _ => rfl
  | _, _, .cons h r, q => by
    rw [List.all_cons, Bool.and_eq_true] at q ⊢
    exact ⟨flat_v h q.1, flats_v r q.2⟩
theorem flat_eq {d e : D} {v u : V} (r : Rel K ct F d v) (r' : Rel K ct F e u) (h : flatD d = true) (h' : flatD e = true) : eqV v u = dE d e := by
  cases r <;> cases r' <;> first | rfl | (simp [flatD] at h; done) | (simp [flatD] at h'; done)
theorem flats_any {e : D} {u : V} (r' : Rel K ct F e u) (h' : flatD e = true) : ∀ {ds : List D} {vs : List V}, RelAll K ct F ds vs → ds.all flatD = true → inV u vs = ds.any fun y => dE y e
  | _, _, .nil, _ => rfl
  | _, _, .cons h r, q => by
    rw [List.all_cons, Bool.and_eq_true] at q
    rw [List.any_cons, ← flats_any r' h' r q.2, ← flat_eq h r' q.1 h']
    rfl
theorem any_toPs (x : D) : ∀ ys : List D, ((toPs ys).any fun z => PyData.eqv z (toP x)) = ys.any fun y => dE y x
  | [] => rfl
  | y :: ys => by rw [toPs, List.any_cons, List.any_cons, any_toPs x ys]; rfl
theorem vo_in : VOp2 K ct (fun x y H Q => rInD K x y H Q ∨ rIn K false x y H Q) nIn .fz := by
  intro F H x y d v u Q o w1 w2 e q
  cases y <;> simp only [nIn] at e <;> first | (cases e; done) | skip
  · rename_i ys
    split at e
    · rename_i h
      rw [Bool.and_eq_true] at h
      cases e
      refine .inl ⟨toP x, toPs ys, w1.dp o.sub h.1, w2.dp o.sub h.2, h.1, h.2, ?_⟩
      rw [any_toPs]
      exact fin_fz o q (.bl _)
    · cases e
  · rename_i ys
    split at e
    · rename_i h
      rw [Bool.and_eq_true] at h
      cases e
      obtain ⟨a, vs, rfl, ht, rs⟩ := view_tup o.sub w2
      have r1 := w1.now o.sub
      have rs' := rs.mono o.sub
      refine .inr ⟨a, vs, rfl, .inr ht, flat_v r1 h.1, flats_v rs h.2, ?_⟩
      rw [if_neg Bool.false_ne_true, flats_any r1 h.1 rs' h.2]
      exact fin_fz o q (.bl _)
    · cases e
theorem vo_notIn : VOp2 K ct (fun x y H Q => rNotInD K x y H Q ∨ rIn K true x y H Q) nNotIn .fz := by
  intro F H x y d v u Q o w1 w2 e q
  cases y <;> simp only [nNotIn] at e <;> first | (cases e; done) | skip
  · rename_i ys
    split at e
    · rename_i h
      rw [Bool.and_eq_true] at h
      cases e
      refine .inl ⟨toP x, toPs ys, w1.dp o.sub h.1, w2.dp o.sub h.2, h.1, h.2, ?_⟩
      rw [any_toPs]
      exact fin_fz o q (.bl _)
    · cases e
  · rename_i ys
    split at e
    · rename_i h
      rw [Bool.and_eq_true] at h
      cases e
      obtain ⟨a, vs, rfl, ht, rs⟩ := view_tup o.sub w2
      have r1 := w1.now o.sub
      have rs' := rs.mono o.sub
      refine .inr ⟨a, vs, rfl, .inr ht, flat_v r1 h.1, flats_v rs h.2, ?_⟩
      rw [if_pos rfl, flats_any r1 h.1 rs' h.2]
      exact fin_fz o q (.bl _)
    · cases e
theorem vo_isB : VOp2 K ct (fun x y H Q => ∃ a b, x = .bl a ∧ y = .bl b ∧ Q (.bl (decide (a = b))) H) nIsB .fz := by
  intro F H x y d v u Q o w1 w2 e q
  cases x <;> cases y <;> simp only [nIsB] at e <;> first | (cases e; done) | skip
  cases e
  cases view_bl w1
  cases view_bl w2
  exact ⟨_, _, rfl, rfl, fin_fz o q (.bl _)⟩
theorem isNonD_v {d : D} {v : V} (r : Rel K ct F d v) : decide (v = .non) = isNonD d := by
  cases r <;> rfl
theorem vo_isN : VOp2 K ct (fun x y H Q => y = .non ∧ Q (.bl (decide (x = .non))) H) nIsN .fz := by
  intro F H x y d v u Q o w1 w2 e q
  cases y <;> simp only [nIsN] at e <;> first | (cases e; done) | skip
  cases e
  cases view_non w2
  rw [isNonD_v (w1.now o.sub)]
  exact ⟨rfl, fin_fz o q (.bl _)⟩
theorem vo_notN : VOp2 K ct (fun x y H Q => y = .non ∧ Q (.bl (!decide (x = .non))) H) nNotN .fz := by
  intro F H x y d v u Q o w1 w2 e q
  cases y <;> simp only [nNotN] at e <;> first | (cases e; done) | skip
  cases e
  cases view_non w2
  rw [isNonD_v (w1.now o.sub)]
  exact ⟨rfl, fin_fz o q (.bl _)⟩
/-- the items of a list whose items are frozen -/
theorem wv_lst {xs : List D} {v : V} (s : Sub F H) (w : Wv K ct F H (.lst xs) v) : ∃ a vs, v = .ref a ∧ H a = some (.lst vs) ∧ RelAll K ct F xs vs := by
  cases w with
  | rel r =>
    cases r with
    | lst h r => exact ⟨_, _, rfl, s _ _ h, r⟩
  | lst h r => exact ⟨_, _, rfl, h, r⟩
theorem wv_tup {xs : List D} {v : V} (s : Sub F H) (w : Wv K ct F H (.tup xs) v) : ∃ a vs, v = .ref a ∧ SqT K H a vs ∧ SqT K F a vs ∧ RelAll K ct F xs vs := by
  cases w with
  | rel r =>
    cases r with
    | tup h r => exact ⟨_, _, rfl, sqT_mono s h, h, r⟩
theorem wv_scr {xs : List Int} {v : V} (s : Sub F H) (w : Wv K ct F H (.scr xs) v) : ∃ a, v = .ref a ∧ SqL K H a (xs.map V.int) := by
  cases w with
  | rel r =>
    cases r with
    | scr h => exact ⟨_, rfl, sqL_mono s h⟩
/-- an item -/
theorem vo_ix : VOp2W K ct (fun x y H Q => rIxL K x y H Q ∨ rIxT K x y H Q) nIx .fz := by
  intro F H x y d v u Q o w1 w2 e q
  cases y <;> cases x <;> simp only [nIx] at e <;> first | (cases e; done) | skip
  · cases view_int w2.view
    obtain ⟨a, vs, rfl, h, r⟩ := wv_lst o.sub w1
    obtain ⟨v', h1, h2⟩ := atI_rel r e
    exact .inl ⟨_, _, _, v', rfl, rfl, .of h, h1, fin_fz o q h2⟩
  · cases view_int w2.view
    obtain ⟨a, vs, rfl, h, _, r⟩ := wv_tup o.sub w1
    obtain ⟨v', h1, h2⟩ := atI_rel r e
    exact .inr ⟨_, _, _, v', rfl, rfl, h, h1, fin_fz o q h2⟩
  · cases view_int w2.view
    obtain ⟨a, rfl, h⟩ := wv_scr o.sub w1
    obtain ⟨n, e1, rfl⟩ := map_some2 e
    refine .inl ⟨_, _, _, .int n, rfl, rfl, h, ?_, fin_fz o q (.int n)⟩
    obtain ⟨j, h1, h2⟩ := atI_ix e1
    unfold atI
    rw [List.length_map, h1]
    show (List.map V.int _)[j]? = _
    rw [List.getElem?_map, h2]
    rfl
/-- an item of an owned list, looked at -/
def nIxL (x y : D) : Option D := match x, y with
  | .lst xs, .int i => atI xs i
  | _, _ => none
theorem vo_ixV : VOp2V K ct (rIxL K) nIxL := by
  intro F H x y d v u Q o w1 w2 e q
  cases x <;> cases y <;> simp only [nIxL] at e <;> first | (cases e; done) | skip
  cases view_int w2
  obtain ⟨a, vs, rfl, h, hl, it⟩ := view_items o.sub w1
  obtain ⟨j, h1, h2⟩ := atI_ix e
  obtain ⟨u', h3, h4⟩ := it j d h2
  refine ⟨a, vs, _, u', rfl, rfl, .of h, ?_, q u' h4⟩
  unfold atI
  rw [← hl, h1]
  exact h3
/-! ### lists and tuples that are made -/
theorem SqT.get {a : Addr} {vs : List V} (h : SqT K H a vs) : SqT K H a vs := h
theorem F_lst {a : Addr} {vs : List V} (s : Sub F H) (h : F a = some (.lst vs)) : H a = some (.lst vs) := s _ _ h
theorem vo_catL : VOp2W K ct rCat nCatL (.lst .fz) := by
  intro F H x y d v u Q o w1 w2 e q
  cases x <;> cases y <;> simp only [nCatL] at e <;> first | (cases e; done) | skip
  split at e
  · rename_i hl
    cases e
    obtain ⟨a, vs, rfl, h, r⟩ := wv_lst o.sub w1
    obtain ⟨b, us, rfl, h', r'⟩ := wv_lst o.sub w2
    refine ⟨a, b, vs, us, rfl, rfl, h, h', by rw [← r.len, ← r'.len]; exact hl, fun p hp => ?_⟩
    obtain ⟨s2, o2, _⟩ := new_own (u := .lst (vs ++ us)) o hp
    exact q F _ [p] _ s2 o2 (.lst (B := []) upd_same (OwnAll.of_fz (r.app r')))
  · cases e
theorem vo_catT : VOp2W K ct (rCatA K) nCatT .fz := by
  intro F H x y d v u Q o w1 w2 e q
  cases x <;> cases y <;> simp only [nCatT] at e <;> first | (cases e; done) | skip
  split at e
  · rename_i hl
    cases e
    obtain ⟨a, vs, rfl, h, hf, r⟩ := wv_tup o.sub w1
    obtain ⟨b, us, rfl, h', hf', r'⟩ := wv_tup o.sub w2
    refine ⟨a, b, vs, us, rfl, rfl, h, h', by rw [← r.len, ← r'.len]; exact hl, fun e => ?_, fun e e' => ?_, fun _ _ p hp => ?_⟩
    · subst e
      cases r
      exact fin_fz o q (.tup hf' (by simpa using r'))
    · subst e'
      cases r'
      exact fin_fz o q (.tup hf (by simpa using r))
    · obtain ⟨s2, o2, sF, hF⟩ := new_fz (u := .tup (vs ++ us)) o hp
      exact q _ _ [] _ s2 o2 (.fz (.tup (.of hF) ((r.app r').mono sF)))
  · cases e
/-- an operation whose result is owned may freeze it at once -/
theorem VOp2W.fz {r : R2} {g : D → D → Option D} {k : OT} (h : VOp2W K ct r g k) : VOp2W K ct r g .fz := by
  intro F H x y d v u Q o w1 w2 e q
  refine h F H x y d v u Q o w1 w2 e fun F' H' B w s o' w' => ?_
  obtain ⟨o2, s2, k2, st⟩ := freeze (A := []) (B := B) o' w'.there
  exact q (addF F' H' B) H' [] w (s.trans st) o2 (.fz (w'.rel s2 k2))
theorem vo_add : VOp2W K ct (fun x y H Q => rI0 (fun i j => .int (i + j)) x y H Q ∨ rCat x y H Q ∨ rCatA K x y H Q) nAdd .fz := by
  intro F H x y d v u Q o w1 w2 e q
  cases x <;> cases y <;> simp only [nAdd] at e <;> first | (cases e; done) | skip
  · exact .inl (vo_i2.w F H _ _ d v u Q o w1 w2 (by simpa [nI2] using e) q)
  · exact .inr (.inl (vo_catL.fz F H _ _ d v u Q o w1 w2 e q))
  · exact .inr (.inr (vo_catT F H _ _ d v u Q o w1 w2 e q))
theorem vo_repL : VOp2W K ct rRep nRepL (.lst .fz) := by
  intro F H x y d v u Q o w1 w2 e q
  cases x <;> cases y <;> simp only [nRepL] at e <;> first | (cases e; done) | skip
  split at e
  · rename_i hl
    cases e
    cases view_int w2.view
    obtain ⟨a, vs, rfl, h, r⟩ := wv_lst o.sub w1
    refine ⟨a, _, vs, rfl, rfl, h, hl.1, hl.2.1, by rw [← r.len]; exact hl.2.2, fun p hp => ?_⟩
    obtain ⟨s2, o2, _⟩ := new_own (u := .lst (List.replicate _ vs).flatten) o hp
    exact q F _ [p] _ s2 o2 (.lst (B := []) upd_same (OwnAll.of_fz (r.rep _)))
  · cases e
/-! ### calls of built-in things -/
def nLen : List D → Option D
  | [x] => nLen1 x
  | _ => none
theorem paired1 {α β : Type} {R : α → β → Prop} {x : α} {us : List β} (r : Paired R [x] us) : ∃ u, us = [u] ∧ R x u := by
  cases r with
  | cons r1 r2 => cases r2; exact ⟨_, rfl, r1⟩
theorem paired2 {α β : Type} {R : α → β → Prop} {x y : α} {us : List β} (r : Paired R [x, y] us) : ∃ u w, us = [u, w] ∧ R x u ∧ R y w := by
  cases r with
  | cons r1 r2 =>
    cases r2 with
    | cons r3 r4 => cases r4; exact ⟨_, _, rfl, r1, r3⟩
theorem vo_len : VOpN K ct (fun xs H Q => ∃ p ys, xs = [.ref p] ∧ (SqL K H p ys ∨ SqT K H p ys) ∧ Q (.int ys.length) H) nLen .fz := by
  intro F H xs d vs Q o w e q
  match xs, e with
  | [x], e =>
    obtain ⟨v, rfl, w1⟩ := paired1 w
    cases x <;> simp only [nLen, nLen1] at e <;> first | (cases e; done) | skip
    · cases e
      obtain ⟨a, us, rfl, h, hl, _⟩ := view_items o.sub w1
      refine ⟨a, us, rfl, .inl (.of h), ?_⟩
      rw [← hl]
      exact fin_fz o q (.int _)
    · cases e
      obtain ⟨a, us, rfl, h, r⟩ := view_tup o.sub w1
      refine ⟨a, us, rfl, .inr h, ?_⟩
      rw [← r.len]
      exact fin_fz o q (.int _)
    · cases e
      obtain ⟨a, rfl, h⟩ := view_scr o.sub w1
      refine ⟨a, _, rfl, .inl h, ?_⟩
      rw [List.length_map]
      exact fin_fz o q (.int _)
def nList : List D → Option D
  | [.lst xs] => some (.lst xs)
  | [.tup xs] => some (.lst xs)
  | [.scr ns] => some (.lst (ns.map .int))
  | _ => none
def nTuple : List D → Option D
  | [.lst xs] => some (.tup xs)
  | [.tup xs] => some (.tup xs)
  | _ => none
theorem relAll_ints {F : Hp} : ∀ ns : List Int, RelAll K ct F (ns.map .int) (ns.map V.int)
  | [] => .nil
  | n :: ns => .cons (.int n) (relAll_ints ns)
theorem vo_list : VOpNW K ct (fun xs H Q => ∃ p ys, xs = [.ref p] ∧ (SqL K H p ys ∨ SqT K H p ys) ∧ ∀ l, H l = none → Q (.ref l) (upd H l (.lst ys))) nList (.lst .fz) := by
  intro F H xs d vs Q o w e q
  match xs, e with
  | [.lst xs], e =>
    cases e
    obtain ⟨v, rfl, w1⟩ := paired1 w
    obtain ⟨a, us, rfl, h, r⟩ := wv_lst o.sub w1
    refine ⟨a, us, rfl, .inl (.of h), fun p hp => ?_⟩
    obtain ⟨s2, o2, _⟩ := new_own (u := .lst us) o hp
    exact q F _ [p] _ s2 o2 (.lst (B := []) upd_same (OwnAll.of_fz r))
  | [.tup xs], e =>
    cases e
    obtain ⟨v, rfl, w1⟩ := paired1 w
    obtain ⟨a, us, rfl, h, _, r⟩ := wv_tup o.sub w1
    refine ⟨a, us, rfl, .inr h, fun p hp => ?_⟩
    obtain ⟨s2, o2, _⟩ := new_own (u := .lst us) o hp
    exact q F _ [p] _ s2 o2 (.lst (B := []) upd_same (OwnAll.of_fz r))
  | [.scr ns], e =>
    cases e
    obtain ⟨v, rfl, w1⟩ := paired1 w
    obtain ⟨a, rfl, h⟩ := wv_scr o.sub w1
    refine ⟨a, _, rfl, .inl h, fun p hp => ?_⟩
    obtain ⟨s2, o2, _⟩ := new_own (u := .lst (ns.map V.int)) o hp
    exact q F _ [p] _ s2 o2 (.lst (B := []) upd_same (OwnAll.of_fz (relAll_ints ns)))
theorem vo_tuple : VOpNW K ct (fun xs H Q => ∃ p ys, xs = [.ref p] ∧ ((SqL K H p ys ∧ ∀ l, H l = none → Q (.ref l) (upd H l (.tup ys))) ∨ (SqT K H p ys ∧ Q (.ref p) H))) nTuple .fz := by
  intro F H xs d vs Q o w e q
  match xs, e with
  | [.lst xs], e =>
    cases e
    obtain ⟨v, rfl, w1⟩ := paired1 w
    obtain ⟨a, us, rfl, h, r⟩ := wv_lst o.sub w1
    refine ⟨a, us, rfl, .inl ⟨.of h, fun p hp => ?_⟩⟩
    obtain ⟨s2, o2, sF, hF⟩ := new_fz (u := .tup us) o hp
    exact q _ _ [] _ s2 o2 (.fz (.tup (.of hF) (r.mono sF)))
  | [.tup xs], e =>
    cases e
    obtain ⟨v, rfl, w1⟩ := paired1 w
    obtain ⟨a, us, rfl, h, hf, r⟩ := wv_tup o.sub w1
    exact ⟨a, us, rfl, .inr ⟨h, fin_fz o q (.tup hf r)⟩⟩
/-! sorted, of ints -/
def insI (a : Int) : List Int → List Int
  | [] => [a]
  | b :: bs => if a ≤ b then a :: b :: bs else b :: insI a bs
def isI : List Int → List Int
  | [] => []
  | a :: as => insI a (isI as)
theorem insI_perm (a : Int) : ∀ bs, (insI a bs).Perm (a :: bs)
  | [] => .refl _
  | b :: bs => by
    unfold insI
    split
    · exact .refl _
    · exact (List.Perm.cons b (insI_perm a bs)).trans (.swap a b bs)
theorem isI_perm : ∀ as, (isI as).Perm as
  | [] => .refl _
  | a :: as => (insI_perm a (isI as)).trans (List.Perm.cons a (isI_perm as))
theorem insI_sorted (a : Int) : ∀ bs : List Int, bs.Pairwise (· ≤ ·) → (insI a bs).Pairwise (· ≤ ·)
  | [], _ => by simp [insI]
  | b :: bs, h => by
    unfold insI
    rw [List.pairwise_cons] at h
    split
    · rename_i hab
      refine List.pairwise_cons.mpr ⟨fun c hc => ?_, List.pairwise_cons.mpr h⟩
      rcases List.mem_cons.mp hc with rfl | hc
      · exact hab
      · exact Int.le_trans hab (h.1 c hc)
    · rename_i hab
      refine List.pairwise_cons.mpr ⟨fun c hc => ?_, insI_sorted a bs h.2⟩
      rcases List.mem_cons.mp ((insI_perm a bs).mem_iff.mp hc) with rfl | hc
      · omega
      · exact h.1 c hc
theorem isI_sorted : ∀ as : List Int, (isI as).Pairwise (· ≤ ·)
  | [] => .nil
  | a :: as => insI_sorted a _ (isI_sorted as)
theorem sorted_eq : ∀ {as bs : List Int}, as.Perm bs → as.Pairwise (· ≤ ·) → bs.Pairwise (· ≤ ·) → as = bs
  | [], bs, p, _, _ => (List.nil_perm.mp p).symm
  | a :: as, [], p, _, _ => by simp at p
  | a :: as, b :: bs, p, h, k => by
    rw [List.pairwise_cons] at h k
    have e : a = b := by
      have h1 : a ∈ b :: bs := p.mem_iff.mp List.mem_cons_self
      have h2 : b ∈ a :: as := p.mem_iff.mpr List.mem_cons_self
      rcases List.mem_cons.mp h1 with e | h1
      · exact e
      · rcases List.mem_cons.mp h2 with e | h2
        · exact e.symm
        · have := h.1 b h2
          have := k.1 a h1
          omega
    subst e
    rw [sorted_eq ((List.perm_cons a).mp p) h.2 k.2]
def dInts : List D → Option (List Int)
  | [] => some []
  | .int i :: ds => (dInts ds).map (i :: ·)
  | _ :: _ => none
theorem dInts_of : ∀ ns : List Int, dInts (ns.map .int) = some ns
  | [] => rfl
  | n :: ns => by rw [List.map_cons, dInts, dInts_of ns]; rfl
theorem dInts_eq : ∀ {ds : List D} {ns : List Int}, dInts ds = some ns → ds = ns.map .int
  | [], ns, h => by cases h; rfl
  | d :: ds, ns, h => by
    cases d <;> simp only [dInts] at h <;> first | (cases h; done) | skip
    obtain ⟨ms, h1, rfl⟩ := map_some2 h
    rw [dInts_eq h1]
    rfl
theorem relAll_ints_eq {F : Hp} : ∀ {ns : List Int} {vs : List V}, RelAll K ct F (ns.map .int) vs → vs = ns.map V.int
  | [], _, .nil => rfl
  | n :: ns, _, .cons h r => by
    cases h
    rw [relAll_ints_eq r]
    rfl
def nSorted : List D → Option D
  | [.lst xs] => (dInts xs).map fun ns => .lst ((isI ns).map .int)
  | _ => none
theorem vo_sorted : VOpNW K ct (rSortedI K) nSorted (.lst .fz) := by
  intro F H xs d vs Q o w e q
  match xs, e with
  | [.lst xs], e =>
    obtain ⟨v, rfl, w1⟩ := paired1 w
    obtain ⟨a, us, rfl, h, r⟩ := wv_lst o.sub w1
    obtain ⟨ns, e1, rfl⟩ := map_some2 e
    have ex := dInts_eq e1
    subst ex
    have ev := relAll_ints_eq r
    subst ev
    refine ⟨a, ns, rfl, .of h, fun ns' p hp hs hn => ?_⟩
    have en : ns' = isI ns := sorted_eq (hp.trans (isI_perm ns).symm) hs (isI_sorted ns)
    subst en
    obtain ⟨s2, o2, _⟩ := new_own (u := .lst ((isI ns).map V.int)) o hn
    exact q F _ [p] _ s2 o2 (.lst (B := []) upd_same (OwnAll.of_fz (relAll_ints _)))
def nAbs : List D → Option D
  | [.int i] => some (.int (if i < 0 then -i else i))
  | _ => none
def nInt : List D → Option D
  | [.int i] => some (.int i)
  | [.bl b] => some (.int (if b then 1 else 0))
  | _ => none
def nMax2 : List D → Option D
  | [.int i, .int j] => some (.int (if j > i then j else i))
  | _ => none
def nMin2 : List D → Option D
  | [.int i, .int j] => some (.int (if j < i then j else i))
  | _ => none
theorem vo_abs : VOpN K ct (fun xs H Q => ∃ i, xs = [.int i] ∧ Q (.int (if i < 0 then -i else i)) H) nAbs .fz := by
  intro F H xs d vs Q o w e q
  match xs, e with
  | [.int i], e =>
    cases e
    obtain ⟨v, rfl, w1⟩ := paired1 w
    cases view_int w1
    exact ⟨i, rfl, fin_fz o q (.int _)⟩
theorem vo_int : VOpN K ct (fun xs H Q => (∃ i, xs = [.int i] ∧ Q (.int i) H) ∨ ∃ k, xs = [.bl k] ∧ Q (.int (if k then 1 else 0)) H) nInt .fz := by
  intro F H xs d vs Q o w e q
  match xs, e with
  | [.int i], e =>
    cases e
    obtain ⟨v, rfl, w1⟩ := paired1 w
    cases view_int w1
    exact .inl ⟨i, rfl, fin_fz o q (.int _)⟩
  | [.bl i], e =>
    cases e
    obtain ⟨v, rfl, w1⟩ := paired1 w
    cases view_bl w1
    exact .inr ⟨i, rfl, fin_fz o q (.int _)⟩
theorem vo_max2 : VOpN K ct (fun xs H Q => ∃ i j, xs = [.int i, .int j] ∧ Q (.int (if j > i then j else i)) H) nMax2 .fz := by
  intro F H xs d vs Q o w e q
  match xs, e with
  | [.int i, .int j], e =>
    cases e
    obtain ⟨v, u, rfl, w1, w2⟩ := paired2 w
    cases view_int w1
    cases view_int w2
    exact ⟨i, j, rfl, fin_fz o q (.int _)⟩
theorem vo_min2 : VOpN K ct (fun xs H Q => ∃ i j, xs = [.int i, .int j] ∧ Q (.int (if j < i then j else i)) H) nMin2 .fz := by
  intro F H xs d vs Q o w e q
  match xs, e with
  | [.int i, .int j], e =>
    cases e
    obtain ⟨v, u, rfl, w1, w2⟩ := paired2 w
    cases view_int w1
    cases view_int w2
    exact ⟨i, j, rfl, fin_fz o q (.int _)⟩
def maxI : List Int → Option Int
  | [] => none
  | n :: ns => some (ns.foldl (fun a b => if b > a then b else a) n)
def minI : List Int → Option Int
  | [] => none
  | n :: ns => some (ns.foldl (fun a b => if b < a then b else a) n)
theorem foldmax : ∀ (ns : List Int) (n : Int), (ns.foldl (fun a b => if b > a then b else a) n ∈ n :: ns) ∧ ∀ m ∈ n :: ns, m ≤ ns.foldl (fun a b => if b > a then b else a) n
  | [], n => ⟨by simp, fun m h => by simp at h; simp [h]⟩
  | b :: ns, n => by
    obtain ⟨h1, h2⟩ := foldmax ns (if b > n then b else n)
    rw [List.foldl_cons]
    have hx := h2 _ List.mem_cons_self
    refine ⟨?_, fun m hm => ?_⟩
    · rcases List.mem_cons.mp h1 with e | e
      · rw [e]; split <;> simp
      · exact List.mem_cons_of_mem _ (List.mem_cons_of_mem _ e)
    · rcases List.mem_cons.mp hm with rfl | hm
      · refine Int.le_trans ?_ hx
        split <;> omega
      · rcases List.mem_cons.mp hm with rfl | hm
        · refine Int.le_trans ?_ hx
          split <;> omega
        · exact h2 m (List.mem_cons_of_mem _ hm)
theorem foldmin : ∀ (ns : List Int) (n : Int), (ns.foldl (fun a b => if b < a then b else a) n ∈ n :: ns) ∧ ∀ m ∈ n :: ns, ns.foldl (fun a b => if b < a then b else a) n ≤ m
  | [], n => ⟨by simp, fun m h => by simp at h; simp [h]⟩
  | b :: ns, n => by
    obtain ⟨h1, h2⟩ := foldmin ns (if b < n then b else n)
    rw [List.foldl_cons]
    have hx := h2 _ List.mem_cons_self
    refine ⟨?_, fun m hm => ?_⟩
    · rcases List.mem_cons.mp h1 with e | e
      · rw [e]; split <;> simp
      · exact List.mem_cons_of_mem _ (List.mem_cons_of_mem _ e)
    · rcases List.mem_cons.mp hm with rfl | hm
      · refine Int.le_trans hx ?_
        split <;> omega
      · rcases List.mem_cons.mp hm with rfl | hm
        · refine Int.le_trans hx ?_
          split <;> omega
        · exact h2 m (List.mem_cons_of_mem _ hm)
theorem maxI_is {ns : List Int} {m k : Int} (h : maxI ns = some k) (h1 : m ∈ ns) (h2 : ∀ y ∈ ns, y ≤ m) : m = k := by
  cases ns with
  | nil => simp at h1
  | cons n ns =>
    cases h
    have := foldmax ns n
    have a := this.2 m h1
    have b := h2 _ this.1
    omega
theorem minI_is {ns : List Int} {m k : Int} (h : minI ns = some k) (h1 : m ∈ ns) (h2 : ∀ y ∈ ns, m ≤ y) : m = k := by
  cases ns with
  | nil => simp at h1
  | cons n ns =>
    cases h
    have := foldmin ns n
    have a := this.2 m h1
    have b := h2 _ this.1
    omega
def nMax : List D → Option D
  | [.lst xs] => (dInts xs).bind fun ns => (maxI ns).map .int
  | _ => none
def nMin : List D → Option D
  | [.lst xs] => (dInts xs).bind fun ns => (minI ns).map .int
  | _ => none
def nSum : List D → Option D
  | [.lst xs] => (dInts xs).map fun ns => .int ns.sum
  | _ => none
theorem maxI_pos {ns : List Int} {k : Int} (h : maxI ns = some k) : 0 < ns.length := by
  cases ns with
  | nil => cases h
  | cons n ns => simp
theorem minI_pos {ns : List Int} {k : Int} (h : minI ns = some k) : 0 < ns.length := by
  cases ns with
  | nil => cases h
  | cons n ns => simp
theorem vo_max : VOpNW K ct (rMax K) nMax .fz := by
  intro F H xs d vs Q o w e q
  match xs, e with
  | [.lst xs], e =>
    obtain ⟨v, rfl, w1⟩ := paired1 w
    obtain ⟨a, us, rfl, h, r⟩ := wv_lst o.sub w1
    obtain ⟨ns, e1, e⟩ := bind_some2 e
    obtain ⟨k, e2, rfl⟩ := map_some2 e
    have ex := dInts_eq e1
    subst ex
    have ev := relAll_ints_eq r
    subst ev
    refine ⟨a, ns, rfl, .of h, maxI_pos e2, fun m h1 h2 => ?_⟩
    rw [maxI_is e2 h1 h2]
    exact fin_fz o q (.int _)
theorem vo_min : VOpNW K ct (rMin K) nMin .fz := by
  intro F H xs d vs Q o w e q
  match xs, e with
  | [.lst xs], e =>
    obtain ⟨v, rfl, w1⟩ := paired1 w
    obtain ⟨a, us, rfl, h, r⟩ := wv_lst o.sub w1
    obtain ⟨ns, e1, e⟩ := bind_some2 e
    obtain ⟨k, e2, rfl⟩ := map_some2 e
    have ex := dInts_eq e1
    subst ex
    have ev := relAll_ints_eq r
    subst ev
    refine ⟨a, ns, rfl, .of h, minI_pos e2, fun m h1 h2 => ?_⟩
    rw [minI_is e2 h1 h2]
    exact fin_fz o q (.int _)
theorem vo_sum : VOpNW K ct (rSum K) nSum .fz := by
  intro F H xs d vs Q o w e q
  match xs, e with
  | [.lst xs], e =>
    obtain ⟨v, rfl, w1⟩ := paired1 w
    obtain ⟨a, us, rfl, h, r⟩ := wv_lst o.sub w1
    obtain ⟨ns, e1, rfl⟩ := map_some2 e
    have ex := dInts_eq e1
    subst ex
    have ev := relAll_ints_eq r
    subst ev
    exact ⟨a, ns, rfl, .of h, fin_fz o q (.int _)⟩
/-! isinstance of a built-in type -/
inductive Ty4 where
  | int | bool | tuple | list | str
def Ty4.nm : Ty4 → String
  | .int => "int"
  | .bool => "bool"
  | .tuple => "tuple"
  | .list => "list"
  | .str => "str"
def nIsi (T : Ty4) : D → Option D
  | .non => some (.bl false)
  | .bl _ => some (.bl (match T with | .int => true | .bool => true | _ => false))
  | .int _ => some (.bl (match T with | .int => true | _ => false))
  | .str _ => some (.bl (match T with | .str => true | _ => false))
  | .lst _ => some (.bl (match T with | .list => true | _ => false))
  | .tup _ => some (.bl (match T with | .tuple => true | _ => false))
  | _ => none
theorem sqT_ty {a : Addr} {vs : List V} (h : SqT K H a vs) : TyX K H (.ref a) (.type "tuple") := by
  rcases h with (h | ⟨o, h⟩) | ⟨o, its, n, h, hc, _⟩
  · exact .base (.tup h)
  · exact .fTuple h
  · exact .kTuple h hc
theorem vo_isi {T : Ty4} {d e : D} {v : V} {Q : VK} (o : Ok [] F H) (w : View K ct F H d v) (he : nIsi T d = some e)
    (q : ∀ F' H' B w, Stp [] F H B F' H' → Ok B F' H' → Own K ct F' H' .fz e w B → Q w H') : rIsi K [v, .ty T.nm] H Q := by
  have r := w.now o.sub
  cases r with
  | non => cases he; exact ⟨_, _, _, _, false, rfl, .ty _, .base .non, kit_ty (by cases T <;> decide +kernel), fin_fz o q (.bl _)⟩
  | bl b => cases he; exact ⟨_, _, _, _, _, rfl, .ty _, .base (.bl _), kit_ty (by cases T <;> decide +kernel), fin_fz o q (.bl _)⟩
  | int b => cases he; exact ⟨_, _, _, _, _, rfl, .ty _, .base (.int _), kit_ty (by cases T <;> decide +kernel), fin_fz o q (.bl _)⟩
  | str b => cases he; exact ⟨_, _, _, _, _, rfl, .ty _, .base (.str _), kit_ty (by cases T <;> decide +kernel), fin_fz o q (.bl _)⟩
  | lst h r => cases he; exact ⟨_, _, _, _, _, rfl, .ty _, .base (.lst h), kit_ty (by cases T <;> decide +kernel), fin_fz o q (.bl _)⟩
  | tup h r => cases he; exact ⟨_, _, _, _, _, rfl, .ty _, sqT_ty h, kit_ty (by cases T <;> decide +kernel), fin_fz o q (.bl _)⟩
  | _ => simp [nIsi] at he
end
end T3

/-! T3, part d: tests, and, or, not, displays, slices, fields, isinstance. -/
namespace T3
open PySem L2

abbrev PB := Env → Option Bool
abbrev IB := Env → Option (Bool × Env)
section
variable (K : PySem.W.Frag) (ct : CT) (m : List OT)
def tTP (f : PB) : TT := fun σ H Q => ∃ F A env b, Ok A F H ∧ EnvR K ct F H m env σ A ∧ f env = some b ∧ ∀ F' H', Stp [] F H [] F' H' → Ok [] F' H' → Q b H'
def tTI (f : IB) : TT := fun σ H Q => ∃ F A env b env', Ok A F H ∧ EnvR K ct F H m env σ A ∧ f env = some (b, env') ∧ ∀ F' H' A', Stp A F H A' F' H' → Ok A' F' H' → EnvR K ct F' H' m env' σ A' → Q b H'
end
abbrev TP (X : Cx) (ct : CT) (m : List OT) (e : Expr) (f : PB) : Prop := PT X e (tTP X.K ct m f)
abbrev TI (X : Cx) (ct : CT) (m : List OT) (e : Expr) (f : IB) : Prop := PT X e (tTI X.K ct m f)
abbrev WP (X : Cx) (ct : CT) (m : List OT) (e : Expr) (f : PB) : Prop := PW X e (tTP X.K ct m f)
abbrev WI (X : Cx) (ct : CT) (m : List OT) (e : Expr) (f : IB) : Prop := PW X e (tTI X.K ct m f)
theorem pt_imp {X : Cx} {e : Expr} {t t' : TT} (h : PT X e t) (i : ∀ σ H Q, t' σ H Q → t σ H Q) : PT X e t' := ⟨fun pins s σ H Q I q => h.run pins s σ H Q I (i σ H Q q)⟩
theorem pw_imp {X : Cx} {e : Expr} {t t' : TT} (h : PW X e t) (i : ∀ σ H Q, t' σ H Q → t σ H Q) : PW X e t' := ⟨fun wh pins s σ H Q I q => h.run wh pins s σ H Q I (i σ H Q q)⟩
def asB : D → Option Bool
  | .bl b => some b
  | _ => none
theorem asB_eq {d : D} {b : Bool} (h : asB d = some b) : d = .bl b := by
  cases d <;> simp only [asB] at h <;> first | (cases h; done) | (cases h; rfl)
def bP (f : PF) : PB := fun env => (f env).bind asB
def bI (g : IF) : IB := fun env => (g env).bind fun p => (asB p.1).map fun b => (b, p.2)
def liftB (f : PB) : IB := fun env => (f env).map fun b => (b, env)
section
variable {K : PySem.W.Frag} {ct : CT} {m : List OT} {f : PF} {g : IF} {σ : St} {H : Hp} {Q : Bool → Hp → Prop}
theorem tst_p (h : tTP K ct m (bP f) σ H Q) : tP K ct m f .fz σ H fun x H' => ∃ c, x = .bl c ∧ Q c H' := by
  obtain ⟨F, A, env, b, o, r, e, q⟩ := h
  obtain ⟨d, e1, e2⟩ := bind_some2 e
  cases asB_eq e2
  refine ⟨F, A, env, _, o, r, e1, fun F' H' B v s o' w => ?_⟩
  cases w with
  | fz w => cases w; exact ⟨_, rfl, q F' H' s o'⟩
theorem tst_v (h : tTP K ct m (bP f) σ H Q) : tV K ct m f σ H fun x H' => ∃ c, x = .bl c ∧ Q c H' := by
  obtain ⟨F, A, env, b, o, r, e, q⟩ := h
  obtain ⟨d, e1, e2⟩ := bind_some2 e
  cases asB_eq e2
  exact ⟨F, A, env, _, o, r, e1, fun F' H' v s o' w => ⟨_, view_bl w, q F' H' s o'⟩⟩
theorem tst_i (h : tTI K ct m (bI g) σ H Q) : tI K ct m g .fz σ H fun x H' => ∃ c, x = .bl c ∧ Q c H' := by
  obtain ⟨F, A, env, b, env', o, r, e, q⟩ := h
  obtain ⟨⟨d, env1⟩, e1, e⟩ := bind_some2 e
  obtain ⟨b', e2, e⟩ := map_some2 e
  cases e
  cases asB_eq e2
  refine ⟨F, A, env, _, _, o, r, e1, fun F' H' A' B v s o' r' w => ?_⟩
  cases w with
  | fz w =>
    cases w
    rw [List.append_nil] at s o'
    exact ⟨_, rfl, q F' H' A' s o' r'⟩
end
section
variable {X : Cx} {ct : CT} {m : List OT} {e a b : Expr} {f fa fb : PF} {g ga gb : IF} {pa_ pb_ : PB} {ia ib : IB} {pos : Pos} {r : R2} {gg : D → D → Option D} {rest : List Expr}
/-! tests of values -/
theorem tp_val (h : EV X ct m e f) (he : ∀ whole, isTrue e X.env whole = (do let v ← whole; standAt e.pos; holding [v] (truthy v)) := by intro _; rfl) : TP X ct m e (bP f) := pt_imp (pt_val h he) fun _ _ _ => tst_v
theorem ti_val (h : EI X ct m e g .fz) (he : ∀ whole, isTrue e X.env whole = (do let v ← whole; standAt e.pos; holding [v] (truthy v)) := by intro _; rfl) : TI X ct m e (bI g) := pt_imp (pt_val h he) fun _ _ _ => tst_i
theorem tp_2 (mk : ∀ ta tb, PE X a ta → PE X b tb → PT X e (tTest (tOp r ta tb))) (hv : VOp2 X.K ct r gg .fz) (ha : EV X ct m a fa) (hb : EV X ct m b fb) : TP X ct m e (bP (p2 gg fa fb)) :=
  pt_imp (mk _ _ ha hb) fun _ _ _ h => imp_2 hv (tst_p h)
theorem ti_2 (mk : ∀ ta tb, PE X a ta → PE X b tb → PT X e (tTest (tOp r ta tb))) (hv : VOp2 X.K ct r gg .fz) (ha : EI X ct m a ga .fz) (hb : EI X ct m b gb .fz) : TI X ct m e (bI (i2 gg ga gb)) :=
  pt_imp (mk _ _ ha hb) fun _ _ _ h => imp_i2w hv.w (tst_i h)
theorem ti_of (h : TP X ct m e pa_) : TI X ct m e (liftB pa_) := pt_imp h fun σ H Q ⟨F, A, env, b, env', o, r, e, q⟩ => by
  obtain ⟨b', e1, e⟩ := map_some2 e
  cases e
  refine ⟨F, A, env, _, o, r, e1, fun F' H' s o' => ?_⟩
  obtain ⟨r2, _, o2, _, s3⟩ := r.pure o s o'
  exact q F' H' A s3 o2 r2
end
/-! and, or, not as tests -/
def bAndP (p q : PB) : PB := fun env => (p env).bind fun c => if c = true then q env else some false
def bOrP (p q : PB) : PB := fun env => (p env).bind fun c => if c = true then some true else q env
def bNotP (p : PB) : PB := fun env => (p env).map not
def bAndI (p q : IB) : IB := fun env => (p env).bind fun c => if c.1 = true then q c.2 else some (false, c.2)
def bOrI (p q : IB) : IB := fun env => (p env).bind fun c => if c.1 = true then some (true, c.2) else q c.2
def bNotI (p : IB) : IB := fun env => (p env).map fun c => (!c.1, c.2)
section
variable {X : Cx} {ct : CT} {m : List OT} {e a b : Expr} {p q : PB} {i j : IB} {pos : Pos} {rest : List Expr}
theorem wp_and1 (h : TP X ct m a p) : WP X ct m (.BoolOp .And [a] pos) p := pw_and1 h
theorem wp_or1 (h : TP X ct m a p) : WP X ct m (.BoolOp .Or [a] pos) p := pw_or1 h
theorem wi_and1 (h : TI X ct m a i) : WI X ct m (.BoolOp .And [a] pos) i := pw_and1 h
theorem wi_or1 (h : TI X ct m a i) : WI X ct m (.BoolOp .Or [a] pos) i := pw_or1 h
theorem wp_and (ha : TP X ct m a p) (hb : WP X ct m (.BoolOp .And (b :: rest) pos) q) : WP X ct m (.BoolOp .And (a :: b :: rest) pos) (bAndP p q) := pw_imp (pw_and ha hb) fun σ H Q ⟨F, A, env, c, o, r, e, k⟩ => by
  obtain ⟨c1, e1, e⟩ := bind_some2 e
  refine ⟨F, A, env, c1, o, r, e1, fun F' H' s o' => ?_⟩
  obtain ⟨r2, _, o2, _, _⟩ := r.pure o s o'
  cases c1 with
  | true => exact ⟨F', A, env, c, o2, r2, by simpa [asB] using e, fun F2 H2 s2 o3 => k F2 H2 (s.trans s2) o3⟩
  | false => cases e; exact k F' H' s o'
theorem wp_or (ha : TP X ct m a p) (hb : WP X ct m (.BoolOp .Or (b :: rest) pos) q) : WP X ct m (.BoolOp .Or (a :: b :: rest) pos) (bOrP p q) := pw_imp (pw_or ha hb) fun σ H Q ⟨F, A, env, c, o, r, e, k⟩ => by
  obtain ⟨c1, e1, e⟩ := bind_some2 e
  refine ⟨F, A, env, c1, o, r, e1, fun F' H' s o' => ?_⟩
  obtain ⟨r2, _, o2, _, _⟩ := r.pure o s o'
  cases c1 with
  | false => exact ⟨F', A, env, c, o2, r2, by simpa [asB] using e, fun F2 H2 s2 o3 => k F2 H2 (s.trans s2) o3⟩
  | true => cases e; exact k F' H' s o'
theorem wi_and (ha : TI X ct m a i) (hb : WI X ct m (.BoolOp .And (b :: rest) pos) j) : WI X ct m (.BoolOp .And (a :: b :: rest) pos) (bAndI i j) := pw_imp (pw_and ha hb) fun σ H Q ⟨F, A, env, c, env', o, r, e, k⟩ => by
  obtain ⟨⟨c1, env1⟩, e1, e⟩ := bind_some2 e
  refine ⟨F, A, env, c1, env1, o, r, e1, fun F' H' A' s o' r' => ?_⟩
  cases c1 with
  | true => exact ⟨F', A', env1, c, env', o', r', by simpa [asB] using e, fun F2 H2 A2 s2 o3 r3 => k F2 H2 A2 (s.trans s2) o3 r3⟩
  | false => cases e; exact k F' H' A' s o' r'
theorem wi_or (ha : TI X ct m a i) (hb : WI X ct m (.BoolOp .Or (b :: rest) pos) j) : WI X ct m (.BoolOp .Or (a :: b :: rest) pos) (bOrI i j) := pw_imp (pw_or ha hb) fun σ H Q ⟨F, A, env, c, env', o, r, e, k⟩ => by
  obtain ⟨⟨c1, env1⟩, e1, e⟩ := bind_some2 e
  refine ⟨F, A, env, c1, env1, o, r, e1, fun F' H' A' s o' r' => ?_⟩
  cases c1 with
  | false => exact ⟨F', A', env1, c, env', o', r', by simpa [asB] using e, fun F2 H2 A2 s2 o3 r3 => k F2 H2 A2 (s.trans s2) o3 r3⟩
  | true => cases e; exact k F' H' A' s o' r'
theorem tp_w (h : WP X ct m e p) : TP X ct m e p := PW.pt h
theorem ti_w (h : WI X ct m e i) : TI X ct m e i := PW.pt h
theorem tp_not (h : TP X ct m a p) : TP X ct m (.UnaryOp .Not a pos) (bNotP p) := pt_imp (pt_not h) fun σ H Q ⟨F, A, env, c, o, r, e, k⟩ => by
  obtain ⟨c1, e1, e⟩ := map_some2 e
  cases e
  exact ⟨F, A, env, c1, o, r, e1, fun F' H' s o' => k F' H' s o'⟩
theorem ti_not (h : TI X ct m a i) : TI X ct m (.UnaryOp .Not a pos) (bNotI i) := pt_imp (pt_not h) fun σ H Q ⟨F, A, env, c, env', o, r, e, k⟩ => by
  obtain ⟨⟨c1, env1⟩, e1, e⟩ := map_some2 e
  cases e
  exact ⟨F, A, env, c1, env1, o, r, e1, fun F' H' A' s o' r' => k F' H' A' s o' r'⟩
end
/-! .. as values: all but the last are True or False -/
def pAnd (p q : PF) : PF := fun env => (p env).bind fun d => (asB d).bind fun c => if c = true then q env else some (.bl false)
def pOr (p q : PF) : PF := fun env => (p env).bind fun d => (asB d).bind fun c => if c = true then some (.bl true) else q env
def pNot (p : PF) : PF := fun env => (p env).bind fun d => (asB d).map fun c => .bl (!c)
def pIf (t : PB) (p q : PF) : PF := fun env => (t env).bind fun c => if c = true then p env else q env
def iAnd (p q : IF) : IF := fun env => (p env).bind fun d => (asB d.1).bind fun c => if c = true then q d.2 else some (.bl false, d.2)
def iOr (p q : IF) : IF := fun env => (p env).bind fun d => (asB d.1).bind fun c => if c = true then some (.bl true, d.2) else q d.2
def iNot (p : IF) : IF := fun env => (p env).bind fun d => (asB d.1).map fun c => (.bl (!c), d.2)
def iIf (t : IB) (p q : IF) : IF := fun env => (t env).bind fun c => if c.1 = true then p c.2 else q c.2
section
variable {X : Cx} {ct : CT} {m : List OT} {e a b c : Expr} {p q : PF} {i j : IF} {t : PB} {u : IB} {pos : Pos} {rest : List Expr} {op : BoolOp} {k : OT}
theorem ep_one (h : EP X ct m a p k) : EP X ct m (.BoolOp op [a] pos) p k := pe_one h
theorem ei_one (h : EI X ct m a i k) : EI X ct m (.BoolOp op [a] pos) i k := pe_one h
theorem ep_and (ha : EV X ct m a p) (hb : EP X ct m (.BoolOp .And (b :: rest) pos) q .fz) : EP X ct m (.BoolOp .And (a :: b :: rest) pos) (pAnd p q) .fz := pe_imp (pe_and ha hb) fun σ H Q ⟨F, A, env, d, o, r, e, k⟩ => by
  obtain ⟨d1, e1, e⟩ := bind_some2 e
  obtain ⟨c1, e2, e⟩ := bind_some2 e
  cases asB_eq e2
  refine ⟨F, A, env, _, o, r, e1, fun F' H' v s o' w => ⟨c1, view_bl w, ?_⟩⟩
  obtain ⟨r2, _, o2, _, _⟩ := r.pure o s o'
  cases c1 with
  | true => exact ⟨F', A, env, d, o2, r2, by simpa [asB] using e, fun F2 H2 B v s2 o3 w2 => k F2 H2 B v (s.trans s2) o3 w2⟩
  | false => cases e; exact k F' H' [] _ s o' (.fz (.bl _))
theorem ep_or (ha : EV X ct m a p) (hb : EP X ct m (.BoolOp .Or (b :: rest) pos) q .fz) : EP X ct m (.BoolOp .Or (a :: b :: rest) pos) (pOr p q) .fz := pe_imp (pe_or ha hb) fun σ H Q ⟨F, A, env, d, o, r, e, k⟩ => by
  obtain ⟨d1, e1, e⟩ := bind_some2 e
  obtain ⟨c1, e2, e⟩ := bind_some2 e
  cases asB_eq e2
  refine ⟨F, A, env, _, o, r, e1, fun F' H' v s o' w => ⟨c1, view_bl w, ?_⟩⟩
  obtain ⟨r2, _, o2, _, _⟩ := r.pure o s o'
  cases c1 with
  | false => exact ⟨F', A, env, d, o2, r2, by simpa [asB] using e, fun F2 H2 B v s2 o3 w2 => k F2 H2 B v (s.trans s2) o3 w2⟩
  | true => cases e; exact k F' H' [] _ s o' (.fz (.bl _))
theorem ep_not (ha : EV X ct m a p) : EP X ct m (.UnaryOp .Not a pos) (pNot p) .fz := pe_imp (pe_not ha) fun σ H Q ⟨F, A, env, d, o, r, e, k⟩ => by
  obtain ⟨d1, e1, e⟩ := bind_some2 e
  obtain ⟨c1, e2, e⟩ := map_some2 e
  cases asB_eq e2
  cases e
  exact ⟨F, A, env, _, o, r, e1, fun F' H' v s o' w => ⟨c1, view_bl w, k F' H' [] _ s o' (.fz (.bl _))⟩⟩
theorem ep_if (hc : TP X ct m c t) (ha : EP X ct m a p k) (hb : EP X ct m b q k) : EP X ct m (.IfExp c a b pos) (pIf t p q) k := pe_imp (pe_ifExp hc ha hb) fun σ H Q ⟨F, A, env, d, o, r, e, k⟩ => by
  obtain ⟨c1, e1, e⟩ := bind_some2 e
  refine ⟨F, A, env, c1, o, r, e1, fun F' H' s o' => ?_⟩
  obtain ⟨r2, _, o2, _, _⟩ := r.pure o s o'
  cases c1 with
  | false => exact ⟨F', A, env, d, o2, r2, by simpa [asB] using e, fun F2 H2 B v s2 o3 w2 => k F2 H2 B v (s.trans s2) o3 w2⟩
  | true => exact ⟨F', A, env, d, o2, r2, by simpa [asB] using e, fun F2 H2 B v s2 o3 w2 => k F2 H2 B v (s.trans s2) o3 w2⟩
theorem ei_and (ha : EI X ct m a i .fz) (hb : EI X ct m (.BoolOp .And (b :: rest) pos) j .fz) : EI X ct m (.BoolOp .And (a :: b :: rest) pos) (iAnd i j) .fz := pe_imp (pe_and ha hb) fun σ H Q ⟨F, A, env, d, env', o, r, e, k⟩ => by
  obtain ⟨⟨d1, env1⟩, e1, e⟩ := bind_some2 e
  obtain ⟨c1, e2, e⟩ := bind_some2 e
  cases asB_eq e2
  refine ⟨F, A, env, _, _, o, r, e1, fun F' H' A' B v s o' r' w => ?_⟩
  cases w with
  | fz w =>
    cases w
    rw [List.append_nil] at s o'
    refine ⟨c1, rfl, ?_⟩
    cases c1 with
    | true => exact ⟨F', A', env1, d, env', o', r', by simpa [asB] using e, fun F2 H2 A2 B v s2 o3 r3 w2 => k F2 H2 A2 B v (s.trans s2) o3 r3 w2⟩
    | false => cases e; exact k F' H' A' [] _ (by rw [List.append_nil]; exact s) (by rw [List.append_nil]; exact o') r' (.fz (.bl _))
theorem ei_or (ha : EI X ct m a i .fz) (hb : EI X ct m (.BoolOp .Or (b :: rest) pos) j .fz) : EI X ct m (.BoolOp .Or (a :: b :: rest) pos) (iOr i j) .fz := pe_imp (pe_or ha hb) fun σ H Q ⟨F, A, env, d, env', o, r, e, k⟩ => by
  obtain ⟨⟨d1, env1⟩, e1, e⟩ := bind_some2 e
  obtain ⟨c1, e2, e⟩ := bind_some2 e
  cases asB_eq e2
  refine ⟨F, A, env, _, _, o, r, e1, fun F' H' A' B v s o' r' w => ?_⟩
  cases w with
  | fz w =>
    cases w
    rw [List.append_nil] at s o'
    refine ⟨c1, rfl, ?_⟩
    cases c1 with
    | false => exact ⟨F', A', env1, d, env', o', r', by simpa [asB] using e, fun F2 H2 A2 B v s2 o3 r3 w2 => k F2 H2 A2 B v (s.trans s2) o3 r3 w2⟩
    | true => cases e; exact k F' H' A' [] _ (by rw [List.append_nil]; exact s) (by rw [List.append_nil]; exact o') r' (.fz (.bl _))
theorem ei_not (ha : EI X ct m a i .fz) : EI X ct m (.UnaryOp .Not a pos) (iNot i) .fz := pe_imp (pe_not ha) fun σ H Q ⟨F, A, env, d, env', o, r, e, k⟩ => by
  obtain ⟨⟨d1, env1⟩, e1, e⟩ := bind_some2 e
  obtain ⟨c1, e2, e⟩ := map_some2 e
  cases asB_eq e2
  cases e
  refine ⟨F, A, env, _, _, o, r, e1, fun F' H' A' B v s o' r' w => ?_⟩
  cases w with
  | fz w => cases w; exact ⟨c1, rfl, k F' H' A' [] _ s o' r' (.fz (.bl _))⟩
theorem ei_if (hc : TI X ct m c u) (ha : EI X ct m a i k) (hb : EI X ct m b j k) : EI X ct m (.IfExp c a b pos) (iIf u i j) k := pe_imp (pe_ifExp hc ha hb) fun σ H Q ⟨F, A, env, d, env', o, r, e, k⟩ => by
  obtain ⟨⟨c1, env1⟩, e1, e⟩ := bind_some2 e
  refine ⟨F, A, env, c1, env1, o, r, e1, fun F' H' A' s o' r' => ?_⟩
  cases c1 with
  | false => exact ⟨F', A', env1, d, env', o', r', by simpa [asB] using e, fun F2 H2 A2 B v s2 o3 r3 w2 => k F2 H2 A2 B v (s.trans s2) o3 r3 w2⟩
  | true => exact ⟨F', A', env1, d, env', o', r', by simpa [asB] using e, fun F2 H2 A2 B v s2 o3 r3 w2 => k F2 H2 A2 B v (s.trans s2) o3 r3 w2⟩
end
/-! ### chains -/
def pChain (g g' : D → D → Option D) (fa fb fc : PF) : PF := fun env => (fa env).bind fun x => (fb env).bind fun y => (g x y).bind fun z => (asB z).bind fun c => if c = true then (fc env).bind fun w => g' y w else some (.bl false)
section
variable {X : Cx} {ct : CT} {m : List OT} {a b c : Expr} {fa fb fc : PF} {g g' : D → D → Option D} {r r' : R2} {op op' : CmpOp} {pos : Pos}
theorem ep_chain (ho : OpR X (compareOp op) r) (ho' : OpR X (compareOp op') r') (hv : VOp2 X.K ct r g .fz) (hv' : VOp2 X.K ct r' g' .fz) (ha : EV X ct m a fa) (hb : EV X ct m b fb) (hc : EV X ct m c fc)
    (hm : lastMarks [op, op'] [b, c] = false := by with_unfolding_all rfl) : EP X ct m (.Compare a [op, op'] [b, c] pos) (pChain g g' fa fb fc) .fz :=
  pe_imp (pe_chain ho ho' ha hb hc hm) fun σ H Q ⟨F, A, env, d, o, rr, e, k⟩ => by
    obtain ⟨x, e1, e⟩ := bind_some2 e
    obtain ⟨y, e2, e⟩ := bind_some2 e
    obtain ⟨z, e3, e⟩ := bind_some2 e
    obtain ⟨c1, e4, e⟩ := bind_some2 e
    cases asB_eq e4
    refine two_v o rr e1 e2 fun F1 H1 v u s1 o1 w1 w2 => hv F1 H1 x y _ v u _ o1 w1 w2 e3 fun F2 H2 B z' s2 o2 w3 => ?_
    cases w3 with
    | fz w3 =>
      cases w3
      refine ⟨c1, rfl, ?_⟩
      obtain ⟨r2, _, o3, _, _⟩ := rr.pure o (s1.trans s2) o2
      cases c1 with
      | true =>
        obtain ⟨w, e5, e6⟩ := bind_some2 (show ((fc env).bind fun w => g' y w) = some d by simpa [asB] using e)
        refine ⟨F2, A, env, w, o3, r2, e5, fun F3 H3 w' s3 o4 w4 => ?_⟩
        exact hv' F3 H3 y w d u w' Q o4 (w2.mono (fun a u h => s3.fs a u (s2.fs a u h)) (fun a u h => s3.same a u (s2.same a u h))) w4 e6 fun F4 H4 B4 w5 s4 o5 w6 => k F4 H4 B4 w5 ((s1.trans s2).trans (s3.trans s4)) o5 w6
      | false => cases e; exact k F2 H2 [] _ (s1.trans s2) o2 (.fz (.bl _))
end
/-! ### one place -/
def nNeg : D → Option D
  | .int i => some (.int (-i))
  | _ => none
section
variable {X : Cx} {ct : CT} {m : List OT} {e a : Expr} {f : PF} {i : IF} {pos : Pos}
theorem ep_neg (ha : EV X ct m a f) : EP X ct m (.UnaryOp .USub a pos) (p1 nNeg f) .fz := pe_imp (pe_un un_neg ha) fun σ H Q ⟨F, A, env, d, o, r, e, k⟩ => by
  obtain ⟨d1, e1, e⟩ := bind_some2 e
  cases d1 <;> simp only [nNeg] at e <;> first | (cases e; done) | skip
  cases e
  exact ⟨F, A, env, _, o, r, e1, fun F' H' v s o' w => ⟨_, view_int w, k F' H' [] _ s o' (.fz (.int _))⟩⟩
theorem ei_neg (ha : EI X ct m a i .fz) : EI X ct m (.UnaryOp .USub a pos) (i1 nNeg i) .fz := pe_imp (pe_un un_neg ha) fun σ H Q ⟨F, A, env, d, env', o, r, e, k⟩ => by
  obtain ⟨⟨d1, env1⟩, e1, e⟩ := bind_some2 e
  obtain ⟨d2, e2, e⟩ := map_some2 e
  cases e
  cases d1 <;> simp only [nNeg] at e2 <;> first | (cases e2; done) | skip
  cases e2
  refine ⟨F, A, env, _, _, o, r, e1, fun F' H' A' B v s o' r' w => ?_⟩
  cases w with
  | fz w => cases w; exact ⟨_, rfl, k F' H' A' [] _ s o' r' (.fz (.int _))⟩
/-! ### displays -/
def nTupD (ds : List D) : Option D := if ds.length ≤ sizeLine then some (.tup ds) else none
def nLstD (ds : List D) : Option D := if ds.length ≤ sizeLine then some (.lst ds) else none
variable {es : List Expr} {fs : IFs}
theorem ei_tup {x1} (h : AI X ct m es fs) : EI X ct m (.Tuple es x1 pos) (iN nTupD fs) .fz := pe_imp (pe_tup h) fun σ H Q ⟨F, A, env, d, env', o, r, e, k⟩ => by
  obtain ⟨⟨ds, env1⟩, e1, e⟩ := bind_some2 e
  obtain ⟨d2, e2, e⟩ := map_some2 e
  cases e
  unfold nTupD at e2
  split at e2
  · rename_i hl
    cases e2
    refine ⟨F, A, env, ds, env1, o, r, e1, fun F' H' A' vs s o' r' w => ⟨by rw [← w.len]; exact hl, fun p hp => ?_⟩⟩
    obtain ⟨s2, o2, sF, hF⟩ := new_fz (u := .tup vs) o'.nil hp
    obtain ⟨s3, o3, r3⟩ := Stp.then_pure s o' r' s2 o2
    exact k _ _ A' [] _ s3 o3 r3 (.fz (.tup (.of hF) (w.mono sF)))
  · cases e2
theorem ei_lst (h : AI X ct m es fs) : EI X ct m (.List es pos) (iN nLstD fs) (.lst .fz) := pe_imp (pe_lst h) fun σ H Q ⟨F, A, env, d, env', o, r, e, k⟩ => by
  obtain ⟨⟨ds, env1⟩, e1, e⟩ := bind_some2 e
  obtain ⟨d2, e2, e⟩ := map_some2 e
  cases e
  unfold nLstD at e2
  split at e2
  · rename_i hl
    cases e2
    refine ⟨F, A, env, ds, env1, o, r, e1, fun F' H' A' vs s o' r' w => ⟨by rw [← w.len]; exact hl, fun p hp => ?_⟩⟩
    obtain ⟨s2, o2, _⟩ := new_own (u := .lst vs) o'.nil hp
    obtain ⟨s3, o3, r3⟩ := Stp.then_pure s o' r' s2 o2
    exact k _ _ A' [p] _ s3 o3 r3 (.lst (B := []) upd_same (OwnAll.of_fz w))
  · cases e2
/-- [] of any kind of items -/
theorem ep_nil {k : OT} : EP X ct m (.List [] pos) (pC (.lst [])) (.lst k) := pe_imp (pe_lst pa_nil) fun σ H Q ⟨F, A, env, d, o, r, e, q⟩ => by
  cases e
  refine ⟨Nat.zero_le _, fun p hp => ?_⟩
  obtain ⟨s2, o2, _⟩ := new_own (u := .lst []) o.nil hp
  exact q _ _ [p] _ s2 o2 (.lst (B := []) upd_same .nil)
/-- pure displays -/
theorem ep_tup {x1} {fp : PFs} (h : AF X ct m es fp) : EP X ct m (.Tuple es x1 pos) (pN nTupD fp) .fz := pe_imp (pe_tup h) fun σ H Q ⟨F, A, env, d, o, r, e, k⟩ => by
  obtain ⟨ds, e1, e⟩ := bind_some2 e
  unfold nTupD at e
  split at e
  · rename_i hl
    cases e
    refine ⟨F, A, env, ds, o, r, e1, fun F' H' vs s o' w' => ?_⟩
    refine ⟨by rw [← w'.len]; exact hl, fun p hp => ?_⟩
    obtain ⟨s2, o2, sF, hF⟩ := new_fz (u := .tup vs) o' hp
    exact k _ _ [] _ (s.trans s2) o2 (.fz (.tup (.of hF) (w'.mono sF)))
  · cases e
theorem ep_lst {fp : PFs} (h : AF X ct m es fp) : EP X ct m (.List es pos) (pN nLstD fp) (.lst .fz) := pe_imp (pe_lst h) fun σ H Q ⟨F, A, env, d, o, r, e, k⟩ => by
  obtain ⟨ds, e1, e⟩ := bind_some2 e
  unfold nLstD at e
  split at e
  · rename_i hl
    cases e
    refine ⟨F, A, env, ds, o, r, e1, fun F' H' vs s o' w' => ?_⟩
    refine ⟨by rw [← w'.len]; exact hl, fun p hp => ?_⟩
    obtain ⟨s2, o2, _⟩ := new_own (u := .lst vs) o' hp
    exact k _ _ [p] _ (s.trans s2) o2 (.lst (B := []) upd_same (OwnAll.of_fz w'))
  · cases e
end
/-! ### fields of frozen objects -/
def nix : List Str → Str → Option Nat
  | [], _ => none
  | g :: gs, f => if g = f then some 0 else (nix gs f).map (· + 1)
theorem lookup_nix {f : Str} : ∀ {names : List Str} {vs : List V} {j : Nat} {v : V}, nix names f = some j → vs[j]? = some v → (names.zip vs).lookup f = some v
  | [], _, _, _, h, _ => by cases h
  | g :: gs, [], j, v, _, h => by simp at h
  | g :: gs, u :: us, j, v, h, h' => by
    unfold nix at h
    rw [List.zip_cons_cons]
    split at h
    · rename_i e
      cases h
      simp at h'
      subst h' e
      simp [List.lookup]
    · rename_i e
      obtain ⟨j', e1, rfl⟩ := map_some2 h
      have hb : (f == g) = false := beq_eq_false_iff_ne.mpr fun z => e z.symm
      simp only [List.lookup, hb]
      exact lookup_nix e1 (by simpa using h')
def nFld (c j : Nat) : D → Option D
  | .obj c' fs => if c' = c then fs[j]? else none
  | _ => none
/-- what is known of a class -/
structure CInfo (K : PySem.W.Frag) (ct : CT) (c : Nat) (C : Addr) (names : List Str) : Prop where
  at_ : ct c = some (C, names)
  cl : Cls K C
  na : ∀ f ∈ names, NoAttr K C f
theorem nix_mem {f : Str} : ∀ {names : List Str} {j : Nat}, nix names f = some j → f ∈ names
  | [], _, h => by cases h
  | g :: gs, j, h => by
    unfold nix at h
    split at h
    · rename_i e; rw [e]; exact List.mem_cons_self
    · obtain ⟨j', e1, _⟩ := map_some2 h
      exact List.mem_cons_of_mem _ (nix_mem e1)
section
variable {X : Cx} {ct : CT} {m : List OT} {e a : Expr} {f : PF} {i : IF} {pos : Pos} {c j : Nat} {C : Addr} {names : List Str} {fn : Str}
theorem ep_fld (ci : CInfo X.K ct c C names) (hj : nix names fn = some j) (ha : EP X ct m a f .fz) (hb : attributeBase a fn X.env (eval a X.env) = eval a X.env := by rfl) : EP X ct m (.Attribute a fn pos) (p1 (nFld c j) f) .fz :=
  pe_imp (pe_fld ha hb) fun σ H Q ⟨F, A, env, d, o, r, e, k⟩ => by
    obtain ⟨d1, e1, e5⟩ := bind_some2 e
    clear e
    refine ⟨F, A, env, d1, o, r, e1, fun F' H' B v s o' w => ?_⟩
    cases w with
    | fz w =>
      cases w with
      | obj h1 h2 h3 h4 =>
        simp only [nFld] at e5
        split at e5
        · rename_i z
          subst z
          rw [ci.at_] at h1
          cases h1
          obtain ⟨v', e2, r2⟩ := h4.get j d e5
          exact ⟨_, C, _, _, v', rfl, o'.sub _ _ h3, ci.cl, ci.na fn (nix_mem hj), lookup_nix hj e2, k F' H' [] v' s o' (.fz r2)⟩
        · cases e5
      | _ => simp [nFld] at e5
/-! ### isinstance -/
theorem ep_isi (T : Ty4) {p p2 pos : Pos} {t : Str} (ha : EV X ct m a f) (hg : Gl X "isinstance") (hm : X.mg "isinstance" = none) (ht : Gl X t) (hmt : X.mg t = none) (hv : bootBuiltins t = some (.type T.nm)) (hn : t ≠ "__name__") (hd : (t == ("__debug__" : Str)) = false)
    (he : starEach [a, .Name t p2] X.env = (false, eval a X.env) :: starEach [.Name t p2] X.env := by rfl) (he2 : starEach [.Name t p2] X.env = (false, eval (.Name t p2) X.env) :: starEach [] X.env := by rfl) (hpl : (backTo pos (starEach [.Name t p2] X.env)).any (·.1) = false := by rfl) :
    EP X ct m (.Call (.Name "isinstance" p) [a, .Name t p2] [] pos) (p1 (nIsi T) f) .fz :=
  pe_imp (pe_callB call_isi hg hm (by decide +kernel) (pa_cons ha (pa_cons (pe_bltn (v := .ty T.nm) ht hmt hv rfl hn hd) pa_nil he2) he) (by decide) (by decide) he hpl) fun σ H Q ⟨F, A, env, d, o, r, e, k⟩ => by
    obtain ⟨d1, e1, e⟩ := bind_some2 e
    refine ⟨F, A, env, d1, o, r, e1, fun F' H' v s o' w => ?_⟩
    exact vo_isi o' w e fun F2 H2 B w2 s2 o2 w3 => k F2 H2 B w2 (s.trans s2) o2 w3
/-! ### slices -/
def cutL {α : Type} (xs : List α) (lo hi : Option Int) : List α := (xs.drop (HT.sIx xs.length 0 lo)).take (HT.sIx xs.length xs.length hi - HT.sIx xs.length 0 lo)
def oI : Option D → Option (Option Int)
  | none => some none
  | some (.int i) => some (some i)
  | _ => none
def nSlL (x : D) (lo hi : Option Int) : Option D := match x with
  | .lst xs => some (.lst (cutL xs lo hi))
  | _ => none
def nSlT (x : D) (lo hi : Option Int) : Option D := match x with
  | .tup xs => some (.tup (cutL xs lo hi))
  | _ => none
def VSl (K : PySem.W.Frag) (ct : CT) (r : V → Option Int → Option Int → Hp → VK → Prop) (g : D → Option Int → Option Int → Option D) (k : OT) : Prop :=
  ∀ (F H : Hp) (x d : D) (v : V) (lo hi : Option Int) (Q : VK), Ok [] F H → Wv K ct F H x v → g x lo hi = some d →
    (∀ F' H' B w, Stp [] F H B F' H' → Ok B F' H' → Own K ct F' H' k d w B → Q w H') → r v lo hi H Q
theorem relCut {K : PySem.W.Frag} {F : Hp} {xs : List D} {vs : List V} (r : RelAll K ct F xs vs) (lo hi : Option Int) : RelAll K ct F (cutL xs lo hi) (cutV vs lo hi) := by
  unfold cutL cutV
  rw [r.len]
  exact (r.drop _).take _
theorem vs_lst : VSl X.K ct (rSlL X.K) nSlL (.lst .fz) := by
  intro F H x d v lo hi Q o w e q
  cases x <;> simp only [nSlL] at e <;> first | (cases e; done) | skip
  cases e
  obtain ⟨a, us, rfl, h, r⟩ := wv_lst o.sub w
  refine ⟨a, us, rfl, .of h, fun p hp => ?_⟩
  obtain ⟨s2, o2, _⟩ := new_own (u := .lst (cutV us lo hi)) o hp
  exact q F _ [p] _ s2 o2 (.lst (B := []) upd_same (OwnAll.of_fz (relCut r lo hi)))
theorem cut_all {α : Type} {xs : List α} {lo hi : Option Int} (h : HT.sIx xs.length 0 lo = 0 ∧ HT.sIx xs.length xs.length hi = xs.length) : cutL xs lo hi = xs := by
  unfold cutL
  rw [h.1, h.2]
  simp
theorem vs_tup : VSl X.K ct (rSlA X.K) nSlT .fz := by
  intro F H x d v lo hi Q o w e q
  cases x <;> simp only [nSlT] at e <;> first | (cases e; done) | skip
  cases e
  obtain ⟨a, us, rfl, h, hf, r⟩ := wv_tup o.sub w
  refine ⟨a, us, rfl, h, fun z => ?_, fun z p hp => ?_⟩
  · rw [cut_all (by rw [r.len]; exact z)] at q
    exact fin_fz o q (.tup hf r)
  · obtain ⟨s2, o2, sF, hF⟩ := new_fz (u := .tup (cutV us lo hi)) o hp
    exact q _ _ [] _ s2 o2 (.fz (.tup (.of hF) ((relCut r lo hi).mono sF)))
/-- x[lo:hi]: lists and tuples -/
def nSl (x : D) (lo hi : Option Int) : Option D := match x with
  | .lst xs => some (.lst (cutL xs lo hi))
  | .tup xs => some (.tup (cutL xs lo hi))
  | _ => none
theorem vs_any : VSl X.K ct (fun x lo hi H Q => rSlL X.K x lo hi H Q ∨ rSlA X.K x lo hi H Q) nSl .fz := by
  intro F H x d v lo hi Q o w e q
  cases x <;> simp only [nSl] at e <;> first | (cases e; done) | skip
  · refine .inl (vs_lst F H _ d v lo hi Q o w e fun F' H' B w s o' w' => ?_)
    obtain ⟨o2, s2, k2, st⟩ := freeze (A := []) (B := B) o' w'.there
    exact q (addF F' H' B) H' [] w (s.trans st) o2 (.fz (w'.rel s2 k2))
  · exact .inr (vs_tup F H _ d v lo hi Q o w e q)
/-- a slice's bound -/
def pO (f : Option PF) : Env → Option (Option Int) := fun env => match f with
  | none => some none
  | some f => (f env).bind fun d => match d with | .int i => some (some i) | _ => none
inductive EO (X : Cx) (ct : CT) (m : List OT) : Option Expr → Option PF → Prop
  | none : EO X ct m none none
  | some {e : Expr} {f : PF} : EV X ct m e f → EO X ct m (some e) (some f)
def tO (K : PySem.W.Frag) (ct : CT) (m : List OT) (f : Option PF) : TO := match f with
  | none => tNoPart
  | some f => tPart (tV K ct m f)
theorem EO.po {lo : Option Expr} {f : Option PF} (h : EO X ct m lo f) : PO X lo (tO X.K ct m f) := by
  cases h with
  | none => exact po_none
  | some h => exact po_some h
theorem tO_imp {K : PySem.W.Frag} {f : Option PF} {F H : Hp} {A : List Addr} {env : Env} {σ : St} {l : Option Int} {Q : Option Int → Hp → Prop} (o : Ok A F H) (r : EnvR K ct F H m env σ A) (e : pO f env = some l)
    (q : ∀ F' H', Stp [] F H [] F' H' → Ok [] F' H' → Q l H') : tO K ct m f σ H Q := by
  cases f with
  | none => cases e; exact q F H Stp.refl o.nil
  | some f =>
    obtain ⟨d, e1, e2⟩ := bind_some2 e
    cases d <;> simp only at e2 <;> first | (cases e2; done) | skip
    cases e2
    exact ⟨F, A, env, _, o, r, e1, fun F' H' v s o' w => ⟨_, view_int w, q F' H' s o'⟩⟩
def pSl (g : D → Option Int → Option Int → Option D) (f : PF) (lo hi : Option PF) : PF := fun env => (f env).bind fun x => (pO lo env).bind fun l => (pO hi env).bind fun h => g x l h
theorem ep_slice {lo hi : Option Expr} {fl fh : Option PF} {p2 pos : Pos} {r : V → Option Int → Option Int → Hp → VK → Prop} {g : D → Option Int → Option Int → Option D} {k : OT} (hr : SlR X r) (hv : VSl X.K ct r g k) (ha : EW X ct m a f) (hl : EO X ct m lo fl) (hh : EO X ct m hi fh) :
    EP X ct m (.Subscript a (.Slice lo hi none p2) pos) (pSl g f fl fh) k :=
  pe_imp (pe_slice hr ha hl.po hh.po) fun σ H Q ⟨F, A, env, d, o, r, e, q⟩ => by
    obtain ⟨x, e1, e⟩ := bind_some2 e
    obtain ⟨l, e2, e⟩ := bind_some2 e
    obtain ⟨h, e3, e⟩ := bind_some2 e
    refine ⟨F, A, env, x, o, r, e1, fun F1 H1 v s1 o1 w1 => ?_⟩
    obtain ⟨r2, _, o2, _, _⟩ := r.pure o s1 o1
    refine tO_imp o2 r2 e2 fun F2 H2 s2 o3 => ?_
    obtain ⟨r3, _, o4, _, _⟩ := r2.pure o2 s2 o3
    refine tO_imp o4 r3 e3 fun F3 H3 s3 o5 => ?_
    have s23 := s2.trans s3
    exact hv F3 H3 x d v l h Q o5 (w1.mono s23.fs s23.same) e fun F4 H4 B w s4 o6 w4 => q F4 H4 B w (s1.trans (s23.trans s4)) o6 w4
end
end T3

/-! T3, part e: calls of defs, methods of owned lists. -/
namespace T3
open PySem L2

/-- the promise of a def that changes nothing that its caller owns -/
def sp0 (K : PySem.W.Frag) (ct : CT) (rk : OT) (G : List D → Option D) : Sp := fun vs H Q _ => ∃ (F : Hp) (ds : List D) (d : D), Ok [] F H ∧ RelAll K ct F ds vs ∧ G ds = some d ∧
  ∀ F' H' B v, Stp [] F H B F' H' → Ok B F' H' → Own K ct F' H' rk d v B → Q v H'
/-- .. that may change its first argument, which it is lent -/
def sp1 (K : PySem.W.Frag) (ct : CT) (rk ik ik' : OT) (G : D → List D → Option (D × D)) : Sp := fun vs H Q _ => ∃ (F : Hp) (A : List Addr) (v0 : V) (vs' : List V) (d0 : D) (ds : List D) (d d1 : D), vs = v0 :: vs' ∧ Ok A F H ∧
  Own K ct F H ik d0 v0 A ∧ RelAll K ct F ds vs' ∧ G d0 ds = some (d, d1) ∧
  ∀ F' H' A' B v, Stp A F H (A' ++ B) F' H' → Ok (A' ++ B) F' H' → Own K ct F' H' ik' d1 v0 A' → Own K ct F' H' rk d v B → Q v H'

theorem set_same {α : Type} : ∀ {l : List α} {i : Nat} {x : α}, l[i]? = some x → l.set i x = l
  | [], _, _, h => by simp at h
  | a :: l, 0, x, h => by simp at h; subst h; rfl
  | a :: l, i + 1, x, h => by
    rw [List.set_cons_succ, set_same (by simpa using h)]

section
variable {K : PySem.W.Frag} {ct : CT} {m : List OT} {F H : Hp} {A : List Addr} {env : Env} {σ : St}
/-- THE SLOT: what is owned at slot i is lent to a step, the rest stays -/
theorem EnvR.lend (r : EnvR K ct F H m env σ A) (o : Ok A F H) {i : Nat} {k : OT} {d : D} (hm : m[i]? = some k) (he : env[i]? = some (some d)) :
    ∃ (v : V) (B R : List Addr), σ[i]? = some (some v) ∧ Own K ct F H k d v B ∧ Ok B F H ∧ (∀ b ∈ B, b ∈ A) ∧ (∀ b ∈ R, b ∈ A) ∧
      ∀ (F' H' : Hp) (k' : OT) (d' : D) (B' C : List Addr), Stp B F H (B' ++ C) F' H' → Ok (B' ++ C) F' H' → Own K ct F' H' k' d' v B' →
        ∃ A', EnvR K ct F' H' (m.set i k') (env.set i (some d')) σ A' ∧ Stp A F H (A' ++ C) F' H' ∧ Ok (A' ++ C) F' H' := by
  obtain ⟨e, ov, B, R, h1, h2, p, sl, th, up⟩ := r.at_ i k hm
  rw [he] at h1
  cases h1
  obtain ⟨v, rfl, w⟩ := sl
  have o1 : Ok (B ++ R) F H := o.perm p
  refine ⟨v, B, R, h2, w, o1.left, fun b hb => p.mem_iff.mpr (List.mem_append_left _ hb), fun b hb => p.mem_iff.mpr (List.mem_append_right _ hb), fun F' H' k' d' B' C s o2 w' => ?_⟩
  obtain ⟨s3, o3, kp⟩ := Stp.frame s o1 o2 th
  obtain ⟨A', p', r'⟩ := up F' H' k' (some d') (some v) B' s.fs kp ⟨v, rfl, w'⟩
  rw [set_same h2] at r'
  have pp : (B' ++ C ++ R).Perm (A' ++ C) := by
    refine List.Perm.trans ?_ (List.Perm.append_right C p'.symm)
    rw [List.append_assoc, List.append_assoc]
    exact List.Perm.append_left _ List.perm_append_comm
  refine ⟨A', r', s3.weak (fun b hb => p.mem_iff.mpr hb) (fun b hb => .inl (pp.mem_iff.mpr hb)), o3.perm pp⟩
/-- a change of an owned object by itself -/
theorem write_own {a : Addr} {u u' : HO} (o : Ok A F H) (ha : a ∈ A) : Stp A F H A F (upd H a u') ∧ Ok A F (upd H a u') := by
  refine ⟨⟨fun _ _ h => h, fun b x h q => by rw [upd_ne fun e => q (by rw [e]; exact ha)]; exact h, fun _ _ h => .inl h, fun _ h => .inl h⟩, ⟨fun b x h => ?_, o.nd, o.out⟩⟩
  rw [upd_ne fun e => by rw [e, o.out a ha] at h; cases h]
  exact o.sub b x h
end

/-! ### calls -/
section
variable {X : Cx} {ct : CT} {m : List OT} {k i : Nat} {f : Addr} {fd : FuncData} {ps : List Str} {rk ik : OT} {G : List D → Option D} {G1 : D → List D → Option (D × D)} {x : Str} {p pos : Pos} {e : Expr} {es : List Expr} {fs : PFs} {gs : IFs}
theorem imp_call {σ : St} {H : Hp} {Q : VK} {E : XK} (h : tP X.K ct m (pN G fs) rk σ H Q) : tCall (sp0 X.K ct rk G) [] E (tFs X.K ct m fs) σ H Q := by
  obtain ⟨F, A, env, d, o, r, e, q⟩ := h
  obtain ⟨ds, e1, e⟩ := bind_some2 e
  refine ⟨F, A, env, ds, o, r, e1, fun F' H' vs s o' w => ?_⟩
  refine ⟨F', ds, d, o', by rw [List.append_nil]; exact w, e, fun F2 H2 B v s2 o2 w2 => q F2 H2 B v (s.trans s2) o2 w2⟩
theorem imp_icall {σ : St} {H : Hp} {Q : VK} {E : XK} (h : tI X.K ct m (iN G gs) rk σ H Q) : tCall (sp0 X.K ct rk G) [] E (tIs X.K ct m gs) σ H Q := by
  obtain ⟨F, A, env, d, env', o, r, e, q⟩ := h
  obtain ⟨⟨ds, env1⟩, e1, e⟩ := bind_some2 e
  obtain ⟨d', e2, e⟩ := map_some2 e
  cases e
  refine ⟨F, A, env, ds, env1, o, r, e1, fun F' H' A' vs s o' r' w => ?_⟩
  refine ⟨F', ds, d, o'.nil, by rw [List.append_nil]; exact w, e2, fun F2 H2 B v s2 o2 w2 => ?_⟩
  obtain ⟨s3, o3, r3⟩ := Stp.then_pure s o' r' s2 o2
  exact q F2 H2 A' B v s3 o3 r3 w2
theorem ep_call (F : FnOk X.prog X.w X.K X.mg X.base CX0 k f fd ps (sp0 X.K ct rk G)) (hr : Room k X.A) (hg : Gl X x) (hm : X.mg x = some (.ref f)) (hk : PySem.W.keepIn X.K (.ref f) = true) (hb : Binds X.K fd ps []) (ha : AF X ct m (e :: es) fs)
    (hdb : (x == ("__debug__" : Str)) = false := by decide) (he : starEach (e :: es) X.env = (false, eval e X.env) :: starEach es X.env := by rfl) (hpl : (backTo pos (starEach es X.env)).any (·.1) = false := by rfl) :
    EP X ct m (.Call (.Name x p) (e :: es) [] pos) (pN G fs) rk :=
  pe_imp (pe_call F hr hg hm hk hb .nil (show Passes CX0 X (fun _ _ _ => False) from pass0) ha hdb he hpl) fun _ _ _ => imp_call
theorem ei_call (F : FnOk X.prog X.w X.K X.mg X.base CX0 k f fd ps (sp0 X.K ct rk G)) (hr : Room k X.A) (hg : Gl X x) (hm : X.mg x = some (.ref f)) (hk : PySem.W.keepIn X.K (.ref f) = true) (hb : Binds X.K fd ps []) (ha : AI X ct m (e :: es) gs)
    (hdb : (x == ("__debug__" : Str)) = false := by decide) (he : starEach (e :: es) X.env = (false, eval e X.env) :: starEach es X.env := by rfl) (hpl : (backTo pos (starEach es X.env)).any (·.1) = false := by rfl) :
    EI X ct m (.Call (.Name x p) (e :: es) [] pos) (iN G gs) rk :=
  pe_imp (pe_call F hr hg hm hk hb .nil (show Passes CX0 X (fun _ _ _ => False) from pass0) ha hdb he hpl) fun _ _ _ => imp_icall
/-- f(x, ..) that may change what slot i owns -/
def iCall (i : Nat) (G : D → List D → Option (D × D)) (gs : IFs) : IF := fun env => (pVar i env).bind fun _ => (gs env).bind fun p => (pVar i p.2).bind fun d0 => (G d0 p.1).map fun q => (q.1, p.2.set i (some q.2))
theorem ei_call1 (F : FnOk X.prog X.w X.K X.mg X.base CX0 k f fd ps (sp1 X.K ct rk ik ik G1)) (hr : Room k X.A) (hg : Gl X x) (hm : X.mg x = some (.ref f)) (hk : PySem.W.keepIn X.K (.ref f) = true) (hb : Binds X.K fd ps []) (h0 : PE X e (tVar i)) (hi : m[i]? = some ik) (ha : AI X ct m es gs)
    (hdb : (x == ("__debug__" : Str)) = false := by decide) (he : starEach (e :: es) X.env = (false, eval e X.env) :: starEach es X.env := by rfl) (hpl : (backTo pos (starEach es X.env)).any (·.1) = false := by rfl) :
    EI X ct m (.Call (.Name x p) (e :: es) [] pos) (iCall i G1 gs) rk :=
  pe_imp (pe_call F hr hg hm hk hb .nil (show Passes CX0 X (fun _ _ _ => False) from pass0) (pa_cons h0 ha he) hdb he hpl) fun σ H Q ⟨F, A, env, d, env', o, r, e, q⟩ => by
    obtain ⟨d00, e0, e⟩ := bind_some2 e
    obtain ⟨⟨ds, env1⟩, e1, e⟩ := bind_some2 e
    obtain ⟨d0, e2, e⟩ := bind_some2 e
    obtain ⟨⟨d', d1⟩, e3, e⟩ := map_some2 e
    cases e
    obtain ⟨v, hv, _⟩ := r.viewAt (bind_id e0)
    refine ⟨v, hv, F, A, env, ds, env1, o, r, e1, fun F' H' A' vs s o' r' w => ?_⟩
    obtain ⟨v', B, R, h1, h2, h3, h4, h5, back⟩ := r'.lend o' hi (bind_id e2)
    rw [hv] at h1
    cases h1
    refine ⟨F', B, v, vs, d0, ds, _, d1, List.append_nil _, h3, h2, w, e3, fun F2 H2 A2 B2 u s2 o2 w2 w3 => ?_⟩
    obtain ⟨A3, r3, s3, o3⟩ := back F2 H2 ik d1 A2 B2 s2 o2 w2
    rw [set_same hi] at r3
    exact q F2 H2 A3 B2 u (s.trans s3) o3 r3 w3
end

/-! ### methods of an owned list with frozen items -/
def VMod (r : V → List V → Hp → VK → Prop) (g : List D → List D → Option (D × List D)) : Prop :=
  ∀ (K : PySem.W.Frag) (ct : CT) (F H : Hp) (a : Addr) (xs ds : List D) (vs us : List V) (d : D) (ys : List D) (Q : VK), Sub F H → H a = some (.lst vs) → RelAll K ct F xs vs → RelAll K ct F ds us → g xs ds = some (d, ys) →
    (∀ v ws, Rel K ct F d v → RelAll K ct F ys ws → Q v (upd H a (.lst ws))) → r (.ref a) us H Q
def lstOf : D → Option (List D)
  | .lst xs => some xs
  | _ => none
def iMod (i : Nat) (g : List D → List D → Option (D × List D)) (gs : IFs) : IF := fun env => (pVar i env).bind fun _ => (gs env).bind fun p => (pVar i p.2).bind fun d0 => (lstOf d0).bind fun xs => (g xs p.1).map fun q => (q.1, p.2.set i (some (.lst q.2)))
section
variable {X : Cx} {ct : CT} {m : List OT} {i : Nat} {e e0 : Expr} {es : List Expr} {gs : IFs} {r : V → List V → Hp → VK → Prop} {g : List D → List D → Option (D × List D)}
theorem imp_mod {σ : St} {H : Hp} {Q : VK} (hv : VMod r g) (hi : m[i]? = some (.lst .fz)) (h : tI X.K ct m (iMod i g gs) .fz σ H Q) : tBM X.K "list" r (tVar i) (tIs X.K ct m gs) σ H Q := by
  obtain ⟨F, A, env, d, env', o, rr, e, q⟩ := h
  obtain ⟨d00, e0, e⟩ := bind_some2 e
  obtain ⟨⟨ds, env1⟩, e1, e⟩ := bind_some2 e
  obtain ⟨d0, e2, e⟩ := bind_some2 e
  obtain ⟨xs, e3, e⟩ := bind_some2 e
  obtain ⟨⟨d', ys⟩, e4, e⟩ := map_some2 e
  cases e
  obtain ⟨v0, B0, R0, g1, g2, _, _, _, _⟩ := rr.lend o hi (bind_id e0)
  cases g2 with
  | lst g2 g3 =>
    refine ⟨_, g1, .inl ⟨rfl, _, .of g2⟩, F, A, env, ds, env1, o, rr, e1, fun F' H' A' vs s o' r' w => ?_⟩
    obtain ⟨v', B, R, h1, h2, h3, h4, h5, back⟩ := r'.lend o' hi (bind_id e2)
    rw [g1] at h1
    cases h1
    cases h2 with
    | lst h2 h2' =>
      obtain ⟨hr2, rfl⟩ := OwnAll.fz' h2'
      cases e3
      refine hv X.K ct F' H' _ xs ds _ vs d' ys Q o'.sub h2 hr2 w e4 fun v ws w1 w2 => ?_
      obtain ⟨s2, o2⟩ := write_own (u := .lst ws) (u' := .lst ws) h3 List.mem_cons_self
      obtain ⟨A3, r3, s3, o3⟩ := back F' _ (.lst .fz) (.lst ys) _ [] (by rw [List.append_nil]; exact s2) (by rw [List.append_nil]; exact o2) (.lst (B := []) upd_same (OwnAll.of_fz w2))
      rw [set_same hi] at r3
      exact q F' _ A3 [] v (s.trans s3) o3 r3 (.fz w1)
theorem ei_mod (mk : ∀ to t, PE X e0 to → PA X es t → PE X e (tBM X.K "list" r to t)) (hv : VMod r g) (h0 : PE X e0 (tVar i)) (hi : m[i]? = some (.lst .fz)) (ha : AI X ct m es gs) : EI X ct m e (iMod i g gs) .fz :=
  pe_imp (mk _ _ h0 ha) fun _ _ _ => imp_mod hv hi
theorem imp_mod0 {σ : St} {H : Hp} {Q : VK} (hv : VMod r g) (hi : m[i]? = some (.lst .fz)) (h : tI X.K ct m (iMod i g isN) .fz σ H Q) : tBM0 X.K "list" r (tVar i) σ H Q := by
  obtain ⟨F, A, env, d, env', o, rr, e, q⟩ := h
  obtain ⟨d00, e0, e⟩ := bind_some2 e
  obtain ⟨⟨ds, env1⟩, e1, e⟩ := bind_some2 e
  cases e1
  obtain ⟨d0, e2, e⟩ := bind_some2 e
  obtain ⟨xs, e3, e⟩ := bind_some2 e
  obtain ⟨⟨d', ys⟩, e4, e⟩ := map_some2 e
  cases e
  obtain ⟨v', B, R, h1, h2, h3, h4, h5, back⟩ := rr.lend o hi (bind_id e2)
  cases h2 with
  | lst h2 h2' =>
    obtain ⟨hr2, rfl⟩ := OwnAll.fz' h2'
    cases e3
    refine ⟨_, h1, .inl ⟨rfl, _, .of h2⟩, hv X.K ct F H _ xs [] _ [] d' ys Q o.sub h2 hr2 .nil e4 fun v ws w1 w2 => ?_⟩
    obtain ⟨s2, o2⟩ := write_own (u := .lst ws) (u' := .lst ws) h3 List.mem_cons_self
    obtain ⟨A3, r3, s3, o3⟩ := back F _ (.lst .fz) (.lst ys) _ [] (by rw [List.append_nil]; exact s2) (by rw [List.append_nil]; exact o2) (.lst (B := []) upd_same (OwnAll.of_fz w2))
    rw [set_same hi] at r3
    exact q F _ A3 [] v s3 o3 r3 (.fz w1)
theorem ei_mod0 (mk : ∀ to, PE X e0 to → PE X e (tBM0 X.K "list" r to)) (hv : VMod r g) (h0 : PE X e0 (tVar i)) (hi : m[i]? = some (.lst .fz)) : EI X ct m e (iMod i g isN) .fz :=
  pe_imp (mk _ h0) fun _ _ _ => imp_mod0 hv hi
end
def gAppend : List D → List D → Option (D × List D)
  | xs, [y] => if xs.length < sizeLine then some (.non, xs ++ [y]) else none
  | _, _ => none
def gExtend : List D → List D → Option (D × List D)
  | xs, [.lst ys] => if xs.length + ys.length ≤ sizeLine then some (.non, xs ++ ys) else none
  | _, _ => none
def gPop : List D → List D → Option (D × List D)
  | xs, [] => (xs[xs.length - 1]?).map fun d => (d, xs.dropLast)
  | _, _ => none
def gPopAt : List D → List D → Option (D × List D)
  | xs, [.int i] => if -(2 ^ 63) ≤ i ∧ i < 2 ^ 63 then (ixN xs.length i).bind fun k => (xs[k]?).map fun d => (d, xs.eraseIdx k) else none
  | _, _ => none
def gRev : List D → List D → Option (D × List D)
  | xs, [] => some (.non, xs.reverse)
  | _, _ => none
def gClear : List D → List D → Option (D × List D)
  | _, [] => some (.non, [])
  | _, _ => none
def gSort : List D → List D → Option (D × List D)
  | xs, [] => (dInts xs).map fun ns => (.non, (isI ns).map .int)
  | _, _ => none
theorem vm_append : VMod rAppend gAppend := by
  intro K ct F H a xs ds vs us d ys Q s h w w1 e q
  match ds, e with
  | [y], e =>
    simp only [gAppend] at e
    split at e
    · rename_i hl
      cases e
      cases w1 with
      | cons h1 r1 =>
        cases r1
        exact ⟨a, vs, _, rfl, rfl, h, by rw [← w.len]; exact hl, q _ _ .non (w.app (.cons h1 .nil))⟩
    · cases e
theorem vm_extend : VMod rExtend gExtend := by
  intro K ct F H a xs ds vs us d ys Q s h w w1 e q
  match ds, e with
  | [.lst y], e =>
    simp only [gExtend] at e
    split at e
    · rename_i hl
      cases e
      cases w1 with
      | cons h1 r1 =>
        cases r1
        cases h1 with
        | lst h1 h2 => exact ⟨a, _, vs, _, rfl, rfl, h, s _ _ h1, by rw [← w.len, ← h2.len]; exact hl, q _ _ .non (w.app h2)⟩
    · cases e
theorem vm_pop : VMod rPop gPop := by
  intro K ct F H a xs ds vs us d ys Q s h w w1 e q
  match ds, e with
  | [], e =>
    simp only [gPop] at e
    obtain ⟨x, e1, e⟩ := map_some2 e
    cases e
    cases w1
    obtain ⟨v, h1, h2⟩ := w.get _ _ e1
    exact ⟨a, vs, v, rfl, rfl, h, by rw [← w.len]; exact h1, q _ _ h2 w.dropLast⟩
theorem vm_popAt : VMod rPopAt gPopAt := by
  intro K ct F H a xs ds vs us d ys Q s h w w1 e q
  match ds, e with
  | [.int i], e =>
    simp only [gPopAt] at e
    split at e
    · rename_i hl
      obtain ⟨k, e1, e⟩ := bind_some2 e
      obtain ⟨x, e2, e⟩ := map_some2 e
      cases e
      cases w1 with
      | cons h1 r1 =>
        cases r1
        cases h1
        obtain ⟨v, h3, h4⟩ := w.get _ _ e2
        rw [w.len] at e1
        exact ⟨a, vs, i, k, v, rfl, rfl, h, hl.1, hl.2, (ixN_seq e1).1, h3, q _ _ h4 (w.erase k)⟩
    · cases e
theorem vm_rev : VMod rReverse gRev := by
  intro K ct F H a xs ds vs us d ys Q s h w w1 e q
  match ds, e with
  | [], e =>
    cases e
    cases w1
    exact ⟨a, vs, rfl, rfl, h, q _ _ .non w.rev⟩
theorem vm_clear : VMod rClear gClear := by
  intro K ct F H a xs ds vs us d ys Q s h w w1 e q
  match ds, e with
  | [], e =>
    cases e
    cases w1
    exact ⟨a, vs, rfl, rfl, h, q _ _ .non .nil⟩
theorem vm_sort : VMod rSortI gSort := by
  intro K ct F H a xs ds vs us d ys Q s h w w1 e q
  match ds, e with
  | [], e =>
    simp only [gSort] at e
    obtain ⟨ns, e1, e⟩ := map_some2 e
    cases e
    cases w1
    have ex := dInts_eq e1
    subst ex
    have ev := relAll_ints_eq w
    subst ev
    refine ⟨a, ns, rfl, rfl, h, fun ns' hp hs => ?_⟩
    have en : ns' = isI ns := sorted_eq (hp.trans (isI_perm ns).symm) hs (isI_sorted ns)
    subst en
    exact q _ _ .non (relAll_ints _)
/-- x.append(e), items owned themselves -/
def iAppK (i : Nat) (g : IF) : IF := fun env => (pVar i env).bind fun _ => (g env).bind fun p => (pVar i p.2).bind fun d0 => (lstOf d0).bind fun xs => if xs.length < sizeLine then some (.non, p.2.set i (some (.lst (xs ++ [p.1])))) else none
theorem OwnAll.app {K : PySem.W.Frag} {ct : CT} {F H : Hp} {k : OT} : ∀ {ds es : List D} {vs us : List V} {B C : List Addr}, OwnAll K ct F H k ds vs B → OwnAll K ct F H k es us C → OwnAll K ct F H k (ds ++ es) (vs ++ us) (B ++ C)
  | _, _, _, _, _, _, .nil, q => q
  | _, _, _, _, _, _, .cons h r, q => by rw [List.append_assoc]; exact .cons h (OwnAll.app r q)
end T3

/-! T3, part f: what is walked; targets; comprehensions. -/
namespace T3
open PySem L2

/-- an iterator J over the data xs, while G holds of the heap -/
structure Itr3 (K : PySem.W.Frag) (ct : CT) (J : It) (F : Hp) (G : Hp → Prop) (xs : List D) : Prop where
  go : ∀ i H, i < xs.length → G H → J.go i H
  stop : ∀ H, G H → J.stop xs.length H
  yld : ∀ i H F' x H2, G H → Ok [] F' H → Sub F F' → J.yld i H x H2 → i < xs.length → ∃ F2 d, xs[i]? = some d ∧ Stp [] F' H [] F2 H2 ∧ Ok [] F2 H2 ∧ Rel K ct F2 d x
section
variable (K : PySem.W.Frag) (ct : CT) (m : List OT)
def tIt (f : IFs) : L2.TI := fun σ H R => ∃ F A env xs env', Ok A F H ∧ EnvR K ct F H m env σ A ∧ f env = some (xs, env') ∧
  ∀ F' H' A' J, Stp A F H A' F' H' → Ok A' F' H' → EnvR K ct F' H' m env' σ A' → Itr3 K ct J F' (fun H => Sub F' H) xs → R J H'
def tIv (f : PFs) : L2.TI := fun σ H R => ∃ F A env xs, Ok A F H ∧ EnvR K ct F H m env σ A ∧ f env = some xs ∧
  ∀ F' H' J, Stp [] F H [] F' H' → Ok [] F' H' → Itr3 K ct J F' (fun H => Sub H' H) xs → R J H'
end
abbrev IT (X : Cx) (ct : CT) (m : List OT) (tg e : Expr) (f : IFs) : Prop := PI X tg e (tIt X.K ct m f)
abbrev IV (X : Cx) (ct : CT) (m : List OT) (tg e : Expr) (f : PFs) : Prop := PI X tg e (tIv X.K ct m f)
theorem pi_imp {X : Cx} {tg e : Expr} {t t' : L2.TI} (h : PI X tg e t) (i : ∀ σ H R, t' σ H R → t σ H R) : PI X tg e t' := ⟨fun pins s σ H R I q => h.run pins s σ H R I (i σ H R q)⟩
theorem pi_or {X : Cx} {tg e : Expr} {t t' : L2.TI} (h : PI X tg e t) (h' : PI X tg e t') : PI X tg e (fun σ H R => t σ H R ∨ t' σ H R) := ⟨fun pins s σ H R I q => by
  rcases q with q | q
  · exact h.run pins s σ H R I q
  · exact h'.run pins s σ H R I q⟩
def seqOf : D → Option (List D)
  | .lst xs => some xs
  | .tup xs => some xs
  | .scr ns => some (ns.map .int)
  | _ => none
def itSeq (g : IF) : IFs := fun env => (g env).bind fun p => (seqOf p.1).map fun xs => (xs, p.2)
def ivSeq (f : PF) : PFs := fun env => (f env).bind seqOf
section
variable {K : PySem.W.Frag} {ct : CT} {F H : Hp}
theorem itr_list {a : Addr} {xs : List D} {vs : List V} {G : Hp → Prop} (r : RelAll K ct F xs vs) (h : ∀ H, G H → SqL K H a vs) : Itr3 K ct (Itl K a) F G xs := by
  refine ⟨fun i H hi g => ?_, fun H g => ⟨vs, h H g, by rw [r.len]; exact Nat.le_refl _⟩, fun i H F' x H2 g o s y hi => ?_⟩
  · obtain ⟨v, h1, _⟩ := r.get i xs[i] (List.getElem?_eq_getElem hi)
    exact ⟨vs, v, h H g, h1⟩
  · obtain ⟨rfl, y⟩ := y
    obtain ⟨d, h1, h2⟩ := r.get' i x (y vs (h _ g))
    exact ⟨F', d, h1, Stp.refl, o, h2.mono s⟩
theorem itr_tup {a : Addr} {xs : List D} {vs : List V} {G : Hp → Prop} (r : RelAll K ct F xs vs) (h : ∀ H, G H → SqT K H a vs) : Itr3 K ct (Itt K a) F G xs := by
  refine ⟨fun i H hi g => ?_, fun H g => ⟨vs, h H g, by rw [r.len]; exact Nat.le_refl _⟩, fun i H F' x H2 g o s y hi => ?_⟩
  · obtain ⟨v, h1, _⟩ := r.get i xs[i] (List.getElem?_eq_getElem hi)
    exact ⟨vs, v, h H g, h1⟩
  · obtain ⟨rfl, y⟩ := y
    obtain ⟨d, h1, h2⟩ := r.get' i x (y vs (h _ g))
    exact ⟨F', d, h1, Stp.refl, o, h2.mono s⟩
def upI (lo : Int) (n : Nat) : List D := (List.range n).map fun (i : Nat) => D.int (lo + (i : Int))
def dnI (lo : Int) (n : Nat) : List D := (List.range n).map fun (i : Nat) => D.int (lo + (i : Int) * (-1))
theorem itr_up {lo : Int} {n : Nat} {G : Hp → Prop} : Itr3 K ct (Itr lo n) F G (upI lo n) := by
  have hl : (upI lo n).length = n := by simp [upI]
  refine ⟨fun i H hi g => by rw [hl] at hi; exact hi, fun H g => Nat.le_of_eq hl.symm, fun i H F' x H2 g o s y hi => ?_⟩
  obtain ⟨rfl, rfl⟩ := y
  rw [hl] at hi
  exact ⟨F', .int (lo + i), by simp [upI, hi], Stp.refl, o, .int _⟩
theorem itr_dn {lo : Int} {n : Nat} {G : Hp → Prop} : Itr3 K ct (Itc lo (-1) n) F G (dnI lo n) := by
  have hl : (dnI lo n).length = n := by simp [dnI]
  refine ⟨fun i H hi g => by rw [hl] at hi; exact hi, fun H g => Nat.le_of_eq hl.symm, fun i H F' x H2 g o s y hi => ?_⟩
  obtain ⟨rfl, rfl⟩ := y
  rw [hl] at hi
  exact ⟨F', .int (lo + (i : Nat) * (-1)), by simp [dnI, hi], Stp.refl, o, .int _⟩
end
section
variable {X : Cx} {ct : CT} {m : List OT} {tg e a b c : Expr} {g : IF} {f : PF} {gs : IFs} {fs : PFs} {p pos : Pos}
theorem it_seq (h : EI X ct m e g .fz) : IT X ct m tg e (itSeq g) := pi_imp (pi_or (pi_list h) (pi_tup h)) fun σ H R ⟨F, A, env, xs, env', o, r, e, q⟩ => by
  obtain ⟨⟨d, env1⟩, e1, e⟩ := bind_some2 e
  obtain ⟨xs', e2, e⟩ := map_some2 e
  cases e
  cases d <;> simp only [seqOf] at e2 <;> first | (cases e2; done) | skip
  · cases e2
    refine .inl ⟨F, A, env, _, _, o, r, e1, fun F' H' A' B v s o' r' w => ?_⟩
    cases w with
    | fz w =>
      rw [List.append_nil] at s o'
      cases w with
      | lst h r2 => exact ⟨_, rfl, ⟨_, .of (o'.sub _ _ h)⟩, q F' H' A' _ s o' r' (itr_list r2 fun H g => .of (g _ _ h))⟩
  · cases e2
    refine .inr ⟨F, A, env, _, _, o, r, e1, fun F' H' A' B v s o' r' w => ?_⟩
    cases w with
    | fz w =>
      rw [List.append_nil] at s o'
      cases w with
      | tup h r2 => exact ⟨_, rfl, ⟨_, sqT_mono o'.sub h⟩, q F' H' A' _ s o' r' (itr_tup r2 fun H g => sqT_mono g h)⟩
  · cases e2
    refine .inl ⟨F, A, env, _, _, o, r, e1, fun F' H' A' B v s o' r' w => ?_⟩
    cases w with
    | fz w =>
      rw [List.append_nil] at s o'
      cases w with
      | scr h => exact ⟨_, rfl, ⟨_, sqL_mono o'.sub h⟩, q F' H' A' _ s o' r' (itr_list (relAll_ints _) fun H g => sqL_mono g h)⟩
theorem iv_seq (h : EW X ct m e f) : IV X ct m tg e (ivSeq f) := pi_imp (pi_or (pi_list h) (pi_tup h)) fun σ H R ⟨F, A, env, xs, o, r, e, q⟩ => by
  obtain ⟨d, e1, e2⟩ := bind_some2 e
  cases d <;> simp only [seqOf] at e2 <;> first | (cases e2; done) | skip
  · cases e2
    refine .inl ⟨F, A, env, _, o, r, e1, fun F' H' v s o' w => ?_⟩
    obtain ⟨a, vs, rfl, h, r2⟩ := wv_lst o'.sub w
    exact ⟨_, rfl, ⟨_, .of h⟩, q F' H' _ s o' (itr_list r2 fun H g => .of (g _ _ h))⟩
  · cases e2
    refine .inr ⟨F, A, env, _, o, r, e1, fun F' H' v s o' w => ?_⟩
    obtain ⟨a, vs, rfl, h, hf, r2⟩ := wv_tup o'.sub w
    exact ⟨_, rfl, ⟨_, h⟩, q F' H' _ s o' (itr_tup r2 fun H g => sqT_mono g h)⟩
  · cases e2
    refine .inl ⟨F, A, env, _, o, r, e1, fun F' H' v s o' w => ?_⟩
    obtain ⟨a, rfl, h⟩ := wv_scr o'.sub w
    exact ⟨_, rfl, ⟨_, h⟩, q F' H' _ s o' (itr_list (relAll_ints _) fun H g => sqL_mono g h)⟩
def ok62 (i : Int) : Bool := decide (-(2 ^ 62) ≤ i) && decide (i < 2 ^ 62)
def rng1 : List D → Option (List D)
  | [.int j] => if ok62 j = true then some (upI 0 j.toNat) else none
  | _ => none
def rng2 : List D → Option (List D)
  | [.int i, .int j] => if (ok62 i && ok62 j) = true then some (upI i (j - i).toNat) else none
  | _ => none
def rng3 : List D → Option (List D)
  | [.int i, .int j, .int c] => if (ok62 i && ok62 j && decide (c = -1)) = true then some (dnI i (i - j).toNat) else none
  | _ => none
def itN (g : List D → Option (List D)) (fs : IFs) : IFs := fun env => (fs env).bind fun p => (g p.1).map fun xs => (xs, p.2)
def ivN (g : List D → Option (List D)) (fs : PFs) : PFs := fun env => (fs env).bind g
theorem ok62_is {i : Int} (h : ok62 i = true) : -(2 ^ 62) ≤ i ∧ i < 2 ^ 62 := by
  unfold ok62 at h
  rw [Bool.and_eq_true] at h
  exact ⟨of_decide_eq_true h.1, of_decide_eq_true h.2⟩
theorem it_range1 (hg : Gl X "range") (hm : X.mg "range" = none) (ha : AI X ct m [a] gs) (hs : starEach [a] X.env = [(false, eval a X.env)] := by rfl) : IT X ct m tg (.Call (.Name "range" p) [a] [] pos) (itN rng1 gs) :=
  pi_imp (pi_range1 hg hm ha hs) fun σ H R ⟨F, A, env, xs, env', o, r, e, q⟩ => by
    obtain ⟨⟨ds, env1⟩, e1, e⟩ := bind_some2 e
    obtain ⟨xs', e2, e⟩ := map_some2 e
    cases e
    refine ⟨F, A, env, ds, env1, o, r, e1, fun F' H' A' vs s o' r' w => ?_⟩
    match ds, e2, w with
    | [.int j], e2, .cons (.int _) .nil =>
      simp only [rng1] at e2
      split at e2
      · rename_i h
        cases e2
        exact ⟨j, rfl, (ok62_is h).1, (ok62_is h).2, q F' H' A' _ s o' r' itr_up⟩
      · cases e2
theorem iv_range1 (hg : Gl X "range") (hm : X.mg "range" = none) (ha : AF X ct m [a] fs) (hs : starEach [a] X.env = [(false, eval a X.env)] := by rfl) : IV X ct m tg (.Call (.Name "range" p) [a] [] pos) (ivN rng1 fs) :=
  pi_imp (pi_range1 hg hm ha hs) fun σ H R ⟨F, A, env, xs, o, r, e, q⟩ => by
    obtain ⟨ds, e1, e2⟩ := bind_some2 e
    refine ⟨F, A, env, ds, o, r, e1, fun F' H' vs s o' w => ?_⟩
    match ds, e2, w with
    | [.int j], e2, .cons (.int _) .nil =>
      simp only [rng1] at e2
      split at e2
      · rename_i h
        cases e2
        exact ⟨j, rfl, (ok62_is h).1, (ok62_is h).2, q F' H' _ s o' itr_up⟩
      · cases e2
theorem it_range2 (hg : Gl X "range") (hm : X.mg "range" = none) (ha : AI X ct m [a, b] gs) (hs : starEach [a, b] X.env = [(false, eval a X.env), (false, eval b X.env)] := by rfl) (hs2 : starEach [b] X.env = [(false, eval b X.env)] := by rfl) : IT X ct m tg (.Call (.Name "range" p) [a, b] [] pos) (itN rng2 gs) :=
  pi_imp (pi_range2 hg hm ha hs hs2) fun σ H R ⟨F, A, env, xs, env', o, r, e, q⟩ => by
    obtain ⟨⟨ds, env1⟩, e1, e⟩ := bind_some2 e
    obtain ⟨xs', e2, e⟩ := map_some2 e
    cases e
    refine ⟨F, A, env, ds, env1, o, r, e1, fun F' H' A' vs s o' r' w => ?_⟩
    match ds, e2, w with
    | [.int i, .int j], e2, .cons (.int _) (.cons (.int _) .nil) =>
      simp only [rng2] at e2
      split at e2
      · rename_i h
        rw [Bool.and_eq_true] at h
        cases e2
        exact ⟨i, j, rfl, ⟨(ok62_is h.1).1, (ok62_is h.1).2, (ok62_is h.2).1, (ok62_is h.2).2⟩, q F' H' A' _ s o' r' itr_up⟩
      · cases e2
theorem iv_range2 (hg : Gl X "range") (hm : X.mg "range" = none) (ha : AF X ct m [a, b] fs) (hs : starEach [a, b] X.env = [(false, eval a X.env), (false, eval b X.env)] := by rfl) (hs2 : starEach [b] X.env = [(false, eval b X.env)] := by rfl) : IV X ct m tg (.Call (.Name "range" p) [a, b] [] pos) (ivN rng2 fs) :=
  pi_imp (pi_range2 hg hm ha hs hs2) fun σ H R ⟨F, A, env, xs, o, r, e, q⟩ => by
    obtain ⟨ds, e1, e2⟩ := bind_some2 e
    refine ⟨F, A, env, ds, o, r, e1, fun F' H' vs s o' w => ?_⟩
    match ds, e2, w with
    | [.int i, .int j], e2, .cons (.int _) (.cons (.int _) .nil) =>
      simp only [rng2] at e2
      split at e2
      · rename_i h
        rw [Bool.and_eq_true] at h
        cases e2
        exact ⟨i, j, rfl, ⟨(ok62_is h.1).1, (ok62_is h.1).2, (ok62_is h.2).1, (ok62_is h.2).2⟩, q F' H' _ s o' itr_up⟩
      · cases e2
theorem it_range3 (hg : Gl X "range") (hm : X.mg "range" = none) (ha : AI X ct m [a, b, c] gs) (hs : starEach [a, b, c] X.env = (false, eval a X.env) :: starEach [b, c] X.env := by rfl) (hpl : (backTo pos (starEach [b, c] X.env)).any (·.1) = false := by rfl) : IT X ct m tg (.Call (.Name "range" p) [a, b, c] [] pos) (itN rng3 gs) :=
  pi_imp (pi_range3 hg hm ha hs hpl) fun σ H R ⟨F, A, env, xs, env', o, r, e, q⟩ => by
    obtain ⟨⟨ds, env1⟩, e1, e⟩ := bind_some2 e
    obtain ⟨xs', e2, e⟩ := map_some2 e
    cases e
    refine ⟨F, A, env, ds, env1, o, r, e1, fun F' H' A' vs s o' r' w => ?_⟩
    match ds, e2, w with
    | [.int i, .int j, .int c], e2, .cons (.int _) (.cons (.int _) (.cons (.int _) .nil)) =>
      simp only [rng3] at e2
      split at e2
      · rename_i h
        rw [Bool.and_eq_true, Bool.and_eq_true] at h
        cases e2
        have hc : c = -1 := of_decide_eq_true h.2
        subst hc
        exact ⟨i, j, -1, _, rfl, .neg (ok62_is h.1.1).1 (ok62_is h.1.1).2 (ok62_is h.1.2).1 (ok62_is h.1.2).2, q F' H' A' _ s o' r' itr_dn⟩
      · cases e2
theorem iv_range3 (hg : Gl X "range") (hm : X.mg "range" = none) (ha : AF X ct m [a, b, c] fs) (hs : starEach [a, b, c] X.env = (false, eval a X.env) :: starEach [b, c] X.env := by rfl) (hpl : (backTo pos (starEach [b, c] X.env)).any (·.1) = false := by rfl) : IV X ct m tg (.Call (.Name "range" p) [a, b, c] [] pos) (ivN rng3 fs) :=
  pi_imp (pi_range3 hg hm ha hs hpl) fun σ H R ⟨F, A, env, xs, o, r, e, q⟩ => by
    obtain ⟨ds, e1, e2⟩ := bind_some2 e
    refine ⟨F, A, env, ds, o, r, e1, fun F' H' vs s o' w => ?_⟩
    match ds, e2, w with
    | [.int i, .int j, .int c], e2, .cons (.int _) (.cons (.int _) (.cons (.int _) .nil)) =>
      simp only [rng3] at e2
      split at e2
      · rename_i h
        rw [Bool.and_eq_true, Bool.and_eq_true] at h
        cases e2
        have hc : c = -1 := of_decide_eq_true h.2
        subst hc
        exact ⟨i, j, -1, _, rfl, .neg (ok62_is h.1.1).1 (ok62_is h.1.1).2 (ok62_is h.1.2).1 (ok62_is h.1.2).2, q F' H' _ s o' itr_dn⟩
      · cases e2
end

/-! ### targets -/
inductive Tg where
  | nm (i : Nat)
  | tp (is : List Nat)
def Tg.slots : Tg → List Nat
  | .nm i => [i]
  | .tp is => is
def bindL3 : List Nat → List D → Env → Option Env
  | [], [], env => some env
  | i :: is, d :: ds, env => bindL3 is ds (env.set i (some d))
  | _, _, _ => none
def bindT : Tg → D → Env → Option Env
  | .nm i, d, env => some (env.set i (some d))
  | .tp is, .tup ds, env => bindL3 is ds env
  | _, _, _ => none
def tG (K : PySem.W.Frag) (ct : CT) (m : List OT) (t : Tg) : L2.TG := fun v σ H Q => ∃ F A env d env', Ok A F H ∧ EnvR K ct F H m env σ A ∧ Rel K ct F d v ∧ bindT t d env = some env' ∧
  ∀ σ' A', A'.Perm A → EnvR K ct F H m env' σ' A' → σ'.length = σ.length → (∀ j, j ∉ t.slots → σ'[j]? = σ[j]?) → Q σ' H
abbrev GJ (X : Cx) (ct : CT) (m : List OT) (tg : Expr) (t : Tg) : Prop := PG X tg (tG X.K ct m t)
theorem pg_imp {X : Cx} {e : Expr} {t t' : L2.TG} (h : PG X e t) (i : ∀ v σ H Q, t' v σ H Q → t v σ H Q) : PG X e t' := ⟨fun pins s σ H v u Q I r q => h.run pins s σ H v u Q I r (i v σ H Q q)⟩
section
variable {K : PySem.W.Frag} {ct : CT} {m : List OT} {F H : Hp} {A : List Addr} {env : Env} {σ : St}
theorem EnvR.set_ (r : EnvR K ct F H m env σ A) {i : Nat} {e' : Option D} {o' : Option V} (hm : m[i]? = some .fz) (h : SlotR K ct F H .fz e' o' []) : ∃ A', A'.Perm A ∧ EnvR K ct F H m (env.set i e') (σ.set i o') A' := by
  obtain ⟨e, o, B, R, h1, h2, p, sl, th, up⟩ := r.at_ i _ hm
  obtain ⟨A', p', r'⟩ := up F H .fz e' o' [] (fun _ _ h => h) (fun _ _ _ h => h) h
  rw [set_same hm] at r'
  have eB : B = [] := by
    cases e with
    | none => exact sl
    | some d =>
      obtain ⟨v, _, w⟩ := sl
      cases w
      rfl
  subst eB
  exact ⟨A', p'.trans p.symm, r'⟩
theorem EnvR.bind1 (r : EnvR K ct F H m env σ A) {i : Nat} {d : D} {v : V} (hm : m[i]? = some .fz) (h : Rel K ct F d v) : ∃ A', A'.Perm A ∧ EnvR K ct F H m (env.set i (some d)) (σ.set i (some v)) A' :=
  r.set_ hm ⟨v, rfl, .fz h⟩
def gL : List Nat → L2.TGs
  | [] => gNil
  | i :: is => gCons (gName i) (gL is)
theorem bind_gL : ∀ {is : List Nat} {ds : List D} {vs : List V} {env env' : Env} {σ : St} {A : List Addr} {Q : St → Hp → Prop}, EnvR K ct F H m env σ A → (∀ i ∈ is, m[i]? = some .fz) → RelAll K ct F ds vs → bindL3 is ds env = some env' →
    (∀ σ' A', A'.Perm A → EnvR K ct F H m env' σ' A' → σ'.length = σ.length → (∀ j, j ∉ is → σ'[j]? = σ[j]?) → Q σ' H) → gL is vs σ H Q
  | [], ds, vs, env, env', σ, A, Q, r, hm, w, e, q => by
    cases w with
    | nil =>
      cases e
      exact ⟨rfl, q σ A (.refl _) r rfl fun _ _ => rfl⟩
    | cons _ _ => cases e
  | i :: is, ds, vs, env, env', σ, A, Q, r, hm, w, e, q => by
    cases w with
    | nil => cases e
    | @cons d v ds vs h w =>
      obtain ⟨A1, p1, r1⟩ := r.bind1 (hm i List.mem_cons_self) h
      refine ⟨v, vs, rfl, bind_gL r1 (fun j hj => hm j (List.mem_cons_of_mem _ hj)) w e fun σ' A' p' r' hl hs => q σ' A' (p'.trans p1) r' (by rw [hl, List.length_set]) fun j hj => ?_⟩
      rw [hs j fun z => hj (List.mem_cons_of_mem _ z), List.getElem?_set_ne fun z => hj (by rw [z]; exact List.mem_cons_self)]
end
section
variable {X : Cx} {ct : CT} {m : List OT} {tg : Expr} {es : List Expr} {kk n i : Nat} {pos : Pos} {is : List Nat}
theorem gj_nm (h : PG X tg (gName i)) (hm : m[i]? = some .fz) : GJ X ct m tg (.nm i) := pg_imp h fun v σ H Q ⟨F, A, env, d, env', o, r, w, e, q⟩ => by
  cases e
  obtain ⟨A', p, r'⟩ := r.bind1 hm w
  exact q _ A' p r' (List.length_set ..) fun j hj => List.getElem?_set_ne fun z => hj (by rw [z]; exact List.mem_cons_self)
theorem gj_tp (hc : X.calm = true) (h : PGs X es (gL is)) (hm : ∀ i ∈ is, m[i]? = some .fz) (hn : (assignEach es X.env).length = is.length := by rfl) (hst : (assignEach es X.env).findIdx? (·.1) = none := by rfl) : GJ X ct m (.Tuple es kk pos) (.tp is) :=
  pg_imp (pg_tup hc h hn hst) fun v σ H Q ⟨F, A, env, d, env', o, r, w, e, q⟩ => by
    cases d <;> simp only [bindT] at e <;> first | (cases e; done) | skip
    rename_i ds
    obtain ⟨a, vs, ev, h, w2⟩ : ∃ a vs, v = .ref a ∧ SqT X.K F a vs ∧ RelAll X.K ct F ds vs := by
      cases w with
      | tup h w => exact ⟨_, _, rfl, h, w⟩
    subst ev
    have hl : ∀ {is : List Nat} {ds : List D} {env : Env}, bindL3 is ds env = some env' → ds.length = is.length := by
      intro is
      induction is with
      | nil => intro ds env e; cases ds with
        | nil => rfl
        | cons _ _ => cases e
      | cons i is ih => intro ds env e; cases ds with
        | nil => cases e
        | cons d ds => simp only [bindL3] at e; rw [List.length_cons, List.length_cons, ih e]
    exact ⟨a, vs, rfl, sqT_mono o.sub h, by rw [← w2.len]; exact hl e, bind_gL r hm w2 e q⟩
end

/-! ### the block's own names forgotten and found again -/
def wipeE (env : Env) : List Nat → Env
  | [] => env
  | v :: vs => (wipeE env vs).set v none
def backE (env old : Env) : List Nat → Env
  | [] => env
  | v :: vs => (backE env old vs).set v ((old[v]?).bind id)
def backS (σ old : St) : List Nat → St
  | [] => σ
  | v :: vs => (backS σ old vs).set v ((old[v]?).bind id)
section
variable {K : PySem.W.Frag} {ct : CT} {m : List OT} {F F' H H' : Hp} {A A' : List Addr} {env envL : Env} {σ σL : St}
theorem EnvR.wiped : ∀ (own : List Nat), (∀ v ∈ own, m[v]? = some .fz) → EnvR K ct F H m env σ A → ∃ A', A'.Perm A ∧ EnvR K ct F H m (wipeE env own) (wipe σ own) A'
  | [], _, r => ⟨A, .refl _, r⟩
  | v :: vs, hm, r => by
    obtain ⟨A1, p1, r1⟩ := EnvR.wiped vs (fun j hj => hm j (List.mem_cons_of_mem _ hj)) r
    obtain ⟨A2, p2, r2⟩ := r1.set_ (i := v) (e' := none) (o' := none) (hm v List.mem_cons_self) rfl
    exact ⟨A2, p2.trans p1, r2⟩
theorem EnvR.slotFz (r : EnvR K ct F H m env σ A) {i : Nat} (hm : m[i]? = some .fz) (s : Sub F F') : SlotR K ct F' H' .fz ((env[i]?).bind id) ((σ[i]?).bind id) [] := by
  obtain ⟨e, o, B, R, h1, h2, p, sl, th, up⟩ := r.at_ i _ hm
  rw [h1, h2]
  cases e with
  | none => exact rfl
  | some d =>
    obtain ⟨v, rfl, w⟩ := sl
    cases w with
    | fz w => exact ⟨v, rfl, .fz (w.mono s)⟩
theorem EnvR.backed (ro : EnvR K ct F H m env σ A) (s : Sub F F') : ∀ (own : List Nat), (∀ v ∈ own, m[v]? = some .fz) → EnvR K ct F' H' m envL σL A' → ∃ A'', A''.Perm A' ∧ EnvR K ct F' H' m (backE envL env own) (backS σL σ own) A''
  | [], _, r => ⟨A', .refl _, r⟩
  | v :: vs, hm, r => by
    obtain ⟨A1, p1, r1⟩ := EnvR.backed ro s vs (fun j hj => hm j (List.mem_cons_of_mem _ hj)) r
    obtain ⟨A2, p2, r2⟩ := r1.set_ (i := v) (hm v List.mem_cons_self) (ro.slotFz (hm v List.mem_cons_self) s)
    exact ⟨A2, p2.trans p1, r2⟩
theorem wipe_get {σ : St} {j : Nat} : ∀ {vs : List Nat}, j ∉ vs → (wipe σ vs)[j]? = σ[j]?
  | [], _ => rfl
  | v :: vs, h => by
    unfold wipe
    rw [List.getElem?_set_ne fun z => h (by rw [z]; exact List.mem_cons_self)]
    exact wipe_get fun z => h (List.mem_cons_of_mem _ z)
theorem wipe_in {σ : St} {j : Nat} : ∀ {vs : List Nat}, j ∈ vs → j < σ.length → (wipe σ vs)[j]? = some none
  | v :: vs, h, hl => by
    unfold wipe
    by_cases e : v = j
    · subst e
      rw [List.getElem?_set_self (by rw [wipe_length]; exact hl)]
    · rw [List.getElem?_set_ne e]
      exact wipe_in ((List.mem_cons.mp h).resolve_left fun z => e z.symm) hl
theorem wipe_eq {σ σ' : St} {own : List Nat} (hl : σ'.length = σ.length) (h : ∀ j, j ∉ own → σ'[j]? = σ[j]?) : wipe σ' own = wipe σ own := by
  refine List.ext_getElem? fun j => ?_
  by_cases hj : j ∈ own
  · by_cases hs : j < σ.length
    · rw [wipe_in hj hs, wipe_in hj (by rw [hl]; exact hs)]
    · rw [List.getElem?_eq_none (by rw [wipe_length]; omega), List.getElem?_eq_none (by rw [wipe_length]; omega)]
  · rw [wipe_get hj, wipe_get hj, h j hj]
theorem backS_len {σ old : St} : ∀ {vs : List Nat}, (backS σ old vs).length = σ.length
  | [] => rfl
  | v :: vs => by unfold backS; rw [List.length_set, backS_len]
theorem backS_out {σ old : St} {j : Nat} : ∀ {vs : List Nat}, j ∉ vs → (backS σ old vs)[j]? = σ[j]?
  | [], _ => rfl
  | v :: vs, h => by
    unfold backS
    rw [List.getElem?_set_ne fun z => h (by rw [z]; exact List.mem_cons_self)]
    exact backS_out fun z => h (List.mem_cons_of_mem _ z)
theorem backS_in {σ old : St} {j : Nat} : ∀ {vs : List Nat}, j ∈ vs → j < σ.length → (backS σ old vs)[j]? = some ((old[j]?).bind id)
  | v :: vs, h, hl => by
    unfold backS
    by_cases e : v = j
    · subst e
      rw [List.getElem?_set_self (by rw [backS_len]; exact hl)]
    · rw [List.getElem?_set_ne e]
      exact backS_in ((List.mem_cons.mp h).resolve_left fun z => e z.symm) hl
theorem backS_eq {σ old : St} {own : List Nat} (hw : wipe σ own = wipe old own) : backS σ old own = old := by
  have hl : σ.length = old.length := by
    have := congrArg List.length hw
    rwa [wipe_length, wipe_length] at this
  refine List.ext_getElem? fun j => ?_
  by_cases hj : j ∈ own
  · by_cases hs : j < σ.length
    · rw [backS_in hj hs, List.getElem?_eq_getElem (show j < old.length by omega)]
      rfl
    · rw [List.getElem?_eq_none (by rw [backS_len]; omega), List.getElem?_eq_none (by omega)]
  · rw [backS_out hj, ← wipe_get hj, hw, wipe_get hj]
end

/-! ### comprehensions -/
def compP (t : PB) (e : PF) (bnd : D → Env → Option Env) (env0 : Env) : List D → Option (List D)
  | [] => some []
  | x :: xs => (bnd x env0).bind fun env1 => (t env1).bind fun b => if b = true then (e env1).bind fun y => (compP t e bnd env0 xs).map fun ys => y :: ys else compP t e bnd env0 xs
def pComp (fi : PFs) (own : List Nat) (tg : Tg) (t : PB) (e : PF) : PF := fun env => (fi env).bind fun xs => if xs.length < sizeLine then (compP t e (bindT tg) (wipeE env own) xs).map .lst else none
def compI (t : IB) (e : IF) (bnd : D → Env → Option Env) (own : List Nat) : List D → Env → Option (List D × Env)
  | [], env => some ([], env)
  | x :: xs, env => (bnd x (wipeE env own)).bind fun env1 => (t env1).bind fun c => if c.1 = true then (e c.2).bind fun p => (compI t e bnd own xs p.2).map fun q => (p.1 :: q.1, q.2) else compI t e bnd own xs c.2
def iComp (fi : IFs) (own : List Nat) (tg : Tg) (t : IB) (e : IF) : IF := fun env => (fi env).bind fun p => if p.1.length < sizeLine then (compI t e (bindT tg) own p.1 p.2).map fun q => (.lst q.1, backE q.2 env own) else none
section
variable {K : PySem.W.Frag} {ct : CT} {m : List OT} {σ : St} {H : Hp} {Q : VK} {fi : PFs} {gi : IFs} {own : List Nat} {tg : Tg} {t : PB} {e : PF} {u : IB} {g : IF} {k : OT}
theorem imp_lc (hm : ∀ v ∈ own, m[v]? = some .fz) (ho : ∀ i ∈ tg.slots, i ∈ own) (h : tP K ct m (pComp fi own tg t e) (.lst k) σ H Q) : tLc (tIv K ct m fi) (tG K ct m tg) (tTP K ct m t) (tP K ct m e k) own σ H Q := by
  obtain ⟨F, A, env, d, o, r, ee, q⟩ := h
  obtain ⟨xs, e1, ee⟩ := bind_some2 ee
  split at ee
  · rename_i hz
    obtain ⟨zs, e2, ee⟩ := map_some2 ee
    subst ee
    refine ⟨F, A, env, xs, o, r, e1, fun F1 H1 J s1 o1 it D hD => ?_⟩
    obtain ⟨r1, _, oA, _, _⟩ := r.pure o s1 o1
    obtain ⟨A0, p0, r0⟩ := r1.wiped own hm
    have oA0 : Ok A0 F1 H1 := oA.perm p0.symm
    let Pv : Nat → Hp → Prop := fun i Hi => ∃ F2 zs1 zs2 us B, zs = zs1 ++ zs2 ∧ compP t e (bindT tg) (wipeE env own) (xs.drop i) = some zs2 ∧ zs1.length ≤ i ∧ Hi D = some (.lst us) ∧ OwnAll K ct F2 Hi k zs1 us B ∧ Stp [] F1 H1 (D :: B) F2 Hi ∧ Ok (D :: B) F2 Hi
    refine ⟨fun i n Hi => n = xs.length - i ∧ i ≤ xs.length ∧ Pv i Hi, ⟨xs.length, by simp, Nat.zero_le _, ?_⟩, ?_⟩
    · obtain ⟨s2, o2, _⟩ := new_own (u := .lst []) o1 hD
      exact ⟨F1, [], zs, [], [], rfl, e2, Nat.le_refl _, upd_same, .nil, s2, o2⟩
    · rintro i n Hi ⟨rfl, hi, F2, zs1, zs2, us, B, ez, ec, hl1, hd, w, s2, o2⟩
      have sH : Sub H1 Hi := s2.same
      by_cases hlt : i < xs.length
      · refine .inr ⟨it.go i Hi hlt sH, fun H' => i + 1 ≤ xs.length ∧ Pv (i + 1) H', fun H' p' => ⟨xs.length - (i + 1), by omega, rfl, p'.1, p'.2⟩, fun x H3 y => ?_⟩
        obtain ⟨F3, dx, hx, s3, o3, wx⟩ := it.yld i Hi F2 x H3 sH o2.nil s2.fs y hlt
        obtain ⟨r2, _, oA2, _, _⟩ := r0.pure oA0 (s2.trans (s3.weak (A1 := D :: B) (A2 := D :: B) (fun _ z => nomatch z) fun a z => .inr z)) (by
          obtain ⟨_, o4, _⟩ := Stp.frame (A1 := []) (A2 := D :: B) s3 (by exact o2) o3 (fun b hb => by
            rcases List.mem_cons.mp hb with rfl | hb
            · exact ⟨_, hd⟩
            · exact w.there b hb)
          exact o4)
        have edrop : xs.drop i = dx :: xs.drop (i + 1) := by
          rw [List.drop_eq_getElem_cons hlt]
          rw [List.getElem?_eq_getElem hlt] at hx
          rw [Option.some.inj hx]
        rw [edrop, compP] at ec
        obtain ⟨env1, eb, ec⟩ := bind_some2 ec
        obtain ⟨b, et, ec⟩ := bind_some2 ec
        refine ⟨F3, A0, wipeE env own, dx, env1, oA2, r2, wx, eb, fun σ1 A1 p1 r3 hls hsl => ⟨?_, ?_⟩⟩
        · rw [wipe_eq (own := own) hls fun j hj => hsl j fun z => hj (ho j z)]
          refine wipe_eq (wipe_length _ _) fun j hj => wipe_get hj
        · refine ⟨F3, A1, env1, b, oA2.perm p1.symm, r3, et, fun F4 H4 s4 o4 => ?_⟩
          -- what stands at D and behind
          have keep : ∀ {Fn Hn : Hp} {Bn : List Addr}, Stp [] F2 Hi Bn Fn Hn → Ok Bn Fn Hn → Stp [] F1 H1 (Bn ++ D :: B) Fn Hn ∧ Ok (Bn ++ D :: B) Fn Hn ∧ Hn D = some (.lst us) ∧ OwnAll K ct Fn Hn k zs1 us B := fun sn on => by
            obtain ⟨s5, o5, kp⟩ := Stp.frame (A1 := []) (A2 := D :: B) sn (by exact o2) on (fun b hb => by
              rcases List.mem_cons.mp hb with rfl | hb
              · exact ⟨_, hd⟩
              · exact w.there b hb)
            exact ⟨s2.trans s5, o5, kp D List.mem_cons_self _ hd, w.mono sn.fs fun b hb => kp b (List.mem_cons_of_mem _ hb)⟩
          cases b with
          | false =>
            simp only [Bool.false_eq_true, if_false] at ec ⊢
            obtain ⟨s5, o5, h5, w5⟩ := keep (s3.trans s4) o4
            exact ⟨hlt, F4, zs1, zs2, us, B, ez, ec, by omega, h5, w5, s5, o5⟩
          | true =>
            simp only [if_true] at ec ⊢
            obtain ⟨y1, ey, ec⟩ := bind_some2 ec
            obtain ⟨ys, eys, ec⟩ := map_some2 ec
            obtain ⟨r4, _, oA4, _, _⟩ := r3.pure (oA2.perm p1.symm) s4 o4
            refine ⟨F4, A1, env1, y1, oA4, r4, ey, fun F5 H5 B5 v5 s5 o5 w5 => ?_⟩
            obtain ⟨s6, o6, h6, w6⟩ := keep ((s3.trans s4).trans s5) o5
            refine ⟨us, h6, by rw [← w.len]; omega, hlt, F5, zs1 ++ [y1], ys, us ++ [v5], B ++ B5, by rw [ez, ← ec, List.append_assoc]; rfl, eys, by rw [List.length_append, List.length_singleton]; omega, upd_same, ?_, ?_, ?_⟩
            · have nD : D ∉ B5 := fun z => o6.apart z List.mem_cons_self
              have nB : D ∉ B := (List.nodup_cons.mp o6.right.nd).1
              have a1 : OwnAll K ct F5 (upd H5 D (.lst (us ++ [v5]))) k zs1 us B := w6.mono (fun _ _ h => h) fun b hb u h => by rw [upd_ne fun z => nB (by rw [← z]; exact hb)]; exact h
              have a2 : Own K ct F5 (upd H5 D (.lst (us ++ [v5]))) k y1 v5 B5 := w5.mono (fun _ _ h => h) fun b hb u h => by rw [upd_ne fun z => nD (by rw [← z]; exact hb)]; exact h
              have a3 := OwnAll.app a1 (OwnAll.cons a2 .nil)
              rwa [List.append_nil] at a3
            · obtain ⟨s7, o7⟩ := write_own (u := .lst us) (u' := .lst (us ++ [v5])) o6 (List.mem_append_right _ List.mem_cons_self)
              refine (s6.trans s7).weak (fun _ z => z) fun a z => .inl ?_
              rcases List.mem_cons.mp z with rfl | z
              · exact List.mem_append_right _ List.mem_cons_self
              · rcases List.mem_append.mp z with z | z
                · exact List.mem_append_right _ (List.mem_cons_of_mem _ z)
                · exact List.mem_append_left _ z
            · obtain ⟨s7, o7⟩ := write_own (u := .lst us) (u' := .lst (us ++ [v5])) o6 (List.mem_append_right _ List.mem_cons_self)
              refine o7.perm ?_
              exact (List.perm_append_comm (l₁ := B5) (l₂ := D :: B))
      · have ei : i = xs.length := by omega
        subst ei
        rw [List.drop_length, compP] at ec
        cases ec
        rw [List.append_nil] at ez
        subst ez
        exact .inl ⟨it.stop Hi sH, q F2 Hi (D :: B) _ (s1.trans s2) o2 (.lst hd w)⟩
  · cases ee
theorem imp_ilc (hm : ∀ v ∈ own, m[v]? = some .fz) (ho : ∀ i ∈ tg.slots, i ∈ own) (h : tI K ct m (iComp gi own tg u g) (.lst k) σ H Q) : tLc (tIt K ct m gi) (tG K ct m tg) (tTI K ct m u) (tI K ct m g k) own σ H Q := by
  obtain ⟨F, A, env, d, env', o, r, ee, q⟩ := h
  obtain ⟨⟨xs, envA⟩, e1, ee⟩ := bind_some2 ee
  split at ee
  · rename_i hz
    obtain ⟨⟨zs, envZ⟩, e2, ee⟩ := map_some2 ee
    cases ee
    have hz : xs.length < sizeLine := hz
    refine ⟨F, A, env, xs, envA, o, r, e1, fun F1 H1 A1 J s1 o1 r1 it D hD => ?_⟩
    obtain ⟨s1', o1', sub1⟩ := new_own (u := .lst []) o1.nil hD
    obtain ⟨s1'', o1'', k1⟩ := Stp.frame (A1 := []) (A2 := A1) s1' (by exact o1) o1' r1.there
    let Pv : Nat → Hp → Prop := fun i Hi => ∃ F2 A2 envI zs1 zs2 us B, zs = zs1 ++ zs2 ∧ compI u g (bindT tg) own (xs.drop i) envI = some (zs2, envZ) ∧ zs1.length ≤ i ∧ Hi D = some (.lst us) ∧ OwnAll K ct F2 Hi k zs1 us B ∧
      (∃ σi, wipe σi own = wipe σ own ∧ EnvR K ct F2 Hi m envI σi A2) ∧ Stp A1 F1 H1 (A2 ++ D :: B) F2 Hi ∧ Ok (A2 ++ D :: B) F2 Hi
    refine ⟨fun i n Hi => n = xs.length - i ∧ i ≤ xs.length ∧ Pv i Hi, ⟨xs.length, by simp, Nat.zero_le _, ?_⟩, ?_⟩
    · refine ⟨F1, A1, envA, [], zs, [], [], rfl, e2, Nat.le_refl _, upd_same, .nil, ⟨σ, rfl, r1.mono (fun _ _ h => h) k1⟩, ?_, o1''.swap⟩
      exact s1''.weak (fun _ z => z) fun a z => .inl (List.perm_append_comm.mem_iff.mp z)
    · rintro i n Hi ⟨rfl, hi, F2, A2, envI, zs1, zs2, us, B, ez, ec, hl1, hd, w, ⟨σi, ew, rI⟩, s2, o2⟩
      by_cases hlt : i < xs.length
      · refine .inr ⟨it.go i Hi hlt fun a u h => o2.sub a u (s2.fs a u h), fun H' => i + 1 ≤ xs.length ∧ Pv (i + 1) H', fun H' p' => ⟨xs.length - (i + 1), by omega, rfl, p'.1, p'.2⟩, fun x H3 y => ?_⟩
        obtain ⟨F3, dx, hx, s3, o3, wx⟩ := it.yld i Hi F2 x H3 (fun a u h => o2.sub a u (s2.fs a u h)) o2.nil s2.fs y hlt
        have edrop : xs.drop i = dx :: xs.drop (i + 1) := by
          rw [List.drop_eq_getElem_cons hlt]
          rw [List.getElem?_eq_getElem hlt] at hx
          rw [Option.some.inj hx]
        rw [edrop, compI] at ec
        obtain ⟨env1, eb, ec⟩ := bind_some2 ec
        obtain ⟨⟨b, env2⟩, et, ec⟩ := bind_some2 ec
        have thB : ∀ b ∈ D :: B, ∃ u, Hi b = some u := fun b hb => by
          rcases List.mem_cons.mp hb with rfl | hb
          · exact ⟨_, hd⟩
          · exact w.there b hb
        -- what stands at D behind a step over the environment
        have keep : ∀ {Fn Hn : Hp} {An : List Addr}, Stp A2 F2 Hi An Fn Hn → Ok An Fn Hn → Stp A1 F1 H1 (An ++ D :: B) Fn Hn ∧ Ok (An ++ D :: B) Fn Hn ∧ Hn D = some (.lst us) ∧ OwnAll K ct Fn Hn k zs1 us B := fun sn on => by
          obtain ⟨s5, o5, kp⟩ := Stp.frame sn o2 on thB
          exact ⟨s2.trans s5, o5, kp D List.mem_cons_self _ hd, w.mono sn.fs fun b hb => kp b (List.mem_cons_of_mem _ hb)⟩
        obtain ⟨Aw, pw, rW⟩ := rI.wiped own hm
        obtain ⟨r2, _, oA2, _, s3'⟩ := rW.pure (o2.left.perm pw.symm) s3 o3
        rw [ew] at r2
        have s3w : Stp A2 F2 Hi Aw F3 H3 := s3'.weak (fun a z => pw.mem_iff.mp z) fun a z => .inl z
        refine ⟨F3, Aw, wipeE envI own, dx, env1, oA2, r2, wx, eb, fun σ1 A3 p1 r3 hls hsl => ?_⟩
        have ew1 : wipe σ1 own = wipe σ own := by
          rw [wipe_eq (own := own) hls fun j hj => hsl j fun z => hj (ho j z)]
          exact wipe_eq (wipe_length _ _) fun j hj => wipe_get hj
        have ew2 : wipe σ1 own = wipe (wipe σ own) own := by
          rw [ew1]
          exact (wipe_eq (wipe_length _ _) fun j hj => wipe_get hj).symm
        refine ⟨ew1, F3, A3, env1, b, env2, oA2.perm p1.symm, r3, et, fun F4 H4 A4 s4 o4 r4 => ?_⟩
        have s34 : Stp A2 F2 Hi A4 F4 H4 := s3w.trans (s4.weak (fun a z => p1.mem_iff.mp z) fun a z => .inl z)
        cases b with
        | false =>
          simp only [Bool.false_eq_true, if_false] at ec ⊢
          obtain ⟨s5, o5, h5, w5⟩ := keep s34 o4
          exact ⟨hlt, F4, A4, env2, zs1, zs2, us, B, ez, ec, by omega, h5, w5, ⟨σ1, ew1, r4⟩, s5, o5⟩
        | true =>
          simp only [if_true] at ec ⊢
          obtain ⟨⟨y1, env3⟩, ey, ec⟩ := bind_some2 ec
          obtain ⟨⟨ys, envY⟩, eys, ec⟩ := map_some2 ec
          cases ec
          refine ⟨F4, A4, env2, y1, env3, o4, r4, ey, fun F5 H5 A5 B5 v5 s5 o5 r5 w5 => ?_⟩
          obtain ⟨s6, o6, h6, w6⟩ := keep (s34.trans s5) o5
          have o6' : Ok ((D :: B) ++ (A5 ++ B5)) F5 H5 := o6.swap
          have nD : D ∉ A5 ++ B5 := o6'.apart List.mem_cons_self
          have nB : D ∉ B := (List.nodup_cons.mp o6'.left.nd).1
          obtain ⟨s7, o7⟩ := write_own (u := .lst us) (u' := .lst (us ++ [v5])) o6 (List.mem_append_right _ List.mem_cons_self)
          have pp : (A5 ++ B5 ++ D :: B).Perm (A5 ++ D :: (B ++ B5)) := by
            rw [List.append_assoc]
            exact List.Perm.append_left _ (List.perm_append_comm (l₁ := B5) (l₂ := D :: B))
          refine ⟨us, h6, by rw [← w.len]; omega, hlt, F5, A5, env3, zs1 ++ [y1], ys, us ++ [v5], B ++ B5, by rw [ez, List.append_assoc]; rfl, eys, by rw [List.length_append, List.length_singleton]; omega, upd_same, ?_, ⟨σ1, ew1, ?_⟩, ?_, o7.perm pp⟩
          · have a1 : OwnAll K ct F5 (upd H5 D (.lst (us ++ [v5]))) k zs1 us B := w6.mono (fun _ _ h => h) fun b hb u h => by rw [upd_ne fun z => nB (by rw [← z]; exact hb)]; exact h
            have a2 : Own K ct F5 (upd H5 D (.lst (us ++ [v5]))) k y1 v5 B5 := w5.mono (fun _ _ h => h) fun b hb u h => by rw [upd_ne fun z => nD (by rw [← z]; exact List.mem_append_right _ hb)]; exact h
            have a3 := OwnAll.app a1 (OwnAll.cons a2 .nil)
            rwa [List.append_nil] at a3
          · exact r5.mono (fun _ _ h => h) fun b hb u h => by rw [upd_ne fun z => nD (by rw [← z]; exact List.mem_append_left _ hb)]; exact h
          · exact (s6.trans s7).weak (fun _ z => z) fun a z => .inl (pp.mem_iff.mpr z)
      · have ei : i = xs.length := by omega
        subst ei
        rw [List.drop_length, compI] at ec
        cases ec
        rw [List.append_nil] at ez
        subst ez
        obtain ⟨A4, p4, r4⟩ := r.backed (fun a u h => s2.fs a u (s1.fs a u h)) own hm rI
        rw [backS_eq ew] at r4
        exact .inl ⟨it.stop Hi fun a u h => o2.sub a u (s2.fs a u h), q F2 Hi A4 (D :: B) _ ((s1.trans s2).weak (fun _ z => z) fun a z => .inl (by
          rcases List.mem_append.mp z with z | z
          · exact List.mem_append_left _ (p4.mem_iff.mp z)
          · exact List.mem_append_right _ z)) (o2.perm (List.Perm.append_right _ p4.symm)) r4 (.lst hd w)⟩
  · cases ee
end
def tAllP : List PB → PB
  | [] => fun _ => some true
  | [t] => t
  | _ => fun _ => none
section
variable {X : Cx} {ct : CT} {m : List OT} {elt tg iter c : Expr} {ifs : List Expr} {scope : Scope} {own : List (Str × Nat)} {pos : Pos} {fi : PFs} {gi : IFs} {t : Tg} {p : PB} {u : IB} {f : PF} {g : IF} {k : OT}
abbrev TPs (X : Cx) (ct : CT) (m : List OT) (es : List Expr) (f : PB) : Prop := PTs X es (tTP X.K ct m f)
abbrev TIs (X : Cx) (ct : CT) (m : List OT) (es : List Expr) (f : IB) : Prop := PTs X es (tTI X.K ct m f)
def bYes : PB := fun _ => some true
def iYes : IB := fun env => some (true, env)
theorem pts_imp {X : Cx} {e : List Expr} {t t' : TT} (h : PTs X e t) (i : ∀ σ H Q, t' σ H Q → t σ H Q) : PTs X e t' := ⟨fun pins s σ H Q I q => h.run pins s σ H Q I (i σ H Q q)⟩
theorem tps_nil : TPs X ct m [] bYes := pts_imp pts_nil fun σ H Q ⟨F, A, env, b, o, r, e, q⟩ => by cases e; exact q F H Stp.refl o.nil
theorem tis_nil : TIs X ct m [] iYes := pts_imp pts_nil fun σ H Q ⟨F, A, env, b, env', o, r, e, q⟩ => by cases e; exact q F H A Stp.refl o r
theorem tps_one (h : TP X ct m c p) : TPs X ct m [c] p := pts_one h
theorem tis_one (h : TI X ct m c u) : TIs X ct m [c] u := pts_one h
theorem ep_comp (hc : X.calm = true) (hN : X.N.Nodup) (hi : IV X ct m tg iter fi) (ok : BlkOk X.N X.env.scope scope own)
    (hg : ∀ (s : Shared) (H : Hp) (C : Addr) (cl : List (Str × Addr)) (fp : List Addr), GJ (X.blk s H scope (compEnvC scope cl C X.env) fp) ct m tg t) (ht : ∀ (s : Shared) (H : Hp) (C : Addr) (cl : List (Str × Addr)) (fp : List Addr), TPs (X.blk s H scope (compEnvC scope cl C X.env) fp) ct m ifs p)
    (he : ∀ (s : Shared) (H : Hp) (C : Addr) (cl : List (Str × Addr)) (fp : List Addr), EP (X.blk s H scope (compEnvC scope cl C X.env) fp) ct m elt f k) (hm : ∀ v ∈ own.map (·.2), m[v]? = some .fz) (ho : ∀ i ∈ t.slots, i ∈ own.map (·.2))
    (hs : ∀ x, foldedSetIterable iter X.env x = pure x := by intro _; rfl) : EP X ct m (.ListComp elt [⟨tg, iter, ifs, 0⟩] scope pos) (pComp fi (own.map (·.2)) t p f) (.lst k) :=
  pe_imp (pe_lc hc hN hi ok hg ht he hs) fun _ _ _ => imp_lc hm ho
theorem ei_comp (hc : X.calm = true) (hN : X.N.Nodup) (hi : IT X ct m tg iter gi) (ok : BlkOk X.N X.env.scope scope own)
    (hg : ∀ (s : Shared) (H : Hp) (C : Addr) (cl : List (Str × Addr)) (fp : List Addr), GJ (X.blk s H scope (compEnvC scope cl C X.env) fp) ct m tg t) (ht : ∀ (s : Shared) (H : Hp) (C : Addr) (cl : List (Str × Addr)) (fp : List Addr), TIs (X.blk s H scope (compEnvC scope cl C X.env) fp) ct m ifs u)
    (he : ∀ (s : Shared) (H : Hp) (C : Addr) (cl : List (Str × Addr)) (fp : List Addr), EI (X.blk s H scope (compEnvC scope cl C X.env) fp) ct m elt g k) (hm : ∀ v ∈ own.map (·.2), m[v]? = some .fz) (ho : ∀ i ∈ t.slots, i ∈ own.map (·.2))
    (hs : ∀ x, foldedSetIterable iter X.env x = pure x := by intro _; rfl) : EI X ct m (.ListComp elt [⟨tg, iter, ifs, 0⟩] scope pos) (iComp gi (own.map (·.2)) t u g) (.lst k) :=
  pe_imp (pe_lc hc hN hi ok hg ht he hs) fun _ _ _ => imp_ilc hm ho
end
end T3

/-! T3, part g: statements, loops, defs. -/
namespace T3
open PySem L2

inductive Fl where
  | nx
  | rt (d : D)
  | bk
  | ct
abbrev SS := Env → Option (Fl × Env)
/-- of a def: is its first parameter lent, its kind at the end, the result's kind; of the loop around: its mask -/
structure Par where
  pin : Bool
  pk : OT
  rk : OT
  ml : List OT
  ps : List Nat
def Pin (p : List Nat) (σ σ' : St) : Prop := ∀ j ∈ p, σ'[j]? = σ[j]?
section
variable (K : PySem.W.Frag) (ct : CT) (P : Par)
def SEnd (m' : List OT) (Dn : Ends) (A : List Addr) (F H : Hp) (σ : St) (fl : Fl) (env' : Env) : Prop := match fl with
  | .nx => ∀ F' H' A' σ', Stp A F H A' F' H' → Ok A' F' H' → EnvR K ct F' H' m' env' σ' A' → Pin P.ps σ σ' → Dn.nx σ' H'
  | .bk => ∀ F' H' A' σ', Stp A F H A' F' H' → Ok A' F' H' → EnvR K ct F' H' P.ml env' σ' A' → Pin P.ps σ σ' → Dn.bk σ' H'
  | .ct => ∀ F' H' A' σ', Stp A F H A' F' H' → Ok A' F' H' → EnvR K ct F' H' P.ml env' σ' A' → Pin P.ps σ σ' → Dn.ct σ' H'
  | .rt d => ∀ F' H' A' B v σ' mr, Stp A F H (A' ++ B) F' H' → Ok (A' ++ B) F' H' → EnvR K ct F' H' mr env' σ' A' → Pin P.ps σ σ' → (P.pin = true → mr[0]? = some P.pk) → Own K ct F' H' P.rk d v B → Dn.rt v H'
def tS (m : List OT) (f : SS) (m' : List OT) : TS := fun Dn σ H => ∃ F A env fl env', Ok A F H ∧ EnvR K ct F H m env σ A ∧ f env = some (fl, env') ∧ SEnd K ct P m' Dn A F H σ fl env'
end
abbrev SJ (X : Cx) (ct : CT) (P : Par) (m : List OT) (st : Stmt) (f : SS) (m' : List OT) : Prop := PS X st (tS X.K ct P m f m')
abbrev SJs (X : Cx) (ct : CT) (P : Par) (m : List OT) (st : List Stmt) (f : SS) (m' : List OT) : Prop := PSs X st (tS X.K ct P m f m')
theorem ps_imp {X : Cx} {e : Stmt} {t t' : TS} (h : PS X e t) (i : ∀ D σ H, t' D σ H → t D σ H) : PS X e t' := ⟨fun pins s σ H D I q => h.run pins s σ H D I (i D σ H q)⟩
theorem pss_imp {X : Cx} {e : List Stmt} {t t' : TS} (h : PSs X e t) (i : ∀ D σ H, t' D σ H → t D σ H) : PSs X e t' := ⟨fun pins s σ H D I q => h.run pins s σ H D I (i D σ H q)⟩
theorem Pin.refl {p : List Nat} {σ : St} : Pin p σ σ := fun _ _ => rfl
theorem Pin.trans {p : List Nat} {σ σ1 σ2 : St} (a : Pin p σ σ1) (b : Pin p σ1 σ2) : Pin p σ σ2 := fun j h => (b j h).trans (a j h)
theorem Pin.set {p : List Nat} {σ : St} {i : Nat} {o : Option V} (h : i ∉ p) : Pin p σ (σ.set i o) := fun j hj => List.getElem?_set_ne fun e => h (by rw [e]; exact hj)
section
variable {K : PySem.W.Frag} {ct : CT} {P : Par} {m m' : List OT} {Dn : Ends} {A A1 : List Addr} {F H F1 H1 : Hp} {σ σ1 : St} {fl : Fl} {env env' : Env}
theorem SEnd.step (h : SEnd K ct P m' Dn A F H σ fl env') (s : Stp A F H A1 F1 H1) (p : Pin P.ps σ σ1) : SEnd K ct P m' Dn A1 F1 H1 σ1 fl env' := by
  cases fl with
  | nx => exact fun F' H' A' σ' s' o r q => h F' H' A' σ' (s.trans s') o r (p.trans q)
  | bk => exact fun F' H' A' σ' s' o r q => h F' H' A' σ' (s.trans s') o r (p.trans q)
  | ct => exact fun F' H' A' σ' s' o r q => h F' H' A' σ' (s.trans s') o r (p.trans q)
  | rt d => exact fun F' H' A' B v σ' mr s' o r q hp w => h F' H' A' B v σ' mr (s.trans s') o r (p.trans q) hp w
theorem SEnd.now (h : SEnd K ct P m' Dn A F H σ .nx env') (o : Ok A F H) (r : EnvR K ct F H m' env' σ A) : Dn.nx σ H := h F H A σ Stp.refl o r Pin.refl
end

/-! ### what statements do -/
def sNx : SS := fun env => some (.nx, env)
def sBk : SS := fun env => some (.bk, env)
def sCt : SS := fun env => some (.ct, env)
def sNo : SS := fun _ => none
def sSeq (f g : SS) : SS := fun env => (f env).bind fun p => match p.1 with
  | .nx => g p.2
  | fl => some (fl, p.2)
def sIf (c : IB) (f g : SS) : SS := fun env => (c env).bind fun p => if p.1 = true then f p.2 else g p.2
def sAsg (i : Nat) (g : IF) : SS := fun env => (g env).map fun p => (.nx, p.2.set i (some p.1))
def sEx (g : IF) : SS := fun env => (g env).map fun p => (.nx, p.2)
def sRt (g : IF) : SS := fun env => (g env).map fun p => (.rt p.1, p.2)
def sRtN : SS := fun env => some (.rt .non, env)
def sRtO (i : Nat) : SS := fun env => (pVar i env).map fun d => (.rt d, env.set i none)
def sAug (op : D → D → Option D) (i : Nat) (g : IF) : SS := fun env => (pVar i env).bind fun x => (g env).bind fun p => (op x p.1).map fun z => (.nx, p.2.set i (some z))
def sTg (bnd : D → Env → Option Env) (g : IF) : SS := fun env => (g env).bind fun p => (bnd p.1 p.2).map fun env' => (.nx, env')
def sPar (i j : Nat) (gs : IFs) : SS := fun env => (gs env).bind fun p => match p.1 with
  | [x, y] => some (.nx, (p.2.set i (some x)).set j (some y))
  | _ => none
def forL (bnd : D → Env → Option Env) (b : SS) : List D → Env → Option (Fl × Env)
  | [], env => some (.nx, env)
  | x :: xs, env => (bnd x env).bind fun env1 => (b env1).bind fun p => match p.1 with
    | .nx => forL bnd b xs p.2
    | .ct => forL bnd b xs p.2
    | .bk => some (.nx, p.2)
    | .rt d => some (.rt d, p.2)
def sFor (fi : IFs) (tg : Tg) (b : SS) : SS := fun env => (fi env).bind fun p => forL (bindT tg) b p.1 p.2
def whL (c : IB) (b : SS) : Nat → Env → Option (Fl × Env)
  | 0, _ => none
  | n + 1, env => (c env).bind fun t => if t.1 = true then (b t.2).bind fun p => match p.1 with
    | .nx => whL c b n p.2
    | .ct => whL c b n p.2
    | .bk => some (.nx, p.2)
    | .rt d => some (.rt d, p.2)
    else some (.nx, t.2)
def fuel : Nat := 1000000000000
def sWh (c : IB) (b : SS) : SS := fun env => whL c b fuel env

section
variable {X : Cx} {ct : CT} {P : Par} {m m' m2 : List OT} {st : Stmt} {sts rest : List Stmt} {f g : SS} {e e0 c tg iter : Expr} {i j : Nat} {gi : IF} {gs : IFs} {k : OT} {pos tpos : Pos} {ci : IB} {x : Str}
theorem sj_pass : SJ X ct P m (.Pass pos) sNx m := ps_imp ps_pass fun D σ H ⟨F, A, env, fl, env', o, r, e, q⟩ => by cases e; exact q.now o r
theorem sjs_nil : SJs X ct P m [] sNx m := pss_imp pss_nil fun D σ H ⟨F, A, env, fl, env', o, r, e, q⟩ => by cases e; exact q.now o r
theorem sj_no : SJ X ct P m st sNo m' := ps_imp ps_never fun D σ H ⟨F, A, env, fl, env', o, r, e, q⟩ => by cases e
theorem sj_bk (h : m = P.ml) : SJ X ct P m (.Break pos) sBk m' := ps_imp ps_break fun D σ H ⟨F, A, env, fl, env', o, r, e, q⟩ => by
  cases e
  subst h
  exact q F H A σ Stp.refl o r Pin.refl
theorem sj_ct (h : m = P.ml) : SJ X ct P m (.Continue pos) sCt m' := ps_imp ps_continue fun D σ H ⟨F, A, env, fl, env', o, r, e, q⟩ => by
  cases e
  subst h
  exact q F H A σ Stp.refl o r Pin.refl
theorem imp_seq {K : PySem.W.Frag} {D : Ends} {σ : St} {H : Hp} (h : tS K ct P m (sSeq f g) m' D σ H) : tSeq (tS K ct P m f m2) (tS K ct P m2 g m') D σ H := by
  obtain ⟨F, A, env, fl, env', o, r, e, q⟩ := h
  obtain ⟨⟨fl1, env1⟩, e1, e⟩ := bind_some2 e
  refine ⟨F, A, env, fl1, env1, o, r, e1, ?_⟩
  cases fl1 with
  | nx => exact fun F' H' A' σ' s o' r' p => ⟨F', A', env1, fl, env', o', r', e, q.step s p⟩
  | bk => cases e; exact q
  | ct => cases e; exact q
  | rt d => cases e; exact q
theorem sjs_cons (h : SJ X ct P m st f m2) (hs : SJs X ct P m2 rest g m') : SJs X ct P m (st :: rest) (sSeq f g) m' := pss_imp (pss_cons h hs) fun _ _ _ => imp_seq
theorem sjs_one (h : SJ X ct P m st f m') : SJs X ct P m [st] f m' := pss_one h
theorem sj_if (hc : TI X ct m c ci) (ha : SJs X ct P m sts f m') (hb : SJs X ct P m rest g m') : SJ X ct P m (.If c sts rest pos) (sIf ci f g) m' := ps_imp (ps_if hc ha hb) fun D σ H ⟨F, A, env, fl, env', o, r, e, q⟩ => by
  obtain ⟨⟨b, env1⟩, e1, e⟩ := bind_some2 e
  refine ⟨F, A, env, b, env1, o, r, e1, fun F' H' A' s o' r' => ?_⟩
  cases b with
  | true => exact ⟨F', A', env1, fl, env', o', r', by simpa using e, q.step s Pin.refl⟩
  | false => exact ⟨F', A', env1, fl, env', o', r', by simpa using e, q.step s Pin.refl⟩
theorem imp_asg {K : PySem.W.Frag} {D : Ends} {σ : St} {H : Hp} (hi : i < m.length) (hp : i ∉ P.ps) (h : tS K ct P m (sAsg i gi) (m.set i k) D σ H) : tAsg (tI K ct m gi k) (gName i) D σ H := by
  obtain ⟨F, A, env, fl, env', o, r, e, q⟩ := h
  obtain ⟨⟨d, env1⟩, e1, e⟩ := map_some2 e
  cases e
  refine ⟨F, A, env, d, env1, o, r, e1, fun F' H' A' B v s o' r' w => ?_⟩
  obtain ⟨e2, o2, B2, R, h1, h2, p, sl, th, up⟩ := r'.at_ i _ (List.getElem?_eq_getElem hi)
  obtain ⟨A2, p2, r2⟩ := up F' H' k (some d) (some v) B (fun _ _ h => h) (fun _ _ _ h => h) ⟨v, rfl, w⟩
  have hs : ∀ a ∈ A2, a ∈ A' ++ B := fun a h => by
    rcases List.mem_append.mp (p2.mem_iff.mp h) with z | z
    · exact List.mem_append_right _ z
    · exact List.mem_append_left _ (p.mem_iff.mpr (List.mem_append_right _ z))
  have hn : A2.Nodup := by
    refine p2.nodup_iff.mpr (List.nodup_append.mpr ⟨o'.right.nd, ((p.nodup_iff.mp o'.left.nd) |> List.nodup_append.mp).2.1, fun a ha b hb e => ?_⟩)
    subst e
    exact o'.apart (p.mem_iff.mpr (List.mem_append_right _ hb)) ha
  exact q F' H' A2 _ (s.weak (fun _ z => z) fun a h => .inl (hs a h)) ⟨o'.sub, hn, fun a h => o'.out a (hs a h)⟩ r2 (Pin.set hp)
/-- a name's assignment, through any rule that makes it -/
theorem sj_asg (mk : ∀ te, PE X e te → PS X st (tAsg te (gName i))) (h : EI X ct m e gi k) (hi : i < m.length) (hp : i ∉ P.ps) : SJ X ct P m st (sAsg i gi) (m.set i k) := ps_imp (mk _ h) fun _ _ _ => imp_asg hi hp
theorem sj_ex (h : EI X ct m e gi k) (hs : swapsWith e none pos.line X.env = pure false := by rfl) : SJ X ct P m (.Expr e pos) (sEx gi) m := ps_imp (ps_expr h hs) fun D σ H ⟨F, A, env, fl, env', o, r, e, q⟩ => by
  obtain ⟨⟨d, env1⟩, e1, e⟩ := map_some2 e
  cases e
  refine ⟨F, A, env, d, env1, o, r, e1, fun F' H' A' B v s o' r' w => ?_⟩
  exact q F' H' A' σ (s.weak (fun _ z => z) fun a z => .inl (List.mem_append_left _ z)) o'.left r' Pin.refl
theorem sj_doc {z k' pos'} : SJ X ct P m (.Expr (.Constant (.str z) k' pos') pos) sNx m := ps_imp ps_doc fun D σ H ⟨F, A, env, fl, env', o, r, e, q⟩ => by cases e; exact q.now o r
theorem sj_rt (h : EI X ct m e gi P.rk) (hp : P.pin = true → m[0]? = some P.pk) : SJ X ct P m (.Return (some e) pos) (sRt gi) m' := ps_imp (ps_ret h) fun D σ H ⟨F, A, env, fl, env', o, r, e, q⟩ => by
  obtain ⟨⟨d, env1⟩, e1, e⟩ := map_some2 e
  cases e
  exact ⟨F, A, env, d, env1, o, r, e1, fun F' H' A' B v s o' r' w => q F' H' A' B v σ m s o' r' Pin.refl hp w⟩
theorem sj_rtN (hk : P.rk = .fz) (hp : P.pin = true → m[0]? = some P.pk) : SJ X ct P m (.Return none pos) sRtN m' := ps_imp ps_retN fun D σ H ⟨F, A, env, fl, env', o, r, e, q⟩ => by
  cases e
  exact q F H A [] .non σ m (by rw [List.append_nil]; exact Stp.refl) (by rw [List.append_nil]; exact o) r Pin.refl hp (by rw [hk]; exact .fz .non)
/-- return x, what slot i owns is handed on -/
theorem sj_rtO (h : PE X e (tVar i)) (hm : m[i]? = some P.rk) (hp : P.pin = true → i ≠ 0 ∧ m[0]? = some P.pk) : SJ X ct P m (.Return (some e) pos) (sRtO i) m' := ps_imp (ps_ret h) fun D σ H ⟨F, A, env, fl, env', o, r, e, q⟩ => by
  obtain ⟨d, e1, e⟩ := map_some2 e
  cases e
  obtain ⟨e2, o2, B, R, h1, h2, p, sl, th, up⟩ := r.at_ i _ hm
  rw [bind_id e1] at h1
  cases h1
  obtain ⟨v, rfl, w⟩ := sl
  obtain ⟨A2, p2, r2⟩ := up F H P.rk none (some v) [] (fun _ _ h => h) (fun _ _ _ h => h) rfl
  rw [set_same h2, set_same hm] at r2
  have pp : A.Perm (A2 ++ B) := p.trans (List.perm_append_comm.trans (List.Perm.append_right B p2.symm))
  exact ⟨v, h2, q F H A2 B v σ m (Stp.refl' fun a z => pp.mem_iff.mpr z) (o.perm pp) r2 Pin.refl (fun z => (hp z).2) w⟩
theorem sj_aug {op : Operator} {fo : Int → Int → Int} (mk : ∀ te, PE X e te → PS X st (tAug i te (ipI fo))) (h : EI X ct m e gi .fz) (hm : m[i]? = some .fz) (hp : i ∉ P.ps) : SJ X ct P m st (sAug (nI2 fo) i gi) m := ps_imp (mk _ h) fun D σ H ⟨F, A, env, fl, env', o, r, e, q⟩ => by
  obtain ⟨x, e0, e⟩ := bind_some2 e
  obtain ⟨⟨d, env1⟩, e1, e⟩ := bind_some2 e
  obtain ⟨z, e2, e⟩ := map_some2 e
  cases e
  obtain ⟨a, b, rfl, rfl, rfl⟩ := nI2_ints e2
  obtain ⟨v, h1, h2⟩ := r.fzAt hm (bind_id e0)
  cases h2
  refine ⟨_, h1, F, A, env, _, env1, o, r, e1, fun F' H' A' B v s o' r' w => ?_⟩
  cases w with
  | fz w =>
    cases w
    rw [List.append_nil] at s o'
    obtain ⟨A2, p2, r2⟩ := r'.bind1 hm (.int (fo a b))
    exact ⟨a, b, rfl, rfl, q F' H' A2 _ (s.weak (fun _ z => z) fun a z => .inl (p2.mem_iff.mp z)) (o'.perm p2.symm) r2 (Pin.set hp)⟩
/-- a, b = e1, e2 at two plain local names -/
theorem sj_par {es2 : List Expr} (mk : ∀ t, PA X es2 t → PS X st (tPar i j t)) (h : AI X ct m es2 gs) (hi : m[i]? = some .fz) (hj : m[j]? = some .fz) (hp : i ∉ P.ps ∧ j ∉ P.ps) : SJ X ct P m st (sPar i j gs) m := ps_imp (mk _ h) fun D σ H ⟨F, A, env, fl, env', o, r, e, q⟩ => by
  obtain ⟨⟨ds, env1⟩, e1, e⟩ := bind_some2 e
  match ds, e, e1 with
  | [x, y], e, e1 =>
    cases e
    refine ⟨F, A, env, [x, y], env1, o, r, e1, fun F' H' A' vs s o' r' w => ?_⟩
    cases w with
    | cons w1 w2 =>
      cases w2 with
      | cons w2 w3 =>
        cases w3
        obtain ⟨A2, p2, r2⟩ := r'.bind1 hi w1
        obtain ⟨A3, p3, r3⟩ := r2.bind1 hj w2
        exact ⟨_, _, rfl, q F' H' A3 _ (s.weak (fun _ z => z) fun a z => .inl (p2.mem_iff.mp (p3.mem_iff.mp z))) (o'.perm (p2.symm.trans p3.symm)) r3 ((Pin.set hp.1).trans (Pin.set hp.2))⟩
/-! ### freezing -/
theorem imp_frz {K : PySem.W.Frag} {D : Ends} {σ : St} {H : Hp} (hm : m[i]? = some k) (h : tS K ct P m f m' D σ H) : tS K ct P (m.set i .fz) f m' D σ H := by
  obtain ⟨F, A, env, fl, env', o, r, e, q⟩ := h
  obtain ⟨e2, o2, B, R, h1, h2, p, sl, th, up⟩ := r.at_ i _ hm
  have oBR : Ok (R ++ B) F H := o.perm (p.trans List.perm_append_comm)
  obtain ⟨o3, s3, k3, st⟩ := freeze oBR sl.there
  obtain ⟨A2, p2, r2⟩ := up (addF F H B) H .fz e2 o2 [] s3 (fun _ _ _ h => h) (by
    cases e2 with
    | none => exact rfl
    | some d =>
      obtain ⟨v, rfl, w⟩ := sl
      exact ⟨v, rfl, .fz (w.rel s3 k3)⟩)
  rw [set_same h1, set_same h2] at r2
  refine ⟨addF F H B, A2, env, fl, env', o3.perm p2.symm, r2, e, q.step (st.weak (fun a z => p.mem_iff.mpr (List.perm_append_comm.mem_iff.mp z)) fun a z => .inl (p2.mem_iff.mp z)) Pin.refl⟩
theorem sjs_frz (i : Nat) (hm : m[i]? = some k) (h : SJs X ct P (m.set i .fz) sts f m') : SJs X ct P m sts f m' := pss_imp h fun _ _ _ => imp_frz hm
/-! ### loops -/
theorem sj_for {body : List Stmt} {fi : IFs} {t : Tg} (hpo : PassesOwn (model X.prog X.w) X.A X.env X.xe) (hc : X.calm = true) (hi : IT X ct m tg iter fi) (hg : GJ X ct m tg t) (hb : SJs X ct ⟨P.pin, P.pk, P.rk, m, P.ps⟩ m body f m) (hp : ∀ j ∈ P.ps, j ∉ t.slots)
    (hs : ∀ x, foldedSetIterable iter X.env x = pure x := by intro _; rfl) : SJ X ct P m (.For tg iter body [] pos) (sFor fi t f) m := ps_imp (ps_for hpo hc hi hg hb hs) fun Dn σ H ⟨F, A, env, fl, env', o, r, e, q⟩ => by
  obtain ⟨⟨xs, env0⟩, e0, e⟩ := bind_some2 e
  refine ⟨F, A, env, xs, env0, o, r, e0, fun F1 H1 A1 J s1 o1 r1 it => ?_⟩
  let Pv : Nat → St → Hp → Prop := fun i σi Hi => ∃ F2 A2 env2, Stp A F H A2 F2 Hi ∧ Sub F1 F2 ∧ Ok A2 F2 Hi ∧ EnvR X.K ct F2 Hi m env2 σi A2 ∧ Pin P.ps σ σi ∧ forL (bindT t) f (xs.drop i) env2 = some (fl, env')
  refine ⟨fun i n σi Hi => n = xs.length - i ∧ i ≤ xs.length ∧ Pv i σi Hi, ⟨xs.length, by simp, Nat.zero_le _, F1, A1, env0, s1, (fun _ _ h => h), o1, r1, Pin.refl, e⟩, ?_⟩
  rintro i n σi Hi ⟨rfl, hi, F2, A2, env2, s2, sF, o2, r2, p2, e2⟩
  have sG : Sub F1 Hi := fun a u h => o2.sub a u (sF a u h)
  by_cases hlt : i < xs.length
  · refine .inr ⟨it.go i Hi hlt sG, fun σ' H' => i + 1 ≤ xs.length ∧ Pv (i + 1) σ' H', fun σ' H' p' => ⟨xs.length - (i + 1), by omega, rfl, p'.1, p'.2⟩, fun x H3 y => ?_⟩
    obtain ⟨F3, dx, hx, s3, o3, wx⟩ := it.yld i Hi F2 x H3 sG o2.nil sF y hlt
    have edrop : xs.drop i = dx :: xs.drop (i + 1) := by
      rw [List.drop_eq_getElem_cons hlt]
      rw [List.getElem?_eq_getElem hlt] at hx
      rw [Option.some.inj hx]
    rw [edrop, forL] at e2
    obtain ⟨env3, eb, e3⟩ := bind_some2 e2
    obtain ⟨⟨fl4, env4⟩, e4, e5⟩ := bind_some2 e3
    obtain ⟨r3, _, oA3, _, s3'⟩ := r2.pure o2 s3 o3
    refine ⟨F3, A2, env2, dx, env3, oA3, r3, wx, eb, fun σ4 A4 p4 r4 hl4 hs4 => ?_⟩
    have pin4 : Pin P.ps σ σ4 := p2.trans fun j z => hs4 j (hp j z)
    have s4 : Stp A F H A4 F3 H3 := (s2.trans s3').weak (fun _ z => z) fun a z => .inl (p4.mem_iff.mp z)
    refine ⟨F3, A4, env3, fl4, env4, oA3.perm p4.symm, r4, e4, ?_⟩
    cases fl4 with
    | nx => exact fun F' H' A' σ' s' o' r' p' => ⟨hlt, F', A', env4, s4.trans s', (fun a u h => s'.fs a u (s3.fs a u (sF a u h))), o', r', pin4.trans p', e5⟩
    | ct => exact fun F' H' A' σ' s' o' r' p' => ⟨hlt, F', A', env4, s4.trans s', (fun a u h => s'.fs a u (s3.fs a u (sF a u h))), o', r', pin4.trans p', e5⟩
    | bk => cases e5; exact fun F' H' A' σ' s' o' r' p' => q F' H' A' σ' (s4.trans s') o' r' (pin4.trans p')
    | rt d => cases e5; exact fun F' H' A' B v σ' mr s' o' r' p' hp' w => q F' H' A' B v σ' mr (s4.trans s') o' r' (pin4.trans p') hp' w
  · have ei : i = xs.length := by omega
    subst ei
    rw [List.drop_length, forL] at e2
    cases e2
    exact .inl ⟨it.stop Hi sG, q F2 Hi A2 σi s2 o2 r2 p2⟩
theorem sj_wh {body : List Stmt} (hpo : PassesOwn (model X.prog X.w) X.A X.env X.xe) (hc : TI X ct m c ci) (hb : SJs X ct ⟨P.pin, P.pk, P.rk, m, P.ps⟩ m body f m) : SJ X ct P m (.While c body [] pos) (sWh ci f) m := ps_imp (ps_while hpo hc hb) fun Dn σ H ⟨F, A, env, fl, env', o, r, e, q⟩ => by
  refine ⟨fun n σi Hi => ∃ F2 A2 env2, Stp A F H A2 F2 Hi ∧ Ok A2 F2 Hi ∧ EnvR X.K ct F2 Hi m env2 σi A2 ∧ Pin P.ps σ σi ∧ whL ci f n env2 = some (fl, env'), ⟨fuel, F, A, env, Stp.refl, o, r, Pin.refl, e⟩, ?_⟩
  rintro n σi Hi ⟨F2, A2, env2, s2, o2, r2, p2, e2⟩
  cases n with
  | zero => cases e2
  | succ n =>
    rw [whL] at e2
    obtain ⟨⟨t, env3⟩, et, e3⟩ := bind_some2 e2
    refine ⟨F2, A2, env2, t, env3, o2, r2, et, fun F3 H3 A3 s3 o3 r3 => ?_⟩
    cases t with
    | true =>
      rw [if_pos rfl]
      simp only [if_true] at e3
      obtain ⟨⟨fl4, env4⟩, e4, e5⟩ := bind_some2 e3
      refine ⟨fun σ' H' => ∃ F2 A2 env2, Stp A F H A2 F2 H' ∧ Ok A2 F2 H' ∧ EnvR X.K ct F2 H' m env2 σ' A2 ∧ Pin P.ps σ σ' ∧ whL ci f n env2 = some (fl, env'), fun σ' H' h => ⟨n, Nat.lt_succ_self n, h⟩, ?_⟩
      refine ⟨F3, A3, env3, fl4, env4, o3, r3, e4, ?_⟩
      cases fl4 with
      | nx => exact fun F' H' A' σ' s' o' r' p' => ⟨F', A', env4, (s2.trans s3).trans s', o', r', p2.trans p', e5⟩
      | ct => exact fun F' H' A' σ' s' o' r' p' => ⟨F', A', env4, (s2.trans s3).trans s', o', r', p2.trans p', e5⟩
      | bk => cases e5; exact fun F' H' A' σ' s' o' r' p' => q F' H' A' σ' ((s2.trans s3).trans s') o' r' (p2.trans p')
      | rt d => cases e5; exact fun F' H' A' B v σ' mr s' o' r' p' hp' w => q F' H' A' B v σ' mr ((s2.trans s3).trans s') o' r' (p2.trans p') hp' w
    | false =>
      rw [if_neg Bool.false_ne_true]
      simp only [Bool.false_eq_true, if_false] at e3
      cases e3
      exact q F3 H3 A3 σi (s2.trans s3) o3 r3 p2
end

/-! ### defs -/
def startE (n : Nat) (ds : List D) : Env := ds.map some ++ List.replicate (n - ds.length) none
def nonOf (rk : OT) : Option D := match rk with
  | .fz => some .non
  | _ => none
def run0 (n na : Nat) (rk : OT) (f : SS) (ds : List D) : Option D := if ds.length = na then (f (startE n ds)).bind fun p => match p.1 with
  | .rt d => some d
  | .nx => nonOf rk
  | _ => none
  else none
def run1 (n na : Nat) (rk : OT) (f : SS) (d0 : D) (ds : List D) : Option (D × D) := if ds.length + 1 = na then (f (startE n (d0 :: ds))).bind fun p => (pVar 0 p.2).bind fun d1 => match p.1 with
  | .rt d => some (d, d1)
  | .nx => (nonOf rk).map fun d => (d, d1)
  | _ => none
  else none
section
variable {K : PySem.W.Frag} {ct : CT} {F H : Hp}
theorem env_nones : ∀ (n : Nat), EnvR K ct F H (List.replicate n .fz) (List.replicate n none) (List.replicate n none) []
  | 0 => .nil
  | n + 1 => EnvR.cons (B := []) (A := []) rfl (env_nones n)
theorem env_vals : ∀ {ds : List D} {vs : List V} (n : Nat), RelAll K ct F ds vs → EnvR K ct F H (List.replicate (ds.length + n) .fz) (ds.map some ++ List.replicate n none) (vs.map some ++ List.replicate n none) []
  | _, _, n, .nil => by simpa using env_nones n
  | _, _, n, .cons (ds := ds) h r => by
    have q := env_vals n r
    rw [show (List.length (_ :: ds) + n) = (ds.length + n) + 1 by simp; omega, List.replicate_succ]
    exact EnvR.cons (B := []) (A := []) ⟨_, rfl, .fz h⟩ q
theorem env_start {N : List Str} {ds : List D} {vs : List V} (hl : ds.length ≤ N.length) (r : RelAll K ct F ds vs) : EnvR K ct F H (List.replicate N.length .fz) (startE N.length ds) (L2.start N vs) [] := by
  have q := env_vals (H := H) (N.length - ds.length) r
  rw [show ds.length + (N.length - ds.length) = N.length by omega] at q
  unfold startE L2.start
  rw [← r.len]
  exact q
theorem env_start1 {N : List Str} {d0 : D} {ds : List D} {v0 : V} {vs : List V} {ik : OT} {A : List Addr} {n : Nat} (hn : N.length = n + 1) (hl : ds.length ≤ n) (h0 : Own K ct F H ik d0 v0 A) (r : RelAll K ct F ds vs) :
    EnvR K ct F H (ik :: List.replicate n .fz) (startE N.length (d0 :: ds)) (L2.start N (v0 :: vs)) A := by
  have q := env_vals (H := H) (n - ds.length) r
  rw [show ds.length + (n - ds.length) = n by omega] at q
  unfold startE L2.start
  rw [List.length_cons, List.length_cons, ← r.len, hn, show n + 1 - (ds.length + 1) = n - ds.length by omega]
  have := EnvR.cons (k := ik) (e := some d0) (o := some v0) (B := A) (A := []) ⟨v0, rfl, h0⟩ q
  rw [List.append_nil] at this
  exact this
end
section
variable {P : Program} {w : World} {K : PySem.W.Frag} {mg : Str → Option Value} {base : Heap} {ct : CT} {k : Nat} {x qual : Str} {st : Stmt} {f : Addr} {fd : FuncData} {N ps : List Str} {rk ik ik' : OT} {sem : SS} {mE : List OT}
theorem run0_len {n na : Nat} {ds : List D} {d : D} (h : run0 n na rk sem ds = some d) : ds.length = na := by
  unfold run0 at h
  split at h
  · assumption
  · cases h
theorem run1_len {n na : Nat} {d0 : D} {ds : List D} {d : D × D} (h : run1 n na rk sem d0 ds = some d) : ds.length + 1 = na := by
  unfold run1 at h
  split at h
  · assumption
  · cases h
theorem nonOf_fz {d : D} (h : nonOf rk = some d) : rk = .fz ∧ d = .non := by
  cases rk <;> simp only [nonOf] at h <;> first | (cases h; done) | (cases h; exact ⟨rfl, rfl⟩)
/-- THE RULE of a def that changes nothing of its caller's -/
theorem fn0 (FF : Fun K x qual st f fd) (S : FnScope N ps (defScope st)) (hN : ps.length ≤ N.length)
    (body : ∀ (cdv : Value) (A : Around) (outer : List PySem.Env) (s : Shared) (H : Hp) (E : XK), Room k (A.deeper (PyProof.Rows.envOfC qual (defScope st) s.heap.objs.size f cdv)) →
      SJs (cxOf CX0 P w K mg base N qual (defScope st) f cdv A outer s H E).nox ct ⟨false, .fz, rk, [], []⟩ (List.replicate N.length .fz) (defBody st) sem mE) :
    FnOk P w K mg base CX0 (k + 1) f fd ps (sp0 K ct rk (run0 N.length ps.length rk sem)) := by
  refine FF.ok S (fun vs H Q E ⟨F, ds, d, _, r, e, _⟩ => by rw [← r.len]; exact run0_len e) fun cdv A outer s H vs Q E hr ⟨F, ds, d, o, r, e, q⟩ => ?_
  refine ⟨_, body cdv A outer s H E hr, ?_⟩
  have hl := run0_len e
  unfold run0 at e
  rw [if_pos hl] at e
  obtain ⟨⟨fl, env'⟩, e1, e⟩ := bind_some2 e
  refine ⟨F, [], _, fl, env', o, env_start (by omega) r, e1, ?_⟩
  cases fl with
  | rt d' =>
    cases e
    exact fun F' H' A' B v σ' mr s' o' r' _ _ w' => q F' H' B v (s'.weak (fun _ z => z) fun a z => .inl (List.mem_append_right _ z)) o'.right w'
  | nx =>
    obtain ⟨rfl, rfl⟩ := nonOf_fz e
    exact fun F' H' A' σ' s' o' r' _ => q F' H' [] .non (s'.weak (fun _ z => z) fun a z => nomatch z) o'.nil (.fz .non)
  | bk => cases e
  | ct => cases e
/-- .. of a def that is lent its first argument -/
theorem fn1 {n : Nat} (FF : Fun K x qual st f fd) (S : FnScope N ps (defScope st)) (hn : N.length = n + 1) (hN : ps.length ≤ N.length) (hE : mE[0]? = some ik')
    (body : ∀ (cdv : Value) (A : Around) (outer : List PySem.Env) (s : Shared) (H : Hp) (E : XK), Room k (A.deeper (PyProof.Rows.envOfC qual (defScope st) s.heap.objs.size f cdv)) →
      SJs (cxOf CX0 P w K mg base N qual (defScope st) f cdv A outer s H E).nox ct ⟨true, ik', rk, [], [0]⟩ (ik :: List.replicate n .fz) (defBody st) sem mE) :
    FnOk P w K mg base CX0 (k + 1) f fd ps (sp1 K ct rk ik ik' (run1 N.length ps.length rk sem)) := by
  refine FF.ok S (fun vs H Q E ⟨F, A, v0, vs', d0, ds, d, d1, e0, _, _, r, e, _⟩ => by rw [e0, List.length_cons, ← r.len]; exact run1_len e) fun cdv A outer s H vs Q E hr ⟨F, AA, v0, vs', d0, ds, d, d1, e0, o, w0, r, e, q⟩ => ?_
  subst e0
  refine ⟨_, body cdv A outer s H E hr, ?_⟩
  have hl := run1_len e
  unfold run1 at e
  rw [if_pos hl] at e
  obtain ⟨⟨fl, env'⟩, e1, e⟩ := bind_some2 e
  obtain ⟨d1', e2, e⟩ := bind_some2 e
  refine ⟨F, AA, _, fl, env', o, env_start1 hn (by omega) w0 r, e1, ?_⟩
  have s0 : (L2.start N (v0 :: vs'))[0]? = some (some v0) := rfl
  -- the lent argument at the end
  have fin : ∀ (F' H' : Hp) (A' B : List Addr) (σ' : St) (mr : List OT) (v : V) (dd : D), Stp AA F H (A' ++ B) F' H' → Ok (A' ++ B) F' H' → EnvR K ct F' H' mr env' σ' A' → Pin [0] (L2.start N (v0 :: vs')) σ' → mr[0]? = some ik' → Own K ct F' H' rk dd v B →
      (dd, d1') = (d, d1) → Q v H' := fun F' H' A' B σ' mr v dd s' o' r' p' hm w' ed => by
    cases ed
    obtain ⟨e3, o3, B0, R, h1, h2, p, sl, th, up⟩ := r'.at_ 0 _ hm
    rw [bind_id e2] at h1
    cases h1
    obtain ⟨v', rfl, w1⟩ := sl
    have hv : v' = v0 := by
      have z := (p' 0 List.mem_cons_self).trans s0
      rw [h2] at z
      cases z
      rfl
    subst hv
    have hs : ∀ a ∈ B0, a ∈ A' := fun a h => p.mem_iff.mpr (List.mem_append_left _ h)
    refine q F' H' B0 B v (s'.weak (fun _ z => z) fun a z => .inl ?_) ⟨o'.sub, List.nodup_append.mpr ⟨((p.nodup_iff.mp o'.left.nd) |> List.nodup_append.mp).1, o'.right.nd, fun a ha b hb e => by subst e; exact o'.apart (hs a ha) hb⟩, fun a h => ?_⟩ w1 w'
    · rcases List.mem_append.mp z with z | z
      · exact List.mem_append_left _ (hs a z)
      · exact List.mem_append_right _ z
    · rcases List.mem_append.mp h with z | z
      · exact o'.out a (List.mem_append_left _ (hs a z))
      · exact o'.out a (List.mem_append_right _ z)
  cases fl with
  | rt d' =>
    exact fun F' H' A' B v σ' mr s' o' r' p' hp w' => fin F' H' A' B σ' mr v _ s' o' r' p' (hp rfl) w' (Option.some.inj e)
  | nx =>
    obtain ⟨d', e3, e4⟩ := map_some2 e
    obtain ⟨hrk, rfl⟩ := nonOf_fz e3
    subst hrk
    exact fun F' H' A' σ' s' o' r' p' => fin F' H' A' [] σ' _ _ _ (by rw [List.append_nil]; exact s') (by rw [List.append_nil]; exact o') r' p' hE (.fz .non) e4
  | bk => cases e
  | ct => cases e
/-- the law's promise -/
def spLaw (K : PySem.W.Frag) : Sp := fun vs H Q _ => ∃ (a : Addr) (ns : List Int), vs = [.ref a] ∧ SqL K H a (ns.map V.int) ∧ ns.length ≤ 63 ∧ Sub H H ∧ ∀ H', Q (.bl true) H'
theorem law_ok {G : List D → Option D} (h : FnOk P w K mg base CX0 k f fd ps (sp0 K ct .fz G)) (hG : ∀ ns : List Int, ns.length ≤ 63 → G [.scr ns] = some (.bl true)) : FnOk P w K mg base CX0 k f fd ps (spLaw K) :=
  h.imp fun vs H Q E ⟨a, ns, e, hs, hl, _, q⟩ => by
    subst e
    refine ⟨H, [.scr ns], .bl true, ⟨fun _ _ h => h, List.nodup_nil, fun _ h => nomatch h⟩, .cons (.scr hs) .nil, hG ns hl, fun F' H' B v s o w => ?_⟩
    cases w with
    | fz w => cases w; exact q H'
end
end T3

/-! T3, part h: stores into owned lists, objects that are made, their fields; the syntax of built-in calls. -/
namespace T3
open PySem L2

/-! ### x[i] = e -/
def sSet (s : Nat) (g gi : IF) : SS := fun env => (g env).bind fun p => (pVar s p.2).bind fun _ => (gi p.2).bind fun q => match q.1 with
  | .int k => (pVar s q.2).bind fun d0 => (lstOf d0).bind fun xs => (ixN xs.length k).map fun j => (.nx, q.2.set s (some (.lst (xs.set j p.1))))
  | _ => none
section
variable {X : Cx} {ct : CT} {P : Par} {m : List OT} {st : Stmt} {s i : Nat} {g gi : IF} {e eo e2 : Expr}
theorem sj_set (mk : ∀ te to ti, PE X e te → PE X eo to → PE X e2 ti → PS X st (tAsg te (gSub to ti rSetL))) (he : EI X ct m e g .fz) (h0 : PE X eo (tVar s)) (hi : EI X ct m e2 gi .fz) (hm : m[s]? = some (.lst .fz)) : SJ X ct P m st (sSet s g gi) m := ps_imp (mk _ _ _ he h0 hi) fun D σ H ⟨F, A, env, fl, env', o, r, ee, q⟩ => by
  obtain ⟨⟨d, env1⟩, e1, ee⟩ := bind_some2 ee
  obtain ⟨d00, e0, ee⟩ := bind_some2 ee
  obtain ⟨⟨kd, env2⟩, e3, ee⟩ := bind_some2 ee
  cases kd <;> simp only at ee <;> first | (cases ee; done) | skip
  rename_i k
  obtain ⟨d0, e4, ee⟩ := bind_some2 ee
  obtain ⟨xs, e5, ee⟩ := bind_some2 ee
  obtain ⟨j, e6, ee⟩ := map_some2 ee
  cases ee
  refine ⟨F, A, env, d, env1, o, r, e1, fun F1 H1 A1 B1 v s1 o1 r1 w1 => ?_⟩
  cases w1 with
  | fz w1 =>
    rw [List.append_nil] at s1 o1
    obtain ⟨v0, g1, _⟩ := r1.viewAt (bind_id e0)
    refine ⟨v0, g1, F1, A1, env1, _, env2, o1, r1, e3, fun F2 H2 A2 B2 v2 s2 o2 r2 w2 => ?_⟩
    cases w2 with
    | fz w2 =>
      cases w2
      rw [List.append_nil] at s2 o2
      obtain ⟨v', B, R, h1, h2, h3, h4, h5, back⟩ := r2.lend o2 hm (bind_id e4)
      rw [g1] at h1
      cases h1
      cases h2 with
      | @lst _ a xs' vs _ h2 h2' =>
        obtain ⟨hr2, rfl⟩ := OwnAll.fz' h2'
        cases e5
        refine ⟨a, vs, k, j, rfl, rfl, h2, by rw [← hr2.len]; exact e6, ?_⟩
        obtain ⟨s3, o3⟩ := write_own (u := .lst vs) (u' := .lst (vs.set j v)) h3 List.mem_cons_self
        obtain ⟨A3, r3, s4, o4⟩ := back F2 _ (.lst .fz) (.lst (xs.set j d)) _ [] (by rw [List.append_nil]; exact s3) (by rw [List.append_nil]; exact o3) (.lst (B := []) upd_same (OwnAll.of_fz (hr2.setI (w1.mono s2.fs) j)))
        rw [set_same hm] at r3
        rw [List.append_nil] at s4 o4
        exact q F2 _ A3 σ ((s1.trans s2).trans s4) o4 r3 Pin.refl
end
/-! ### targets that store into owned lists -/
def tGS (K : PySem.W.Frag) (ct : CT) (P : Par) (m : List OT) (bnd : D → Env → Option Env) : L2.TG := fun v σ H Q => ∃ F A env d env', Ok A F H ∧ EnvR K ct F H m env σ A ∧ Rel K ct F d v ∧ bnd d env = some env' ∧
  ∀ F' H' A' σ', Stp A F H A' F' H' → Ok A' F' H' → EnvR K ct F' H' m env' σ' A' → Pin P.ps σ σ' → Q σ' H'
def tGSs (K : PySem.W.Frag) (ct : CT) (P : Par) (m : List OT) (bnd : List D → Env → Option Env) : L2.TGs := fun vs σ H Q => ∃ F A env ds env', Ok A F H ∧ EnvR K ct F H m env σ A ∧ RelAll K ct F ds vs ∧ bnd ds env = some env' ∧
  ∀ F' H' A' σ', Stp A F H A' F' H' → Ok A' F' H' → EnvR K ct F' H' m env' σ' A' → Pin P.ps σ σ' → Q σ' H'
abbrev GS (X : Cx) (ct : CT) (P : Par) (m : List OT) (tg : Expr) (b : D → Env → Option Env) : Prop := PG X tg (tGS X.K ct P m b)
abbrev GSs (X : Cx) (ct : CT) (P : Par) (m : List OT) (tg : List Expr) (b : List D → Env → Option Env) : Prop := PGs X tg (tGSs X.K ct P m b)
def bNm (i : Nat) : D → Env → Option Env := fun d env => some (env.set i (some d))
def bSub (s : Nat) (gi : IF) : D → Env → Option Env := fun d env => (pVar s env).bind fun _ => (gi env).bind fun q => match q.1 with
  | .int k => (pVar s q.2).bind fun d0 => (lstOf d0).bind fun xs => (ixN xs.length k).map fun j => q.2.set s (some (.lst (xs.set j d)))
  | _ => none
def bsN : List D → Env → Option Env := fun ds env => match ds with
  | [] => some env
  | _ => none
def bsC (b : D → Env → Option Env) (bs : List D → Env → Option Env) : List D → Env → Option Env := fun ds env => match ds with
  | d :: ds => (b d env).bind fun env' => bs ds env'
  | _ => none
def bTup (n : Nat) (bs : List D → Env → Option Env) : D → Env → Option Env := fun d env => match d with
  | .tup ds => if ds.length = n then bs ds env else none
  | _ => none
theorem pgs_imp {X : Cx} {e : List Expr} {t t' : L2.TGs} (h : PGs X e t) (i : ∀ v σ H Q, t' v σ H Q → t v σ H Q) : PGs X e t' := ⟨fun pins s σ H v u Q I r q => h.run pins s σ H v u Q I r (i v σ H Q q)⟩
section
variable {X : Cx} {ct : CT} {P : Par} {m : List OT} {st : Stmt} {s i n kk : Nat} {g gi : IF} {e tg eo e2 : Expr} {es : List Expr} {b : D → Env → Option Env} {bs : List D → Env → Option Env} {pos : Pos}
theorem gs_nm (h : PG X tg (gName i)) (hm : m[i]? = some .fz) (hp : i ∉ P.ps) : GS X ct P m tg (bNm i) := pg_imp h fun v σ H Q ⟨F, A, env, d, env', o, r, w, e, q⟩ => by
  cases e
  obtain ⟨A2, p2, r2⟩ := r.bind1 hm w
  exact q F H A2 _ (Stp.refl' fun a z => p2.mem_iff.mp z) (o.perm p2.symm) r2 (Pin.set hp)
theorem gs_sub (h : PG X tg (gSub (tVar s) (tI X.K ct m gi .fz) rSetL)) (hm : m[s]? = some (.lst .fz)) : GS X ct P m tg (bSub s gi) := pg_imp h fun v σ H Q ⟨F, A, env, d, env', o, r, w, ee, q⟩ => by
  obtain ⟨d00, e0, ee⟩ := bind_some2 ee
  obtain ⟨⟨kd, env2⟩, e3, ee⟩ := bind_some2 ee
  cases kd <;> simp only at ee <;> first | (cases ee; done) | skip
  rename_i k
  obtain ⟨d0, e4, ee⟩ := bind_some2 ee
  obtain ⟨xs, e5, ee⟩ := bind_some2 ee
  obtain ⟨j, e6, ee⟩ := map_some2 ee
  cases ee
  obtain ⟨v0, g1, _⟩ := r.viewAt (bind_id e0)
  refine ⟨v0, g1, F, A, env, _, env2, o, r, e3, fun F2 H2 A2 B2 v2 s2 o2 r2 w2 => ?_⟩
  cases w2 with
  | fz w2 =>
    cases w2
    rw [List.append_nil] at s2 o2
    obtain ⟨v', B, R, h1, h2, h3, h4, h5, back⟩ := r2.lend o2 hm (bind_id e4)
    rw [g1] at h1
    cases h1
    cases h2 with
    | @lst _ a xs' vs _ h2 h2' =>
      obtain ⟨hr2, rfl⟩ := OwnAll.fz' h2'
      cases e5
      refine ⟨a, vs, k, j, rfl, rfl, h2, by rw [← hr2.len]; exact e6, ?_⟩
      obtain ⟨s3, o3⟩ := write_own (u := .lst vs) (u' := .lst (vs.set j v)) h3 List.mem_cons_self
      obtain ⟨A3, r3, s4, o4⟩ := back F2 _ (.lst .fz) (.lst (xs.set j d)) _ [] (by rw [List.append_nil]; exact s3) (by rw [List.append_nil]; exact o3) (.lst (B := []) upd_same (OwnAll.of_fz (hr2.setI (w.mono s2.fs) j)))
      rw [set_same hm] at r3
      rw [List.append_nil] at s4 o4
      exact q F2 _ A3 σ (s2.trans s4) o4 r3 Pin.refl
theorem gss_nil : GSs X ct P m [] bsN := pgs_imp pgs_nil fun v σ H Q ⟨F, A, env, ds, env', o, r, w, e, q⟩ => by
  cases w with
  | nil => cases e; exact ⟨rfl, q F H A σ Stp.refl o r Pin.refl⟩
  | cons _ _ => cases e
theorem gss_cons (h : GS X ct P m e b) (hs : GSs X ct P m es bs) (ha : (assignEach (e :: es) X.env).map (·.2) = assign e X.env :: (assignEach es X.env).map (·.2) := by rfl) : GSs X ct P m (e :: es) (bsC b bs) := pgs_imp (pgs_cons h hs ha) fun v σ H Q ⟨F, A, env, ds, env', o, r, w, e, q⟩ => by
  cases w with
  | nil => cases e
  | cons w1 w2 =>
    obtain ⟨env1, e1, e2⟩ := bind_some2 e
    exact ⟨_, _, rfl, F, A, env, _, env1, o, r, w1, e1, fun F1 H1 A1 σ1 s1 o1 r1 p1 => ⟨F1, A1, env1, _, env', o1, r1, w2.mono s1.fs, e2, fun F' H' A' σ' s' o' r' p' => q F' H' A' σ' (s1.trans s') o' r' (p1.trans p')⟩⟩
theorem gs_tup (hc : X.calm = true) (h : GSs X ct P m es bs) (hn : (assignEach es X.env).length = n := by rfl) (hst : (assignEach es X.env).findIdx? (·.1) = none := by rfl) : GS X ct P m (.Tuple es kk pos) (bTup n bs) := pg_imp (pg_tup hc h hn hst) fun v σ H Q ⟨F, A, env, d, env', o, r, w, e, q⟩ => by
  cases d <;> simp only [bTup] at e <;> first | (cases e; done) | skip
  rename_i ds
  split at e
  · rename_i hl
    obtain ⟨a, vs, ev, h, w2⟩ : ∃ a vs, v = .ref a ∧ SqT X.K F a vs ∧ RelAll X.K ct F ds vs := by
      cases w with
      | tup h w => exact ⟨_, _, rfl, h, w⟩
    subst ev
    exact ⟨a, vs, rfl, sqT_mono o.sub h, by rw [← w2.len]; exact hl, F, A, env, ds, env', o, r, w2, e, q⟩
  · cases e
theorem sj_tg (mk : ∀ te g, PE X e te → PG X tg g → PS X st (tAsg te g)) (he : EI X ct m e g .fz) (hg : GS X ct P m tg b) : SJ X ct P m st (sTg b g) m := ps_imp (mk _ _ he hg) fun D σ H ⟨F, A, env, fl, env', o, r, ee, q⟩ => by
  obtain ⟨⟨d, env1⟩, e1, ee⟩ := bind_some2 ee
  obtain ⟨env2, e2, ee⟩ := map_some2 ee
  cases ee
  refine ⟨F, A, env, d, env1, o, r, e1, fun F1 H1 A1 B1 v s1 o1 r1 w1 => ?_⟩
  cases w1 with
  | fz w1 =>
    rw [List.append_nil] at s1 o1
    exact ⟨F1, A1, env1, d, _, o1, r1, w1, e2, fun F' H' A' σ' s' o' r' p' => q F' H' A' σ' (s1.trans s') o' r' p'⟩
end
/-! ### objects that are made -/
def mkObj (c : Nat) (G : D → List D → Option (D × D)) (ds : List D) : Option D := (G (.obj c []) ds).bind fun q => match q.1 with
  | .non => some q.2
  | _ => none
section
variable {X : Cx} {ct : CT} {m : List OT} {k c : Nat} {f C : Addr} {fd : FuncData} {ps names : List Str} {ks : List OT} {G : D → List D → Option (D × D)} {x : Str} {p pos : Pos} {e : Expr} {es : List Expr} {fs : PFs} {gs : IFs} {E : XK}
theorem vo_make {F H : Hp} {ds : List D} {vs : List V} {d : D} {Q : VK} (ci : ct c = some (C, names)) (o : Ok [] F H) (w : RelAll X.K ct F ds vs) (e : mkObj c G ds = some d)
    (q : ∀ F' H' B v, Stp [] F H B F' H' → Ok B F' H' → Own X.K ct F' H' (.ins c ks) d v B → Q v H') :
    ∀ x dx, H x = none → H dx = none → dx ≠ x → sp1 X.K ct .fz (.ins c []) (.ins c ks) G (.ref x :: (vs ++ [])) (upd (upd H dx (.own x)) x (.ins C dx [])) (fun v H2 => v = .non ∧ Q (.ref x) H2) E := by
  intro x dx hx hdx hne
  obtain ⟨⟨r, d1⟩, e1, e2⟩ := bind_some2 e
  cases r <;> simp only at e2 <;> first | (cases e2; done) | skip
  cases e2
  have s1 : Sub H (upd (upd H dx (.own x)) x (.ins C dx [])) := fun a u h => by
    have n1 : a ≠ x := fun z => by rw [z, hx] at h; cases h
    have n2 : a ≠ dx := fun z => by rw [z, hdx] at h; cases h
    rw [upd_ne n1, upd_ne n2]
    exact h
  have fx : F x = none := by
    cases z : F x with
    | none => rfl
    | some u => rw [o.sub x u z] at hx; cases hx
  have st : Stp [] F H [x] F (upd (upd H dx (.own x)) x (.ins C dx [])) := ⟨fun _ _ h => h, fun a u h _ => s1 a u h, fun _ _ h => .inl h, fun a h => .inr (by rw [List.mem_singleton.mp h]; exact hx)⟩
  have o1 : Ok [x] F (upd (upd H dx (.own x)) x (.ins C dx [])) := ⟨fun a u h => s1 a u (o.sub a u h), by simp, fun a h => by rw [List.mem_singleton.mp h]; exact fx⟩
  have w0 : Own X.K ct F (upd (upd H dx (.own x)) x (.ins C dx [])) (.ins c []) (.obj c []) (.ref x) [x] := Own.ins (vs := []) (B := []) (dx := dx) ci (Nat.zero_le _) (by rw [upd_same, List.zip_nil_right]) .nil
  refine ⟨F, [x], .ref x, vs, .obj c [], ds, .non, _, by rw [List.append_nil], o1, w0, w, e1, fun F' H' A' B v s2 o2 w2 w3 => ?_⟩
  cases w3 with
  | fz w3 =>
    cases w3
    rw [List.append_nil] at s2 o2
    exact ⟨rfl, q F' H' A' (.ref x) (st.trans s2) o2 w2⟩
theorem ep_make (ci : ct c = some (C, names)) (M : Mk X.K C f) (F : FnOk X.prog X.w X.K X.mg X.base CX0 k f fd ps (sp1 X.K ct .fz (.ins c []) (.ins c ks) G)) (hr : Room (k + 1) X.A) (hg : Gl X x) (hm : X.mg x = some (.ref C)) (hb : Binds X.K fd ps []) (ha : AF X ct m (e :: es) fs)
    (hdb : (x == ("__debug__" : Str)) = false := by decide) (he : starEach (e :: es) X.env = (false, eval e X.env) :: starEach es X.env := by rfl) (hpl : (backTo pos (starEach es X.env)).any (·.1) = false := by rfl) :
    EP X ct m (.Call (.Name x p) (e :: es) [] pos) (pN (mkObj c G) fs) (.ins c ks) :=
  pe_imp (pe_make M F hr hg hm hb .nil (show Passes CX0 X (fun _ _ _ => False) from pass0) ha hdb he hpl) fun σ H Q ⟨F, A, env, d, o, r, e, q⟩ => by
    obtain ⟨ds, e1, e⟩ := bind_some2 e
    exact ⟨F, A, env, ds, o, r, e1, fun F' H' vs s o' w => vo_make ci o' w e fun F2 H2 B v s2 o2 w2 => q F2 H2 B v (s.trans s2) o2 w2⟩
theorem ei_make (ci : ct c = some (C, names)) (M : Mk X.K C f) (F : FnOk X.prog X.w X.K X.mg X.base CX0 k f fd ps (sp1 X.K ct .fz (.ins c []) (.ins c ks) G)) (hr : Room (k + 1) X.A) (hg : Gl X x) (hm : X.mg x = some (.ref C)) (hb : Binds X.K fd ps []) (ha : AI X ct m (e :: es) gs)
    (hdb : (x == ("__debug__" : Str)) = false := by decide) (he : starEach (e :: es) X.env = (false, eval e X.env) :: starEach es X.env := by rfl) (hpl : (backTo pos (starEach es X.env)).any (·.1) = false := by rfl) :
    EI X ct m (.Call (.Name x p) (e :: es) [] pos) (iN (mkObj c G) gs) (.ins c ks) :=
  pe_imp (pe_make M F hr hg hm hb .nil (show Passes CX0 X (fun _ _ _ => False) from pass0) ha hdb he hpl) fun σ H Q ⟨F, A, env, d, env', o, r, e, q⟩ => by
    obtain ⟨⟨ds, env1⟩, e1, e⟩ := bind_some2 e
    obtain ⟨d', e2, e⟩ := map_some2 e
    cases e
    refine ⟨F, A, env, ds, env1, o, r, e1, fun F' H' A' vs s o' r' w => vo_make ci o'.nil w e2 fun F2 H2 B v s2 o2 w2 => ?_⟩
    obtain ⟨s3, o3, r3⟩ := Stp.then_pure s o' r' s2 o2
    exact q F2 H2 A' B v s3 o3 r3 w2
end
/-! ### a new field of an owned object -/
def sFldN (s c j : Nat) (g : IF) : SS := fun env => (g env).bind fun p => (pVar s p.2).bind fun d0 => match d0 with
  | .obj c' fs => if c' = c ∧ fs.length = j then some (.nx, p.2.set s (some (.obj c (fs ++ [p.1])))) else none
  | _ => none
theorem putF_new {f : Str} {y : V} : ∀ {names : List Str} {vs : List V}, nix names f = some vs.length → putF f y (names.zip vs) = names.zip (vs ++ [y])
  | [], vs, h => by cases h
  | g :: gs, [], h => by
    unfold nix at h
    split at h
    · rename_i e
      subst e
      simp [putF]
    · obtain ⟨j', _, e⟩ := map_some2 h
      simp at e
  | g :: gs, v :: vs, h => by
    unfold nix at h
    split at h
    · cases h
    · rename_i e
      obtain ⟨j', e1, e2⟩ := map_some2 h
      have e3 : j' = vs.length := by simpa using e2
      subst e3
      show (if g = f then (g, y) :: gs.zip vs else (g, v) :: putF f y (gs.zip vs)) = _
      rw [if_neg e, putF_new e1]
      rfl
theorem OwnEach.app {K : PySem.W.Frag} {ct : CT} {F H : Hp} {k : OT} {d : D} {v : V} {C : List Addr} (h : Own K ct F H k d v C) : ∀ {ks : List OT} {ds : List D} {vs : List V} {B : List Addr}, OwnEach K ct F H ks ds vs B → OwnEach K ct F H (ks ++ [k]) (ds ++ [d]) (vs ++ [v]) (B ++ C)
  | _, _, _, _, .nil => by simpa using OwnEach.cons h .nil
  | _, _, _, _, .cons h1 r => by rw [List.append_assoc]; exact .cons h1 (OwnEach.app h r)
section
variable {X : Cx} {ct : CT} {P : Par} {m : List OT} {s c j : Nat} {g : IF} {C : Addr} {names : List Str} {ks : List OT} {st : Stmt} {e eo : Expr} {fn : Str}
theorem sj_fldN (mk : ∀ ta tv, PE X eo ta → PE X e tv → PS X st (sFld X.K ta tv fn)) (ci : CInfo X.K ct c C names) (hj : nix names fn = some j) (hs : names.length ≤ 900) (h0 : PE X eo (tVar s)) (he : EI X ct m e g .fz) (hm : m[s]? = some (.ins c ks)) :
    SJ X ct P m st (sFldN s c j g) (m.set s (.ins c (ks ++ [.fz]))) := ps_imp (mk _ _ h0 he) fun D σ H ⟨F, A, env, fl, env', o, r, ee, q⟩ => by
  obtain ⟨⟨d, env1⟩, e1, ee⟩ := bind_some2 ee
  obtain ⟨d0, e2, ee⟩ := bind_some2 ee
  cases d0 <;> simp only at ee <;> first | (cases ee; done) | skip
  split at ee
  · rename_i c' fs hcl
    obtain ⟨rfl, hl⟩ := hcl
    cases ee
    refine ⟨F, A, env, d, env1, o, r, e1, fun F1 H1 A1 B1 v s1 o1 r1 w1 => ?_⟩
    cases w1 with
    | fz w1 =>
      rw [List.append_nil] at s1 o1
      obtain ⟨v0, B, R, h1, h2, h3, h4, h5, back⟩ := r1.lend o1 hm (bind_id e2)
      cases h2 with
      | @ins _ a C' dx names' _ xs vs B' g1 g2 g3 g4 =>
        rw [ci.at_] at g1
        cases g1
        have hlv : vs.length = j := by rw [← g4.len]; exact hl
        have hzl : (names.zip vs).length < 1000 := by rw [List.length_zip]; omega
        refine ⟨_, h1, a, C, dx, _, rfl, g3, ci.cl, ci.na fn (nix_mem hj), hzl, ?_⟩
        obtain ⟨s2, o2⟩ := write_own (u := .lst []) (u' := .ins C dx (putF fn v (names.zip vs))) h3 List.mem_cons_self
        have na : a ∉ B' := (List.nodup_cons.mp h3.nd).1
        have jl : j < names.length := by
          have : ∀ {names : List Str} {j : Nat}, nix names fn = some j → j < names.length := by
            intro names
            induction names with
            | nil => intro j h; cases h
            | cons g gs ih =>
              intro j h
              unfold nix at h
              split at h
              · cases h; simp
              · obtain ⟨j', e1, e2⟩ := map_some2 h
                have := ih e1
                simp only [List.length_cons]
                omega
          exact this hj
        have w3 : Own X.K ct F1 (upd H1 a (.ins C dx (putF fn v (names.zip vs)))) (.ins c' (ks ++ [.fz])) (.obj c' (fs ++ [d])) (.ref a) (a :: B') := by
          have z := OwnEach.app (C := []) (Own.fz (K := X.K) (ct := ct) (F := F1) (H := upd H1 a (.ins C dx (putF fn v (names.zip vs)))) w1) (g4.mono (fun _ _ h => h) fun b hb u h => by rw [upd_ne fun z => na (by rw [← z]; exact hb)]; exact h)
          rw [List.append_nil] at z
          exact .ins ci.at_ (show (vs ++ [v]).length ≤ names.length by rw [List.length_append, List.length_singleton]; omega) (by rw [upd_same, putF_new (by rw [hlv]; exact hj)]) z
        obtain ⟨A3, r3, s4, o4⟩ := back F1 _ (.ins c' (ks ++ [.fz])) _ _ [] (by rw [List.append_nil]; exact s2) (by rw [List.append_nil]; exact o2) w3
        rw [List.append_nil] at s4 o4
        exact q F1 _ A3 σ (s1.trans s4) o4 r3 Pin.refl
  · cases ee
end
end T3

/-! T3, part s: sorted(set(xs)) of a list of ints. -/
namespace T3
open PySem L2 PySem.Spec PyProof.Rows
/-- an empty set, as it is laid -/
abbrev eSet (w : World) : Obj := { cls := .type "set", dict := none, data := .set #[] 0 (.fresh 0 0 (!w.params.followText "set-order")) }
section
variable {P : Program} {w : World} {A : Around} {E : Value → Shared → Prop} {s : Shared}
set_option maxRecDepth 100000 in
set_option maxHeartbeats 4100000 in
theorem setOfList {l : Addr} {its : Array Value} (ns : List Int) {Q : Value → Shared → Prop} (ha : A.handled = none) (hl : s.heap.IsList l its) (hi : IntsAre its.toList ns) (hb : ns.length + 1 < scanBound)
    (q : ∀ (h' : Heap) (tk c : Nat), SetR w h' s.heap.objs.size (fun j => decide (j ∈ ns)) c → c ≤ ns.length → (∀ b o, s.heap.get? b = some o → h'.get? b = some o) → Q (.ref s.heap.objs.size) { s with heap := h', toks := tk }) : wpAny (model P w) A (call (.type "set") [.ref l]) Q E s := by
  have zl : its.size = ns.length := by have z := IntsAre.length hi; rwa [Array.length_toList] at z
  obtain ⟨c, tl, hmro⟩ := F.called_set.mro
  have a1 := F.called_set.made; have a2 := F.called_set.sub
  refine wpAny_call (codeAny_of_tree ?_); show wpAny _ _ (callAny (.type "set") _) _ _ _
  refine wpAny_pure ⟨Code.quiet_builtin _ (by decide +kernel), codeAny_builtin F.entry_type_call ?_⟩; rw [Around.under_plain (weight_type_call_type "set" [.ref l] []) rfl]
  have a3 := F.called_set.notType; have a4 := F.called_set.canCreate; have a5 := F.typeCall_set_1 (.ref l)
  repeat (any_goals (first | assumption | wp_step))

  refine codeAny_mono (code_set_led1 (.ref l) (E := E) (Q₁ := fun z t => z = .ref s.heap.objs.size ∧ t = { s with heap := s.heap.push (eSet w) }) ⟨rfl, rfl⟩) fun r t hr => ?_
  cases r with
  | error e => exact hr
  | ok fl =>
    cases fl with
    | ret obj =>
      obtain ⟨rfl, rfl⟩ := hr
      have b1 : (s.heap.push (eSet w)).get? s.heap.objs.size = some (eSet w) := Heap.get?_push_size _ rfl
      have b2 : Shared.TypeIs { s with heap := s.heap.push (eSet w) } (.ref s.heap.objs.size) "set" := ⟨_, b1, rfl⟩
      have b3 := F.called_set.init.lookup; have b4 := F.called_set.init.bind (.ref s.heap.objs.size)
      repeat (any_goals (first | assumption | wp_step))

      refine codeAny_mono (codeAny_call_builtin (R := wants (fun r u => r = .none ∧ ∃ h' tk c, u = { s with heap := h', toks := tk } ∧ SetR w h' s.heap.objs.size (fun j => decide (j ∈ ns)) c ∧ c ≤ ns.length ∧ (∀ b o, s.heap.get? b = some o → h'.get? b = some o)) E) F.called_set.init.plain F.entry_set_init (check_set_init_1 b2 ?_)) fun r2 s2 hr2 => ?_
      · obtain ⟨ol, hol, hcl, nl, hdl⟩ := hl
        obtain ⟨ocls, odict, odata, oslots⟩ := ol
        simp only at hcl hdl; subst hcl; subst hdl
        have c1 : (s.heap.push (eSet w)).get? l = some { cls := .type "list", dict := odict, data := .seq its nl, slots := oslots } := Heap.get?_push_of_some _ hol
        have c2 := F.sub_list_set; have c3 := F.sub_list_frozenset
        have c4 : (Value.type "list" == Value.type "dict") = false := by decide
        have c5 : (s.heap.push (eSet w)).IsList l its := ⟨_, c1, rfl, nl, rfl⟩
        unfold Builtin.«set.__init__» noKeywords Builtin.Frozenset.updateFrom; generalize hPI : pyIter = PI
        wp_walk
        subst hPI

        refine wpAny_pyIter_list c5 (wpAny_bind (wpAny_runValue ?_))
        have d0 : l < s.heap.objs.size := Heap.lt_size hol
        have d1 : A.in1.in1.in1.handled = none := by simp [ha]
        have d2 : l ≠ (s.heap.push (eSet w)).objs.size := by rw [Heap.size_push]; exact Nat.ne_of_lt (Nat.lt_succ_of_lt d0)
        have d3 : s.heap.objs.size ∉ [(s.heap.push (eSet w)).objs.size, l] := by
          rw [Heap.size_push]; simp only [List.mem_cons, List.mem_singleton, List.not_mem_nil, or_false, not_or]; exact ⟨Nat.ne_of_lt (Nat.lt_succ_self _), Nat.ne_of_gt d0⟩
        have d4 : ∀ (i : Nat) (v : Value), its[i]? = some v → ∃ k t, ns[i]? = some k ∧ v = .int k t := fun i v hv => by
          have z : i < ns.length := by rw [← zl]; exact (Array.getElem?_eq_some_iff.mp hv).1
          obtain ⟨t, e⟩ := IntsAre.int_at hi i v (by rw [Array.getElem?_toList]; exact hv)
          exact ⟨ns[i], t, List.getElem?_eq_getElem z, by rw [e, List.getD_eq_getElem?_getD, List.getElem?_eq_getElem z] <;> rfl⟩
        refine set_update_ints ((Walks.list d1 _ l d2 its).toS) s.heap.objs.size d3 ns zl hb d4 (its.size - 0) 0 _ (by omega) (Nat.zero_le _) ⟨⟨_, Heap.get?_push_size _ rfl, rfl, rfl⟩, (c5.push _)⟩ ⟨0, Nat.le_refl 0, setR_new_at (Heap.get?_push_of_some _ b1)⟩ ?hR
        case hR =>
          intro s' c' hm hc' hS'
          obtain ⟨h', g2, d', tk', os'⟩ := s'
          cases (show g2 = s.gens from hm.gens); cases (show d' = s.drawn from hm.drawn); cases (show os' = s.os from hm.os)
          show wpAny _ _ _ _ _ _
          refine wpAny_pure ?_; show wpAny _ _ (ret Value.none) _ _ _; rw [zl] at hc'
          refine wpAny_pure ⟨rfl, h', tk', c', rfl, hS', hc', fun b o e => ?_⟩
          have z0 : b < s.heap.objs.size := Heap.lt_size e
          have z2 : b ≠ (s.heap.push (eSet w)).objs.size := by rw [Heap.size_push]; exact Nat.ne_of_lt (Nat.lt_succ_of_lt z0)
          refine hm.heap b o ?_ (Heap.get?_push_of_some _ (Heap.get?_push_of_some _ e))
          simp only [List.mem_cons, List.mem_singleton, List.not_mem_nil, or_false, not_or]; exact ⟨Nat.ne_of_lt z0, z2⟩

      · cases r2 with
        | error e => exact hr2
        | ok fl2 =>
          cases fl2 with
          | ret r =>
            obtain ⟨rfl, h', tk, c', rfl, hS', hc', hk'⟩ := hr2
            repeat (any_goals (first | assumption | wp_step))
            exact q _ _ _ hS' hc' hk'
          | _ => exact hr2.elim
    | _ => exact hr.elim
end
section
variable {X : Cx}
def rSetL (w : World) (K : PySem.W.Frag) : List V → Hp → VK → Prop := fun xs H Q => ∃ (a : Addr) (ns : List Int), xs = [.ref a] ∧ (SqL K H a (ns.map V.int) ∨ SqT K H a (ns.map V.int)) ∧ ns.length + 1 < scanBound ∧
  ∀ p c, H p = none → c ≤ ns.length → Q (.ref p) (upd H p (SetO w p (fun j => decide (j ∈ ns)) c))
theorem call_setL (hc : X.calm = true) : CallR X (.type "set") (rSetL X.w X.K) := by
  intro pins s σ H xs us Q I r h
  obtain ⟨a, ns, rfl, hs, hb, q⟩ := h
  rw [Vals.ref1 r]
  have hn : H s.heap.objs.size = none := I.hok.fresh (Nat.le_refl _)
  rcases hs with hs | hs
  · obtain ⟨its, rv, pl, hz⟩ := I.list hs
    refine setOfList ns (I.ok.hd hc) pl.isList (by simpa using intsAre_of rv) hb fun h' tk c R hcl k => ?_
    exact ⟨.ref s.heap.objs.size, _, I.laid (t' := tk) k (Nat.le_refl _) (setO_new R), rfl, q _ c hn hcl⟩
  · obtain ⟨its, rv, pt, hz⟩ := I.tuple hs
    refine call_set_tupI ns (I.ok.hd hc) (show s.heap.IsTuple a its.toArray from pt) (by simpa using intsAre_of rv) hb fun h' tk c R hcl k => ?_
    exact ⟨.ref s.heap.objs.size, _, I.laid (t' := tk) k (Nat.le_refl _) (setO_new R), rfl, q _ c hn hcl⟩
end
/-! ### the two calls together -/
def dedup : List Int → List Int
  | a :: b :: r => if a = b then dedup (b :: r) else a :: dedup (b :: r)
  | l => l
def sortU (ns : List Int) : List Int := dedup (isI ns)
theorem dedup_mem : ∀ (l : List Int) (k : Int), k ∈ dedup l ↔ k ∈ l
  | [], k => by simp [dedup]
  | [a], k => by simp [dedup]
  | a :: b :: r, k => by
    unfold dedup
    split
    · rename_i e
      rw [dedup_mem (b :: r) k, e]
      simp
    · rw [List.mem_cons, dedup_mem (b :: r) k, List.mem_cons (a := k) (b := a)]
theorem dedup_lt : ∀ (l : List Int), l.Pairwise (· ≤ ·) → (dedup l).Pairwise (· < ·)
  | [], _ => .nil
  | [a], _ => by simp [dedup]
  | a :: b :: r, h => by
    unfold dedup
    have h2 := (List.pairwise_cons.mp h).2
    split
    · exact dedup_lt (b :: r) h2
    · rename_i e
      refine List.pairwise_cons.mpr ⟨fun c hc => ?_, dedup_lt (b :: r) h2⟩
      rw [dedup_mem] at hc
      have h1 := (List.pairwise_cons.mp h).1
      have := h1 b List.mem_cons_self
      rcases List.mem_cons.mp hc with rfl | hc
      · omega
      · have := (List.pairwise_cons.mp h2).1 c hc
        omega
theorem sortU_mem (ns : List Int) (k : Int) : k ∈ sortU ns ↔ k ∈ ns := by
  unfold sortU
  rw [dedup_mem, (isI_perm ns).mem_iff]
theorem sortU_lt (ns : List Int) : (sortU ns).Pairwise (· < ·) := dedup_lt _ (isI_sorted ns)
theorem lt_unique : ∀ {as bs : List Int}, (∀ k, k ∈ as ↔ k ∈ bs) → as.Pairwise (· < ·) → bs.Pairwise (· < ·) → as = bs
  | [], [], _, _, _ => rfl
  | [], b :: bs, h, _, _ => by have := (h b).mpr List.mem_cons_self; simp at this
  | a :: as, [], h, _, _ => by have := (h a).mp List.mem_cons_self; simp at this
  | a :: as, b :: bs, h, p, q => by
    rw [List.pairwise_cons] at p q
    have e : a = b := by
      rcases List.mem_cons.mp ((h a).mp List.mem_cons_self) with e | h1
      · exact e
      · rcases List.mem_cons.mp ((h b).mpr List.mem_cons_self) with e | h2
        · exact e.symm
        · have := p.1 b h2
          have := q.1 a h1
          omega
    subst e
    rw [lt_unique (fun k => ?_) p.2 q.2]
    have hk := h k
    simp only [List.mem_cons] at hk
    constructor
    · intro z
      rcases hk.mp (.inr z) with e | e
      · subst e; have := p.1 k z; omega
      · exact e
    · intro z
      rcases hk.mpr (.inr z) with e | e
      · subst e; have := q.1 k z; omega
      · exact e
def nSortSet : List D → Option D
  | [.lst xs] => (dInts xs).bind fun ns => if ns.length < 64 then some (.lst ((sortU ns).map .int)) else none
  | [.tup xs] => (dInts xs).bind fun ns => if ns.length < 64 then some (.lst ((sortU ns).map .int)) else none
  | _ => none
section
variable {X : Cx} {ct : CT} {m : List OT} {e : Expr} {fs : PFs} {gs : IFs} {p p2 pos pos2 : Pos}
theorem imp_sset {ta : TA} {σ : L2.St} {H : Hp} {Q : VK} (h : ta σ H fun vs H1 => rSetL X.w X.K vs H1 fun x H2 => rSortedSet X.w [x] H2 Q) : tCB (rSortedSet X.w) (tCons (tCB (rSetL X.w X.K) ta) tNil) σ H Q := h
theorem go_sset {F H : Hp} {vs : List V} {ds : List D} {d : D} {Q : VK} (o : Ok [] F H) (w : Paired (Wv X.K ct F H) ds vs) (e : nSortSet ds = some d)
    (q : ∀ F' H' B v, Stp [] F H B F' H' → Ok B F' H' → Own X.K ct F' H' (.lst .fz) d v B → Q v H') : rSetL X.w X.K vs H fun x H2 => rSortedSet X.w [x] H2 Q := by
  have go : ∀ (a : Addr) (us : List V) (xs : List D), (SqL X.K H a us ∨ SqT X.K H a us) → RelAll X.K ct F xs us → ((dInts xs).bind fun ns => if ns.length < 64 then some (D.lst ((sortU ns).map .int)) else none) = some d → rSetL X.w X.K [.ref a] H fun x H2 => rSortedSet X.w [x] H2 Q := by
    intro a us xs h r e
    obtain ⟨ns, e1, e⟩ := bind_some2 e
    split at e
    · rename_i hl
      cases e
      have ex := dInts_eq e1
      subst ex
      have ev := relAll_ints_eq r
      subst ev
      refine ⟨a, ns, rfl, h, by unfold scanBound; omega, fun p c hp hc => ?_⟩
      refine ⟨p, _, c, rfl, upd_same, by omega, fun ns' p' hs hm hn hp' => ?_⟩
      have en : ns' = sortU ns := lt_unique (fun k => by rw [hm, sortU_mem, decide_eq_true_iff]) hs (sortU_lt ns)
      subst en
      have sub1 : Sub H (upd H p (SetO X.w p (fun j => decide (j ∈ ns)) c)) := fun a u h => by rw [upd_ne fun e => by rw [e, hp] at h; cases h]; exact h
      have s1 : Stp [] F H [] F (upd H p (SetO X.w p (fun j => decide (j ∈ ns)) c)) := ⟨fun _ _ h => h, fun a u h _ => sub1 a u h, fun _ _ h => .inl h, fun _ h => nomatch h⟩
      have o1 : Ok [] F (upd H p (SetO X.w p (fun j => decide (j ∈ ns)) c)) := ⟨fun a u h => sub1 a u (o.sub a u h), List.nodup_nil, fun _ h => nomatch h⟩
      obtain ⟨s2, o2, _⟩ := new_own (u := .lst ((sortU ns).map V.int)) o1 hp'
      exact q F _ [p'] _ (s1.trans s2) o2 (.lst (B := []) upd_same (OwnAll.of_fz (relAll_ints _)))
    · cases e
  match ds, e with
  | [.lst xs], e =>
    obtain ⟨v, rfl, w1⟩ := paired1 w
    obtain ⟨a, us, rfl, h, r⟩ := wv_lst o.sub w1
    exact go a us xs (.inl (.of h)) r e
  | [.tup xs], e =>
    obtain ⟨v, rfl, w1⟩ := paired1 w
    obtain ⟨a, us, rfl, h, _, r⟩ := wv_tup o.sub w1
    exact go a us xs (.inr h) r e
theorem ep_sset (hc : X.calm = true) (hg : Gl X "sorted") (hm : X.mg "sorted" = none) (hg2 : Gl X "set") (hm2 : X.mg "set" = none) (ha : AW X ct m [e] fs)
    (h1 : starEach [.Call (.Name "set" p2) [e] [] pos2] X.env = (false, eval (.Call (.Name "set" p2) [e] [] pos2) X.env) :: starEach [] X.env := by rfl) (h2 : (backTo pos (starEach [] X.env)).any (·.1) = false := by rfl)
    (h3 : starEach [e] X.env = (false, eval e X.env) :: starEach [] X.env := by rfl) (h4 : (backTo pos2 (starEach [] X.env)).any (·.1) = false := by rfl) :
    EP X ct m (.Call (.Name "sorted" p) [.Call (.Name "set" p2) [e] [] pos2] [] pos) (pN nSortSet fs) (.lst .fz) :=
  pe_imp (pe_callB (cr_sortedSet hc) hg hm (by decide +kernel) (pa_cons (pe_callTy (call_setL hc) hg2 hm2 (by decide +kernel) ha (by decide) (by decide) h3 h4) pa_nil h1) (by decide) (by decide) h1 h2) fun σ H Q ⟨F, A, env, d, o, r, ee, q⟩ => by
    obtain ⟨ds, e1, e2⟩ := bind_some2 ee
    refine imp_sset ⟨F, A, env, ds, o, r, e1, fun F' H' vs s o' w => ?_⟩
    exact go_sset o' w e2 fun F2 H2 B v s2 o2 w2 => q F2 H2 B v (s.trans s2) o2 w2
end
end T3

/-! T3, part w: words for printed proofs. -/
namespace T3
open PySem L2

theorem hr65 {k : Nat} {A : Around} (r : Room k A) : A.units + 65 < cLine := by have := r.un; omega
section
variable {X : Cx}
theorem pgn (i : Nat) {x : Str} {pos : Pos} (hN : X.N.Nodup) (hi : X.N[i]? = some x := by rfl) (hx : Loc X.env.scope x := by first | exact Or.inl rfl | exact Or.inr rfl)
    (hf : X.fn x = true ∨ X.env.scope.names.lookup x = some .local := by first | exact .inl rfl | exact .inr rfl) : PG X (.Name x pos) (gName i) := pg_name hN hi hx hf
theorem pst (i : Nat) {x : Str} {e : Expr} {te : TE} {pos pos' : Pos} (hN : X.N.Nodup) (he : PE X e te) (hi : X.N[i]? = some x := by rfl) (hx : Loc X.env.scope x := by first | exact Or.inl rfl | exact Or.inr rfl)
    (hs : swapsWith e (some (.Name x pos')) pos.line X.env = pure false := by rfl) (hf : X.fn x = true ∨ X.env.scope.names.lookup x = some .local := by first | exact .inl rfl | exact .inr rfl) : PS X (.Assign [.Name x pos'] e pos) (tAsg te (gName i)) := ps_set hN hi hx he hs hf
end
/-- a def of the text as the top leaves it -/
structure DefIn (K : PySem.W.Frag) (mg : Str → Option Value) (x : Str) (st : Stmt) (ps : List Str) : Prop where
  ex : ∃ (f : Addr) (fd : FuncData), Fun K x x st f fd ∧ mg x = some (.ref f) ∧ PySem.W.keepIn K (.ref f) = true ∧ Binds K fd ps []
/-- a def that may be called -/
structure CalX (P : Program) (w : World) (K : PySem.W.Frag) (mg : Str → Option Value) (base : Heap) (k : Nat) (x : Str) (ps : List Str) (sp : Sp) : Prop where
  ex : ∃ (f : Addr) (fd : FuncData), FnOk P w K mg base CX0 k f fd ps sp ∧ mg x = some (.ref f) ∧ PySem.W.keepIn K (.ref f) = true ∧ Binds K fd ps []
/-- a class whose objects may be made -/
structure MakX (P : Program) (w : World) (K : PySem.W.Frag) (mg : Str → Option Value) (base : Heap) (ct : CT) (k : Nat) (x : Str) (c : Nat) (ks : List OT) (ps : List Str) (G : D → List D → Option (D × D)) : Prop where
  ex : ∃ (C f : Addr) (fd : FuncData) (names : List Str), ct c = some (C, names) ∧ Mk K C f ∧ FnOk P w K mg base CX0 k f fd ps (sp1 K ct .fz (.ins c []) (.ins c ks) G) ∧ mg x = some (.ref C) ∧ Binds K fd ps []
section
variable {P : Program} {w : World} {K : PySem.W.Frag} {mg : Str → Option Value} {base : Heap} {x : Str} {st : Stmt} {ps : List Str} {k : Nat} {sp : Sp}
theorem DefIn.cal (D : DefIn K mg x st ps) (h : ∀ f fd, Fun K x x st f fd → FnOk P w K mg base CX0 k f fd ps sp) : CalX P w K mg base k x ps sp := by
  obtain ⟨f, fd, F, h1, h2, h3⟩ := D.ex
  exact ⟨f, fd, h f fd F, h1, h2, h3⟩
end
section
variable {X : Cx} {ct : CT} {m : List OT} {k i c : Nat} {ps : List Str} {rk ik : OT} {ks : List OT} {G : List D → Option D} {G1 : D → List D → Option (D × D)} {x : Str} {p pos : Pos} {e : Expr} {es : List Expr} {fs : PFs} {gs : IFs}
theorem ep_cal (C : CalX X.prog X.w X.K X.mg X.base k x ps (sp0 X.K ct rk G)) (hr : Room k X.A) (ha : AF X ct m (e :: es) fs) (hg : Gl X x := by rfl)
    (hdb : (x == ("__debug__" : Str)) = false := by decide) (he : starEach (e :: es) X.env = (false, eval e X.env) :: starEach es X.env := by rfl) (hpl : (backTo pos (starEach es X.env)).any (·.1) = false := by rfl) :
    EP X ct m (.Call (.Name x p) (e :: es) [] pos) (pN G fs) rk := by
  obtain ⟨f, fd, F, h1, h2, h3⟩ := C.ex
  exact ep_call F hr hg h1 h2 h3 ha hdb he hpl
theorem ei_cal (C : CalX X.prog X.w X.K X.mg X.base k x ps (sp0 X.K ct rk G)) (hr : Room k X.A) (ha : AI X ct m (e :: es) gs) (hg : Gl X x := by rfl)
    (hdb : (x == ("__debug__" : Str)) = false := by decide) (he : starEach (e :: es) X.env = (false, eval e X.env) :: starEach es X.env := by rfl) (hpl : (backTo pos (starEach es X.env)).any (·.1) = false := by rfl) :
    EI X ct m (.Call (.Name x p) (e :: es) [] pos) (iN G gs) rk := by
  obtain ⟨f, fd, F, h1, h2, h3⟩ := C.ex
  exact ei_call F hr hg h1 h2 h3 ha hdb he hpl
theorem ei_cal1 (C : CalX X.prog X.w X.K X.mg X.base k x ps (sp1 X.K ct rk ik ik G1)) (hr : Room k X.A) (h0 : PE X e (tVar i)) (hi : m[i]? = some ik) (ha : AI X ct m es gs) (hg : Gl X x := by rfl)
    (hdb : (x == ("__debug__" : Str)) = false := by decide) (he : starEach (e :: es) X.env = (false, eval e X.env) :: starEach es X.env := by rfl) (hpl : (backTo pos (starEach es X.env)).any (·.1) = false := by rfl) :
    EI X ct m (.Call (.Name x p) (e :: es) [] pos) (iCall i G1 gs) rk := by
  obtain ⟨f, fd, F, h1, h2, h3⟩ := C.ex
  exact ei_call1 F hr hg h1 h2 h3 h0 hi ha hdb he hpl
theorem ep_mak (C : MakX X.prog X.w X.K X.mg X.base ct k x c ks ps G1) (hr : Room (k + 1) X.A) (ha : AF X ct m (e :: es) fs) (hg : Gl X x := by rfl)
    (hdb : (x == ("__debug__" : Str)) = false := by decide) (he : starEach (e :: es) X.env = (false, eval e X.env) :: starEach es X.env := by rfl) (hpl : (backTo pos (starEach es X.env)).any (·.1) = false := by rfl) :
    EP X ct m (.Call (.Name x p) (e :: es) [] pos) (pN (mkObj c G1) fs) (.ins c ks) := by
  obtain ⟨C, f, fd, names, h0, M, F, h1, h3⟩ := C.ex
  exact ep_make h0 M F hr hg h1 h3 ha hdb he hpl
theorem ei_mak (C : MakX X.prog X.w X.K X.mg X.base ct k x c ks ps G1) (hr : Room (k + 1) X.A) (ha : AI X ct m (e :: es) gs) (hg : Gl X x := by rfl)
    (hdb : (x == ("__debug__" : Str)) = false := by decide) (he : starEach (e :: es) X.env = (false, eval e X.env) :: starEach es X.env := by rfl) (hpl : (backTo pos (starEach es X.env)).any (·.1) = false := by rfl) :
    EI X ct m (.Call (.Name x p) (e :: es) [] pos) (iN (mkObj c G1) gs) (.ins c ks) := by
  obtain ⟨C, f, fd, names, h0, M, F, h1, h3⟩ := C.ex
  exact ei_make h0 M F hr hg h1 h3 ha hdb he hpl
end
/-! built-in calls in short -/
section
variable {X : Cx} {ct : CT} {m : List OT} {x : Str} {p pos : Pos} {e : Expr} {es : List Expr} {id T : String} {r : List V → Hp → VK → Prop} {t : TA}
theorem bcal (hc : CallR X (.builtin id) r) (hm : X.mg x = none) (ha : PA X (e :: es) t) (hg : Gl X x := by rfl) (hv : bootBuiltins x = some (.builtin id) := by decide +kernel) (hn : x ≠ "__name__" := by decide) (hdb : (x == ("__debug__" : Str)) = false := by decide)
    (he : starEach (e :: es) X.env = (false, eval e X.env) :: starEach es X.env := by rfl) (hpl : (backTo pos (starEach es X.env)).any (·.1) = false := by rfl) : PE X (.Call (.Name x p) (e :: es) [] pos) (tCB r t) := pe_callB hc hg hm hv ha hn hdb he hpl
theorem tcal (hc : CallR X (.type T) r) (hm : X.mg x = none) (ha : PA X (e :: es) t) (hg : Gl X x := by rfl) (hv : bootBuiltins x = some (.type T) := by decide +kernel) (hn : x ≠ "__name__" := by decide) (hdb : (x == ("__debug__" : Str)) = false := by decide)
    (he : starEach (e :: es) X.env = (false, eval e X.env) :: starEach es X.env := by rfl) (hpl : (backTo pos (starEach es X.env)).any (·.1) = false := by rfl) : PE X (.Call (.Name x p) (e :: es) [] pos) (tCB r t) := pe_callTy hc hg hm hv ha hn hdb he hpl
end
def ctOf (l : List (Addr × List Str)) : CT := fun c => l[c]?
end T3

set_option maxHeartbeats 4100000
/-! T3, part x: tuple repetition; a list display that is set. -/
namespace T3
open PySem L2 PySem.Spec PyProof.Rows

theorem tuple_mul_same (l : Addr) (items : Array Value) (n : Nat) (dd : Option Addr) (sl : Array (Option Value)) (x : Int) (u : Tok) (c0 : (decide (x < -(2 ^ 63)) || decide (x ≥ 2 ^ 63)) = false) (c1 : (items.isEmpty || x == 1) = true) :
    Meets (Builtin.«tuple.__mul__» ⟨[.ref l, .int x u], []⟩) (fun _ R s => s.heap.get? l = some { cls := .type "tuple", dict := dd, data := .seq items n, slots := sl } ∧ R (.ok (.ret (Value.ref l))) s) :=
  .of_wp fun prog w A R s h => by
    obtain ⟨hp, g, d, tk, os⟩ := s
    obtain ⟨hl, h⟩ := h
    have f1 := AutoSeq1.idx_int
    wp_walk using wpAny_loadPart' hl
    repeat (first
      | (refine wpAny_ite_false (decide_eq_false (by rw [c0]; exact Bool.false_ne_true)) ?_; wp_walk using wpAny_loadPart' hl)
      | (refine wpAny_ite_true (decide_eq_true c1) ?_; wp_walk using wpAny_loadPart' hl))
    exact ⟨_, rfl, h⟩
theorem tuple_mul_none (l : Addr) (items : Array Value) (n : Nat) (dd : Option Addr) (sl : Array (Option Value)) (x : Int) (u : Tok) (c0 : (decide (x < -(2 ^ 63)) || decide (x ≥ 2 ^ 63)) = false) (c1 : (items.isEmpty || x == 1) = false) (c2 : (decide (x ≤ 0) || items.isEmpty) = true) :
    Meets (Builtin.«tuple.__mul__» ⟨[.ref l, .int x u], []⟩) (fun _ R s => s.heap.get? l = some { cls := .type "tuple", dict := dd, data := .seq items n, slots := sl } ∧
      R (.ok (.ret (Value.ref s.heap.objs.size))) { s with heap := s.heap.push { cls := Value.type "tuple", data := Data.seq #[] }, toks := s.toks }) :=
  .of_wp fun prog w A R s h => by
    obtain ⟨hp, g, d, tk, os⟩ := s
    obtain ⟨hl, h⟩ := h
    have f1 := AutoSeq1.idx_int
    wp_walk using wpAny_loadPart' hl
    repeat (first
      | (refine wpAny_ite_false (decide_eq_false (by rw [c0]; exact Bool.false_ne_true)) ?_; wp_walk using wpAny_loadPart' hl)
      | (refine wpAny_ite_false (decide_eq_false (by rw [c1]; exact Bool.false_ne_true)) ?_; wp_walk using wpAny_loadPart' hl)
      | (refine wpAny_ite_true (decide_eq_true c2) ?_; wp_walk using wpAny_loadPart' hl))
    exact ⟨_, rfl, h⟩

def rRepT3 (K : PySem.W.Frag) : R2 := fun x y H Q => ∃ l k xs, x = .ref l ∧ y = .int k ∧ SqT K H l xs ∧ -(2 ^ 63) ≤ k ∧ k ≤ 1000 ∧ xs.length ≤ 1000 ∧
  (xs = [] ∨ k = 1 → Q (.ref l) H) ∧ (xs ≠ [] → k ≠ 1 → ∀ p, H p = none → Q (.ref p) (upd H p (.tup (List.replicate k.toNat xs).flatten)))
section
variable {X : Cx}
theorem op_repT3 : OpR X (binaryOp .Mult) (rRepT3 X.K) := by
  intro pins s σ H x y v u Q I rx ry h
  obtain ⟨l, k, xs, rfl, rfl, hT, h1, h2, hz, q1, q2⟩ := h
  by_cases hne : xs ≠ [] ∧ 2 ≤ k
  · exact op_repT pins s σ H _ _ v u Q I rx ry ⟨l, k, xs, rfl, rfl, hT, hne.1, hne.2, h2, hz, q2 hne.1 (by omega)⟩
  cases rx
  obtain ⟨t, rfl⟩ := ry
  obtain ⟨its, r, ⟨⟨cls, dd, data, sl⟩, ho, hc, n, hd⟩, hs⟩ := I.tuple hT
  simp only at hc hd
  subst hc hd
  have hle : its.length = xs.length := r.length.symm
  have c0 : (decide (k < -(2 ^ 63)) || decide (k ≥ 2 ^ 63)) = false := by
    rw [decide_eq_false (by omega), decide_eq_false (by omega)] <;> rfl
  have hi : its.toArray.isEmpty = decide (xs = []) := by
    cases xs with
    | nil => rw [List.eq_nil_of_length_eq_zero hle]; rfl
    | cons x0 xs0 =>
      cases its with
      | nil => cases hle
      | cons a b => rfl
  by_cases hw : xs = [] ∨ k = 1
  · refine wpAny_binaryOp_repeat_ref (T := "tuple") (U := "int") (by decide) ⟨_, ho, rfl⟩ (fun s' => typeIs_int s' k t) noFill_tuple_mul F.fills_int_mul F.slot_int_rmul repeat_tuple F.slot_int_index.lookup
      (call_meets F.slot_int_rmul (typeIs_int s k t) F.entry_int_rmul (F.args_int_rmul_2 _ _) (int_rmul_tuple k t l its.toArray n dd sl)
        ⟨ho, rfl, ⟨_, ho, rfl⟩, call_meets F.slot_tuple_mul ⟨_, ho, rfl⟩ F.entry_tuple_mul (F.args_tuple_mul_2 _ _) (tuple_mul_same l its.toArray n dd sl k t c0 (by
          rw [hi]
          rcases hw with h | h
          · rw [decide_eq_true h]; rfl
          · rw [h]; cases decide (xs = []) <;> rfl)) ⟨ho, ?_⟩⟩)
    exact ⟨.ref l, H, I, rfl, q1 hw⟩
  · have hx : xs ≠ [] := fun e => hw (.inl e)
    have hk : k ≠ 1 := fun e => hw (.inr e)
    have hk0 : k ≤ 0 := by
      have : ¬ 2 ≤ k := fun z => hne ⟨hx, z⟩
      omega
    refine wpAny_binaryOp_repeat_ref (T := "tuple") (U := "int") (by decide) ⟨_, ho, rfl⟩ (fun s' => typeIs_int s' k t) noFill_tuple_mul F.fills_int_mul F.slot_int_rmul repeat_tuple F.slot_int_index.lookup
      (call_meets F.slot_int_rmul (typeIs_int s k t) F.entry_int_rmul (F.args_int_rmul_2 _ _) (int_rmul_tuple k t l its.toArray n dd sl)
        ⟨ho, rfl, ⟨_, ho, rfl⟩, call_meets F.slot_tuple_mul ⟨_, ho, rfl⟩ F.entry_tuple_mul (F.args_tuple_mul_2 _ _) (tuple_mul_none l its.toArray n dd sl k t c0 (by
          rw [hi, decide_eq_false hx, Bool.false_or]
          exact beq_eq_false_iff_ne.mpr hk) (by rw [decide_eq_true hk0, Bool.true_or])) ⟨ho, ?_⟩⟩)
    have hz0 : k.toNat = 0 := by omega
    have q3 := q2 hx hk
    rw [hz0] at q3
    refine ⟨.ref s.heap.objs.size, _, I.laid (t' := s.toks) (o := .tup []) (fun b ob q => Heap.get?_push_of_some _ q) (Nat.le_refl _) ?_, rfl, q3 _ (I.hok.fresh (Nat.le_refl _))⟩
    exact ⟨Nat.zero_le _, [], .nil, IsTup.new _ _⟩
end
def nRepT (x y : D) : Option D := match x, y with
  | .tup xs, .int k => if -(2 ^ 63) ≤ k ∧ k ≤ 1000 ∧ xs.length ≤ 1000 then some (.tup (List.replicate k.toNat xs).flatten) else none
  | _, _ => none
section
variable {K : PySem.W.Frag} {ct : CT}
theorem RelAll.rep' {F : Hp} {xs : List D} {vs : List V} (r : RelAll K ct F xs vs) : ∀ n, RelAll K ct F (List.replicate n xs).flatten (List.replicate n vs).flatten := fun n => r.rep n
theorem vo_repT : VOp2W K ct (rRepT3 K) nRepT .fz := by
  intro F H x y d v u Q o w1 w2 e q
  cases x <;> cases y <;> simp only [nRepT] at e <;> first | (cases e; done) | skip
  split at e
  · rename_i hl
    cases e
    cases view_int w2.view
    obtain ⟨a, vs, rfl, h, hf, r⟩ := wv_tup o.sub w1
    refine ⟨a, _, vs, rfl, rfl, h, hl.1, hl.2.1, by rw [← r.len]; exact hl.2.2, fun e => ?_, fun _ _ p hp => ?_⟩
    · rcases e with rfl | rfl
      · cases r
        exact fin_fz o q (.tup hf (by
          have : ∀ n, (List.replicate n ([] : List D)).flatten = [] := fun n => by induction n <;> simp_all [List.replicate_succ]
          rw [this]
          exact .nil))
      · exact fin_fz o q (.tup hf (by simpa using r))
    · obtain ⟨s2, o2, sF, hF⟩ := new_fz (u := .tup (List.replicate _ vs).flatten) o hp
      exact q _ _ [] _ s2 o2 (.fz (.tup (.of hF) ((r.rep _).mono sF)))
  · cases e
end

/-! ### y = [.. for ..] at a local name -/
section
variable {K : PySem.W.Frag} {ct : CT} {m : List OT} {k : OT} {σ : L2.St} {H : Hp} {Q : VK} {f : PF} {g : IF}
theorem tP_of_I (h : tI K ct m (iP f) k σ H Q) : tP K ct m f k σ H Q := by
  obtain ⟨F, A, env, d, env', o, r, e, q⟩ := h
  unfold iP at e
  cases e1 : f env with
  | none => rw [e1] at e; cases e
  | some d1 =>
    rw [e1] at e
    cases e
    refine ⟨F, A, env, _, o, r, e1, fun F' H' B v s o' w => ?_⟩
    obtain ⟨r2, o2, o3, s2, s3⟩ := r.pure o s o'
    exact q F' H' A B v s2 o2.swap r2 w
theorem tI_fz (h : tI K ct m g .fz σ H Q) : tI K ct m g k σ H Q := by
  obtain ⟨F, A, env, d, env', o, r, e, q⟩ := h
  refine ⟨F, A, env, d, env', o, r, e, fun F' H' A' B v s o' r' w => ?_⟩
  obtain ⟨o2, s2, k2, st⟩ := freeze o' w.there
  refine q (addF F' H' B) H' A' [] v ?_ (by rw [List.append_nil]; exact o2) (r'.mono s2 fun b hb u h => h) (.fz (w.rel s2 k2))
  rw [List.append_nil]
  exact s.trans st
end
section
variable {X : Cx} {ct : CT} {P : Par} {m : List OT} {st : Stmt} {i : Nat} {k : OT} {fi : PFs} {gi : IFs} {own : List Nat} {t : Tg} {p : PB} {u : IB} {f : PF} {g : IF}
theorem sj_lc (mk : PS X st (tAsg (tLc (tIv X.K ct m fi) (tG X.K ct m t) (tTP X.K ct m p) (tP X.K ct m f k) own) (gName i))) (hm : ∀ v ∈ own, m[v]? = some .fz) (ho : ∀ i ∈ t.slots, i ∈ own) (hi : i < m.length) (hp : i ∉ P.ps) :
    SJ X ct P m st (sAsg i (iP (pComp fi own t p f))) (m.set i (.lst k)) := ps_imp mk fun D σ H h => imp_lc hm ho (tP_of_I (imp_asg hi hp h))
theorem sj_lcF (mk : PS X st (tAsg (tLc (tIv X.K ct m fi) (tG X.K ct m t) (tTP X.K ct m p) (tP X.K ct m f k) own) (gName i))) (hm : ∀ v ∈ own, m[v]? = some .fz) (ho : ∀ i ∈ t.slots, i ∈ own) (hi : i < m.length) (hp : i ∉ P.ps) :
    SJ X ct P m st (sAsg i (iP (pComp fi own t p f))) (m.set i .fz) := ps_imp mk fun D σ H h => imp_lc hm ho (tP_of_I (tI_fz (imp_asg hi hp h)))
theorem sj_ilc (mk : PS X st (tAsg (tLc (tIt X.K ct m gi) (tG X.K ct m t) (tTI X.K ct m u) (tI X.K ct m g k) own) (gName i))) (hm : ∀ v ∈ own, m[v]? = some .fz) (ho : ∀ i ∈ t.slots, i ∈ own) (hi : i < m.length) (hp : i ∉ P.ps) :
    SJ X ct P m st (sAsg i (iComp gi own t u g)) (m.set i (.lst k)) := ps_imp mk fun D σ H h => imp_ilc hm ho (imp_asg hi hp h)
theorem sj_ilcF (mk : PS X st (tAsg (tLc (tIt X.K ct m gi) (tG X.K ct m t) (tTI X.K ct m u) (tI X.K ct m g k) own) (gName i))) (hm : ∀ v ∈ own, m[v]? = some .fz) (ho : ∀ i ∈ t.slots, i ∈ own) (hi : i < m.length) (hp : i ∉ P.ps) :
    SJ X ct P m st (sAsg i (iComp gi own t u g)) (m.set i .fz) := ps_imp mk fun D σ H h => imp_ilc hm ho (tI_fz (imp_asg hi hp h))
end

def fzAt (m : List OT) (l : List Nat) : Bool := l.all fun v => match m[v]? with
  | some .fz => true
  | _ => false
theorem fzs {m : List OT} {l : List Nat} (h : fzAt m l = true) : ∀ v ∈ l, m[v]? = some .fz := fun v hv => by
  have := List.all_eq_true.mp h v hv
  revert this
  cases m[v]? with
  | none => intro z; cases z
  | some k => cases k <;> intro z <;> first | rfl | cases z

theorem ep_gintE {X : Cx} {ct : CT} {m : List OT} {i : Int} {x : Str} {pos : Pos} (hg : Gl X x) (hm : ∃ t, X.mg x = some (.int i t)) (hd : (x == ("__debug__" : Str)) = false := by decide) : EP X ct m (.Name x pos) (pC (.int i)) .fz := by
  obtain ⟨t, h⟩ := hm
  exact ep_gint hg h hd
end T3

/-! T3, part y: a list turned about; the first place of an item. -/
namespace T3
open PySem L2
def nRevL : D → Option D
  | .lst xs => some (.lst xs.reverse)
  | _ => none
def nIdx (x y : D) : Option D := match x with
  | .lst xs => if (shp (.lst xs) && shp y) = true then (xs.findIdx? fun z => dE z y).map (fun (j : Nat) => D.int (j : Int)) else none
  | _ => none
section
variable {X : Cx} {ct : CT} {m : List OT} {a b : Expr} {f g : PF}
theorem ep_rev {k : Nat} {p1 p2 p3 pos : Pos} (ha : EW X ct m a f) : EP X ct m (.Subscript a (.Slice none none (some (.UnaryOp .USub (.Constant (.int 1) k p1) p2)) p3) pos) (T3.p1 nRevL f) (.lst .fz) :=
  pe_imp (pe_revL ha) fun σ H Q ⟨F, A, env, d, o, r, e, q⟩ => by
    obtain ⟨x, e1, e⟩ := bind_some2 e
    refine ⟨F, A, env, x, o, r, e1, fun F1 H1 v s1 o1 w1 => ?_⟩
    cases x <;> simp only [nRevL] at e <;> first | (cases e; done) | skip
    cases e
    obtain ⟨c, us, rfl, h, rr⟩ := wv_lst o1.sub w1
    refine ⟨c, us, rfl, .of h, fun p hp => ?_⟩
    obtain ⟨s2, o2, _⟩ := new_own (u := .lst us.reverse) o1 hp
    exact q F1 _ [p] _ (s1.trans s2) o2 (.lst (B := []) upd_same (OwnAll.of_fz rr.rev))
theorem ep_index (hu : X.A.units + 65 < cLine) (mk : ∀ to t, PE X a to → PA X [b] t → PE X e (tBM X.K "list" (rIndexD X.K) to t)) (ha : EW X ct m a f) (hb : AV X ct m [b] (psC g psN)) : EP X ct m e (p2 nIdx f g) .fz :=
  pe_imp (mk _ _ ha hb) fun σ H Q ⟨F, A, env, d, o, r, e, q⟩ => by
    obtain ⟨x, e1, e⟩ := bind_some2 e
    obtain ⟨y, e2, e⟩ := bind_some2 e
    obtain ⟨xs, rfl⟩ : ∃ xs, x = .lst xs := by
      cases x <;> first | exact ⟨_, rfl⟩ | (cases e; done)
    simp only [nIdx] at e
    refine ⟨F, A, env, _, o, r, e1, fun F1 H1 v s1 o1 w1 => ?_⟩
    obtain ⟨c, us, rfl, h, rr⟩ := wv_lst o1.sub w1
    refine ⟨.inl ⟨rfl, _, .of h⟩, ?_⟩
    obtain ⟨r2, _, o2, _, _⟩ := r.pure o s1 o1
    refine ⟨F1, A, env, [y], o2, r2, ?_, fun F2 H2 vs s2 o3 w2 => ?_⟩
    · show (g env).bind _ = _
      rw [e2]
      rfl
    · cases w2 with
      | cons w2 w3 =>
        cases w3
        by_cases hs : (shp (.lst xs) && shp y) = true
        · rw [if_pos hs] at e
          obtain ⟨j, ej, rfl⟩ := map_some2 e
          obtain ⟨h1, h2⟩ := Bool.and_eq_true_iff.mp hs
          obtain ⟨hj, hp, hno⟩ := List.findIdx?_eq_some_iff_getElem.mp ej
          have w1' := w1.mono s2.fs s2.same
          have dl := View.dp o3.sub w1'.view h1
          rw [toP] at dl
          have dy := View.dp o3.sub w2 h2
          have hl : shp (.lst xs) = true := h1
          unfold shp at hl
          rw [toP] at hl
          refine ⟨c, _, toP y, toPs xs, j, toP xs[j], rfl, rfl, dl, dy, hl, h2, ?_, hp, fun m' z' hm hz => ?_, ?_⟩
          · rw [toPs_map, List.getElem?_map, List.getElem?_eq_getElem hj]
            rfl
          · rw [toPs_map, List.getElem?_map, List.getElem?_eq_getElem (by omega)] at hz
            cases hz
            have := hno m' hm
            simpa [dE] using this
          · exact q F2 H2 [] _ (s1.trans s2) o3 (.fz (.int _))
        · rw [if_neg hs] at e
          cases e
end
end T3

/-! T3, part z: a call that only reads what its caller owns. -/
namespace T3
open PySem L2
/-- data that hold no address, or a new list of such -/
def flatR : OT → D → Bool
  | .fz, d => flatD d
  | .lst _, .lst xs => xs.all flatD
  | _, _ => false
def flG (rk : OT) (G : List D → Option D) : List D → Option D := fun ds => (G ds).bind fun d => if flatR rk d = true then some d else none
section
variable {K : PySem.W.Frag} {ct : CT} {F F' H H' : Hp}
theorem rel_flat {d : D} {v : V} (h : flatD d = true) (r : Rel K ct F d v) : Rel K ct F' d v := by
  cases r <;> first | (simp [flatD] at h; done) | constructor
theorem own_flat {k : OT} {d : D} {v : V} {B : List Addr} (h : flatD d = true) (r : Own K ct F H k d v B) : Own K ct F' H' k d v B := by
  cases r with
  | fz r => exact .fz (rel_flat h r)
  | _ => simp [flatD] at h
theorem ownAll_flat {k : OT} : ∀ {ds : List D} {vs : List V} {B : List Addr}, ds.all flatD = true → OwnAll K ct F H k ds vs B → OwnAll K ct F' H' k ds vs B
  | _, _, _, _, .nil => .nil
  | _, _, _, h, .cons r rs => by
    rw [List.all_cons, Bool.and_eq_true] at h
    exact .cons (own_flat h.1 r) (ownAll_flat h.2 rs)
theorem own_flatR {rk : OT} {d : D} {v : V} {B : List Addr} (h : flatR rk d = true) (r : Own K ct F H rk d v B) : Own K ct F' H rk d v B := by
  cases r with
  | fz r => exact .fz (rel_flat h r)
  | lst e rs => exact .lst e (ownAll_flat h rs)
  | _ => simp [flatR] at h
theorem views_now (s : Sub F H) : ∀ {ds : List D} {vs : List V}, Paired (View K ct F H) ds vs → RelAll K ct H ds vs
  | _, _, .nil => .nil
  | _, _, .cons h r => .cons (View.now s h) (views_now s r)
end
section
variable {X : Cx} {ct : CT} {m : List OT} {k : Nat} {f : Addr} {fd : FuncData} {ps : List Str} {rk : OT} {G : List D → Option D} {x : Str} {p pos : Pos} {e : Expr} {es : List Expr} {fs : PFs}
theorem imp_callV {σ : L2.St} {H : Hp} {Q : VK} {E : XK} (h : tP X.K ct m (pN (flG rk G) fs) rk σ H Q) : tCall (sp0 X.K ct rk G) [] E (tVs X.K ct m fs) σ H Q := by
  obtain ⟨F, A, env, d, o, r, e, q⟩ := h
  obtain ⟨ds, e1, e⟩ := bind_some2 e
  obtain ⟨d0, e2, e⟩ := bind_some2 e
  split at e
  · rename_i hf
    cases e
    refine ⟨F, A, env, ds, o, r, e1, fun F' H' vs s o' w => ?_⟩
    refine ⟨H', ds, d, ⟨fun _ _ h => h, List.nodup_nil, fun _ h => nomatch h⟩, by rw [List.append_nil]; exact views_now o'.sub w, e2, fun F2 H2 B v s2 o2 w2 => ?_⟩
    refine q F' H2 B v (s.trans ⟨fun _ _ h => h, s2.fr, fun _ _ h => .inl h, s2.na⟩) ⟨fun a u h => s2.fr a u (o'.sub a u h) (fun z => nomatch z), o2.nd, fun a h => ?_⟩ (own_flatR hf w2)
    cases z : F' a with
    | none => rfl
    | some u =>
      have := s2.fs a u (o'.sub a u z)
      rw [o2.out a h] at this
      cases this
  · cases e
theorem ep_callV (F : FnOk X.prog X.w X.K X.mg X.base CX0 k f fd ps (sp0 X.K ct rk G)) (hr : Room k X.A) (hg : Gl X x) (hm : X.mg x = some (.ref f)) (hk : PySem.W.keepIn X.K (.ref f) = true) (hb : Binds X.K fd ps []) (ha : AV X ct m (e :: es) fs)
    (hdb : (x == ("__debug__" : Str)) = false := by decide) (he : starEach (e :: es) X.env = (false, eval e X.env) :: starEach es X.env := by rfl) (hpl : (backTo pos (starEach es X.env)).any (·.1) = false := by rfl) :
    EP X ct m (.Call (.Name x p) (e :: es) [] pos) (pN (flG rk G) fs) rk :=
  pe_imp (pe_call F hr hg hm hk hb .nil (show Passes CX0 X (fun _ _ _ => False) from pass0) ha hdb he hpl) fun _ _ _ => imp_callV
theorem ep_calV (C : CalX X.prog X.w X.K X.mg X.base k x ps (sp0 X.K ct rk G)) (hr : Room k X.A) (ha : AV X ct m (e :: es) fs) (hg : Gl X x := by rfl)
    (hdb : (x == ("__debug__" : Str)) = false := by decide) (he : starEach (e :: es) X.env = (false, eval e X.env) :: starEach es X.env := by rfl) (hpl : (backTo pos (starEach es X.env)).any (·.1) = false := by rfl) :
    EP X ct m (.Call (.Name x p) (e :: es) [] pos) (pN (flG rk G) fs) rk := by
  obtain ⟨f, fd, F, h1, h2, h3⟩ := C.ex
  exact ep_callV F hr hg h1 h2 h3 ha hdb he hpl
end
end T3

/-! T3, part o: a loop over an owned list that the body neither reads nor changes. -/
namespace T3
open PySem L2
def sForO (s : Nat) (t : Tg) (f : SS) : SS := fun env => (pVar s env).bind fun d => (lstOf d).bind fun xs => (forL (bindT t) f xs (env.set s none)).map fun p => (p.1, match p.1 with
  | .nx => p.2.set s (some d)
  | _ => p.2)
section
variable {X : Cx} {ct : CT} {P : Par} {m : List OT} {tg iter : Expr} {body : List Stmt} {t : Tg} {f : SS} {s : Nat} {pos : Pos}
theorem sj_forO (hpo : PassesOwn (model X.prog X.w) X.A X.env X.xe) (hc : X.calm = true) (h0 : PE X iter (tVar s)) (hm : m[s]? = some (.lst .fz)) (hg : GJ X ct (m.set s .fz) tg t) (hb : SJs X ct ⟨P.pin, P.pk, P.rk, m.set s .fz, s :: P.ps⟩ (m.set s .fz) body f (m.set s .fz))
    (hp : ∀ j ∈ s :: P.ps, j ∉ t.slots) (hs : ∀ x, foldedSetIterable iter X.env x = pure x := by intro _; rfl) : SJ X ct P m (.For tg iter body [] pos) (sForO s t f) m := ps_imp (ps_for hpo hc (pi_list h0) hg hb hs) fun Dn σ H ⟨F, A, env, fl, env', o, r, e, q⟩ => by
  obtain ⟨d, e0, e⟩ := bind_some2 e
  obtain ⟨xs, ex, e⟩ := bind_some2 e
  obtain ⟨⟨fl0, env0⟩, e1, e⟩ := map_some2 e
  have ed : d = .lst xs := by
    cases d <;> simp only [lstOf] at ex <;> first | (cases ex; done) | (cases ex; rfl)
  subst ed
  obtain ⟨ee, ov, B, R, h1, h2, p, sl, th, up⟩ := r.at_ s _ hm
  rw [bind_id e0] at h1
  cases h1
  obtain ⟨v, rfl, w⟩ := sl
  cases w with
  | @lst _ a _ vs B' hv hall =>
    obtain ⟨hr2, rfl⟩ := OwnAll.fz' hall
    obtain ⟨R', pR, rR⟩ := up F H .fz none (some (.ref a)) [] (fun _ _ h => h) (fun _ _ _ h => h) rfl
    rw [set_same h2] at rR
    have pA : A.Perm (R' ++ [a]) := by
      refine p.trans ?_
      refine (List.perm_append_comm (l₁ := [a]) (l₂ := R)).trans ?_
      exact List.Perm.append_right [a] pR.symm
    have oR : Ok (R' ++ [a]) F H := o.perm pA
    have it : Itr3 X.K ct (Itl X.K a) F (fun H => H a = some (.lst vs)) xs := itr_list hr2 fun H g => .of g
    have fin : ∀ (F' H' : Hp) (A' : List Addr) (σ' : L2.St), Stp (R' ++ [a]) F H (A' ++ [a]) F' H' → Ok (A' ++ [a]) F' H' → EnvR X.K ct F' H' (m.set s .fz) env0 σ' A' → Pin (s :: P.ps) σ σ' → H' a = some (.lst vs) → fl0 = .nx → Dn.nx σ' H' := fun F' H' A' σ' s' o' r' p' ha hfl => by
      subst hfl
      cases e
      have hsl : s < m.length := (List.getElem?_eq_some_iff.mp hm).1
      obtain ⟨e2, o2, B2, R2, k1, k2, pp, _, _, up2⟩ := r'.at_ s .fz (by rw [List.getElem?_set_self hsl])
      obtain ⟨A2, pA2, rA2⟩ := up2 F' H' (.lst .fz) (some (.lst xs)) (some (.ref a)) [a] (fun _ _ h => h) (fun _ _ _ h => h) ⟨_, rfl, .lst (B := []) ha (OwnAll.of_fz (hr2.mono s'.fs))⟩
      have hσ : σ'[s]? = some (some (.ref a)) := (p' s List.mem_cons_self).trans h2
      rw [set_same hσ, List.set_set, set_same hm] at rA2
      have sub : ∀ b ∈ A2, b ∈ A' ++ [a] := fun b hb => by
        rcases List.mem_append.mp (pA2.mem_iff.mp hb) with h | h
        · exact List.mem_append_right _ h
        · exact List.mem_append_left _ (pp.mem_iff.mpr (List.mem_append_right _ h))
      have nd : A2.Nodup := by
        refine pA2.nodup_iff.mpr ?_
        have n1 : (B2 ++ R2 ++ [a]).Nodup := (List.Perm.append_right [a] pp).nodup_iff.mp o'.nd
        rw [List.append_assoc] at n1
        exact (List.perm_append_comm (l₁ := R2) (l₂ := [a])).nodup_iff.mp (List.nodup_append.mp n1).2.1
      exact q F' H' A2 σ' (s'.weak (fun b hb => pA.mem_iff.mpr hb) fun b hb => .inl (sub b hb)) ⟨o'.sub, nd, fun b hb => o'.out b (sub b hb)⟩ rA2 fun j hj => p' j (List.mem_cons_of_mem _ hj)
    refine ⟨.ref a, h2, a, rfl, ⟨_, .of hv⟩, ?_⟩
    let Pv : Nat → L2.St → Hp → Prop := fun i σi Hi => ∃ F2 A2 env2, Stp (R' ++ [a]) F H (A2 ++ [a]) F2 Hi ∧ Sub F F2 ∧ Ok (A2 ++ [a]) F2 Hi ∧ EnvR X.K ct F2 Hi (m.set s .fz) env2 σi A2 ∧ Pin (s :: P.ps) σ σi ∧ Hi a = some (.lst vs) ∧ forL (bindT t) f (xs.drop i) env2 = some (fl0, env0)
    refine ⟨fun i n σi Hi => n = xs.length - i ∧ i ≤ xs.length ∧ Pv i σi Hi, ⟨xs.length, by simp, Nat.zero_le _, F, R', _, Stp.refl, (fun _ _ h => h), oR, rR, Pin.refl, hv, e1⟩, ?_⟩
    rintro i n σi Hi ⟨rfl, hi, F2, A2, env2, s2, sF, o2, r2, p2, g2, e2⟩
    by_cases hlt : i < xs.length
    · refine .inr ⟨it.go i Hi hlt g2, fun σ' H' => i + 1 ≤ xs.length ∧ Pv (i + 1) σ' H', fun σ' H' p' => ⟨xs.length - (i + 1), by omega, rfl, p'.1, p'.2⟩, fun x H3 y => ?_⟩
      obtain ⟨F3, dx, hx, s3, o3, wx⟩ := it.yld i Hi F2 x H3 g2 o2.nil sF y hlt
      have edrop : xs.drop i = dx :: xs.drop (i + 1) := by
        rw [List.drop_eq_getElem_cons hlt]
        rw [List.getElem?_eq_getElem hlt] at hx
        rw [Option.some.inj hx]
      rw [edrop, forL] at e2
      obtain ⟨env3, eb, e3⟩ := bind_some2 e2
      obtain ⟨⟨fl4, env4⟩, e4, e5⟩ := bind_some2 e3
      obtain ⟨r3, _, oA3, _, s3'⟩ := r2.pure o2.left s3 o3
      have tha : ∀ b ∈ [a], ∃ u, Hi b = some u := fun b hb => by rw [List.mem_singleton.mp hb]; exact ⟨_, g2⟩
      obtain ⟨f1, f2, f3⟩ := Stp.frame s3' o2 oA3 tha
      have g3 : H3 a = some (.lst vs) := f3 a (List.mem_singleton.mpr rfl) _ g2
      have tha3 : ∀ b ∈ [a], ∃ u, H3 b = some u := fun b hb => by rw [List.mem_singleton.mp hb]; exact ⟨_, g3⟩
      refine ⟨F3, A2, env2, dx, env3, oA3, r3, wx, eb, fun σ4 A4 p4 r4 hl4 hs4 => ?_⟩
      have pin4 : Pin (s :: P.ps) σ σ4 := p2.trans fun j z => hs4 j (hp j z)
      have o4 : Ok (A4 ++ [a]) F3 H3 := f2.perm (List.Perm.append_right [a] p4.symm)
      have s4 : Stp (R' ++ [a]) F H (A4 ++ [a]) F3 H3 := (s2.trans f1).weak (fun _ z => z) fun b z => by
        rcases List.mem_append.mp z with z | z
        · exact .inl (List.mem_append_left _ (p4.mem_iff.mp z))
        · exact .inl (List.mem_append_right _ z)
      refine ⟨F3, A4, env3, fl4, env4, oA3.perm p4.symm, r4, e4, ?_⟩
      cases fl4 with
      | nx =>
        intro F' H' A' σ' s' o' r' p'
        have tt := Stp.frame s' o4 o' tha3
        obtain ⟨t1, t2, t3⟩ := tt
        exact ⟨hlt, F', A', env4, s4.trans t1, (fun b u h => s'.fs b u (s3.fs b u (sF b u h))), t2, r', pin4.trans p', t3 a (List.mem_singleton.mpr rfl) _ g3, e5⟩
      | ct =>
        intro F' H' A' σ' s' o' r' p'
        have tt := Stp.frame s' o4 o' tha3
        obtain ⟨t1, t2, t3⟩ := tt
        exact ⟨hlt, F', A', env4, s4.trans t1, (fun b u h => s'.fs b u (s3.fs b u (sF b u h))), t2, r', pin4.trans p', t3 a (List.mem_singleton.mpr rfl) _ g3, e5⟩
      | bk =>
        cases e5
        intro F' H' A' σ' s' o' r' p'
        have tt := Stp.frame s' o4 o' tha3
        obtain ⟨t1, t2, t3⟩ := tt
        exact fin F' H' A' σ' (s4.trans t1) t2 r' (pin4.trans p') (t3 a (List.mem_singleton.mpr rfl) _ g3) rfl
      | rt d =>
        cases e5
        cases e
        intro F' H' A' B v σ' mr s' o' r' p' hp' w
        have tt := Stp.frame s' o4 o' tha3
        obtain ⟨t1, t2, t3⟩ := tt
        refine q F' H' A' B v σ' mr ((s4.trans t1).weak (fun b hb => pA.mem_iff.mpr hb) fun b hb => .inl (List.mem_append_left _ hb)) o' r' (fun j hj => (pin4.trans p') j (List.mem_cons_of_mem _ hj)) hp' w
    · have ei : i = xs.length := by omega
      subst ei
      rw [List.drop_length, forL] at e2
      cases e2
      exact .inl ⟨it.stop Hi g2, fin F2 Hi A2 σi s2 o2 r2 p2 g2 rfl⟩
end
end T3

/-! T3, part n: x[i][j] = e, x an owned list of owned lists. -/
namespace T3
open PySem L2
section
variable {K : PySem.W.Frag} {ct : CT} {F H : Hp} {k : OT}
theorem OwnAll.at : ∀ {ds : List D} {vs : List V} {B : List Addr}, OwnAll K ct F H k ds vs B → ∀ (i : Nat) (d : D), ds[i]? = some d → ∃ (v : V) (B1 Bi B2 : List Addr), vs[i]? = some v ∧ Own K ct F H k d v Bi ∧ B = B1 ++ (Bi ++ B2) ∧
    ∀ (F' H' : Hp) (d' : D), Sub F F' → (∀ b ∈ B1 ++ B2, ∀ u, H b = some u → H' b = some u) → Own K ct F' H' k d' v Bi → OwnAll K ct F' H' k (ds.set i d') vs (B1 ++ (Bi ++ B2))
  | _, _, _, .nil, i, d, h => by simp at h
  | d0 :: ds, v0 :: vs, _, .cons (B := B) (Bs := Bs) w ws, 0, d, h => by
    rw [List.getElem?_cons_zero] at h
    cases h
    refine ⟨v0, [], B, Bs, rfl, w, rfl, fun F' H' d' s q w' => ?_⟩
    rw [List.set_cons_zero]
    exact OwnAll.cons (B := B) (Bs := Bs) w' (ws.mono s fun b hb u e => q b hb u e)
  | d0 :: ds, v0 :: vs, _, .cons (B := B) (Bs := Bs) w ws, i + 1, d, h => by
    rw [List.getElem?_cons_succ] at h
    obtain ⟨v, B1, Bi, B2, h1, h2, h3, h4⟩ := OwnAll.at ws i d h
    subst h3
    refine ⟨v, B ++ B1, Bi, B2, by simpa using h1, h2, by rw [List.append_assoc], fun F' H' d' s q w' => ?_⟩
    rw [List.set_cons_succ, List.append_assoc]
    refine .cons (w.mono s fun b hb u e => q b ?_ u e) (h4 F' H' d' s (fun b hb u e => q b ?_ u e) w')
    · exact List.mem_append_left _ (List.mem_append_left _ hb)
    · rcases List.mem_append.mp hb with z | z
      · exact List.mem_append_left _ (List.mem_append_right _ z)
      · exact List.mem_append_right _ z
end
def sSet2 (s : Nat) (g : IF) (fi fj : PF) : SS := fun env => (g env).bind fun p => (pVar s p.2).bind fun d0 => (fi p.2).bind fun a => (fj p.2).bind fun b => match a, b with
  | .int k, .int k2 => (lstOf d0).bind fun xs => (ixN xs.length k).bind fun i => (xs[i]?).bind fun row => (lstOf row).bind fun ys => (ixN ys.length k2).map fun j => (.nx, p.2.set s (some (.lst (xs.set i (.lst (ys.set j p.1))))))
  | _, _ => none
theorem lstOf_eq {d : D} {xs : List D} (h : lstOf d = some xs) : d = .lst xs := by
  cases d <;> simp only [lstOf] at h <;> first | (cases h; done) | (cases h; rfl)
section
variable {X : Cx} {ct : CT} {P : Par} {m : List OT} {st : Stmt} {s : Nat} {g : IF} {fi fj : PF} {e eo e1 e2 : Expr}
theorem sj_set2 (mk : ∀ te to ti tj, PE X e te → PE X eo to → PE X e1 ti → PE X e2 tj → PS X st (tAsg te (gSub (tOp (rIxL X.K) to ti) tj L2.rSetL))) (he : EI X ct m e g .fz) (h0 : PE X eo (tVar s)) (hi : EV X ct m e1 fi) (hj : EV X ct m e2 fj) (hm : m[s]? = some (.lst (.lst .fz))) :
    SJ X ct P m st (sSet2 s g fi fj) m := ps_imp (mk _ _ _ _ he h0 hi hj) fun D σ H ⟨F, A, env, fl, env', o, r, ee, q⟩ => by
  obtain ⟨⟨d, env1⟩, q1, ee⟩ := bind_some2 ee
  obtain ⟨d0, q2, ee⟩ := bind_some2 ee
  obtain ⟨ka, q3, ee⟩ := bind_some2 ee
  obtain ⟨kb, q4, ee⟩ := bind_some2 ee
  obtain ⟨k, rfl⟩ : ∃ k, ka = .int k := by
    cases ka <;> first | exact ⟨_, rfl⟩ | (cases ee; done)
  obtain ⟨k2, rfl⟩ : ∃ k, kb = .int k := by
    cases kb <;> first | exact ⟨_, rfl⟩ | (cases ee; done)
  simp only at ee
  obtain ⟨xs, q5, ee⟩ := bind_some2 ee
  obtain ⟨i, q6, ee⟩ := bind_some2 ee
  obtain ⟨row, q7, ee⟩ := bind_some2 ee
  obtain ⟨ys, q8, ee⟩ := bind_some2 ee
  obtain ⟨j, q9, ee⟩ := map_some2 ee
  cases ee
  cases lstOf_eq q5
  cases lstOf_eq q8
  refine ⟨F, A, env, d, env1, o, r, q1, fun F1 H1 A1 B1 v s1 o1 r1 w1 => ?_⟩
  cases w1 with
  | fz w1 =>
    rw [List.append_nil] at s1 o1
    obtain ⟨v', B, R, h1, h2, h3, h4, h5, back⟩ := r1.lend o1 hm (bind_id q2)
    cases h2 with
    | @lst _ a _ vs B' hv hall =>
      obtain ⟨vr, C1, Ci, C2, a1, a2, a3, rebuild⟩ := hall.at i _ q7
      cases a2 with
      | @lst _ b _ us B'' hu hal2 =>
        obtain ⟨hr2, rfl⟩ := OwnAll.fz' hal2
        subst a3
        refine ⟨.ref a, h1, F1, A1, env1, _, o1, r1, q3, fun F2 H2 vk s2 o2 wk => ?_⟩
        cases view_int wk
        have hv2 : H2 a = some (.lst vs) := s2.fr a _ hv (fun z => nomatch z)
        have hlen : xs.length = vs.length := hall.len
        refine ⟨a, vs, k, .ref b, rfl, rfl, .of hv2, ?_, ?_⟩
        · unfold atI
          rw [← hlen, q6]
          exact a1
        obtain ⟨r2, _, oA2, _, _⟩ := r1.pure o1 s2 o2
        refine ⟨F2, A1, env1, _, oA2, r2, q4, fun F3 H3 vk2 s3 o3 wk2 => ?_⟩
        cases view_int wk2
        have s23 := s2.trans s3
        have kept : ∀ c u, H1 c = some u → H3 c = some u := fun c u h => s23.fr c u h (fun z => nomatch z)
        refine ⟨b, us, k2, j, rfl, rfl, kept b _ hu, by rw [← hr2.len]; exact q9, ?_⟩
        have th : ∀ c ∈ a :: (C1 ++ ([b] ++ C2)), ∃ u, H1 c = some u := (Own.lst hv hall).there
        obtain ⟨f1, f2, _⟩ := Stp.frame (A1 := []) (A2 := a :: (C1 ++ ([b] ++ C2))) s23 h3 o3 th
        have hbm : b ∈ a :: (C1 ++ ([b] ++ C2)) := List.mem_cons_of_mem _ (List.mem_append_right _ (List.mem_append_left _ (List.mem_singleton.mpr rfl)))
        obtain ⟨t1, t2⟩ := write_own (u := .lst us) (u' := .lst (us.set j v)) f2 hbm
        have nd := h3.nd
        rw [List.nodup_cons] at nd
        have hab : a ≠ b := fun z => nd.1 (by rw [z]; exact List.mem_append_right _ (List.mem_append_left _ (List.mem_singleton.mpr rfl)))
        have nb : ∀ c ∈ C1 ++ C2, c ≠ b := fun c hc z => by
          subst z
          have n2 := nd.2
          rw [List.nodup_append] at n2
          rcases List.mem_append.mp hc with z | z
          · exact n2.2.2 c z c (List.mem_append_left _ (List.mem_singleton.mpr rfl)) rfl
          · have n3 := n2.2.1
            rw [List.singleton_append, List.nodup_cons] at n3
            exact n3.1 z
        have own2 : Own X.K ct F3 (upd H3 b (.lst (us.set j v))) (.lst (.lst .fz)) (.lst (xs.set i (.lst (ys.set j d)))) (.ref a) (a :: (C1 ++ ([b] ++ C2))) := by
          refine .lst (vs := vs) (by rw [upd_ne hab]; exact kept a _ hv) (rebuild F3 _ _ s23.fs (fun c hc u h => by rw [upd_ne (nb c hc)]; exact kept c u h) ?_)
          exact .lst (B := []) upd_same (OwnAll.of_fz ((hr2.mono s23.fs).setI (w1.mono s23.fs) j))
        obtain ⟨A3, r3, s4, o4⟩ := back F3 _ (.lst (.lst .fz)) _ _ [] (by rw [List.append_nil]; exact f1.trans t1) (by rw [List.append_nil]; exact t2) own2
        rw [set_same hm] at r3
        rw [List.append_nil] at s4 o4
        exact q F3 _ A3 σ (s1.trans s4) o4 r3 Pin.refl
end
end T3

/-! T3, part m: x[i].append(e), x an owned list of owned lists. -/
namespace T3
open PySem L2
def sApp2 (s : Nat) (fi fa : PF) : SS := fun env => (pVar s env).bind fun d0 => (fi env).bind fun a => (fa env).bind fun x => match a with
  | .int k => (lstOf d0).bind fun xs => (ixN xs.length k).bind fun i => (xs[i]?).bind fun row => (lstOf row).bind fun ys => if ys.length < sizeLine then some (.nx, env.set s (some (.lst (xs.set i (.lst (ys ++ [x])))))) else none
  | _ => none
section
variable {X : Cx} {ct : CT} {P : Par} {m : List OT} {s : Nat} {fi fa : PF} {e eo e1 e2 : Expr} {pos : Pos}
theorem sj_app2 (mk : ∀ to ti t, PE X eo to → PE X e1 ti → PA X [e2] t → PE X e (tBM X.K "list" rAppend (tOp (rIxL X.K) to ti) t)) (h0 : PE X eo (tVar s)) (hi : EV X ct m e1 fi) (ha : AF X ct m [e2] (psC fa psN)) (hm : m[s]? = some (.lst (.lst .fz)))
    (hs : swapsWith e none pos.line X.env = pure false := by rfl) : SJ X ct P m (.Expr e pos) (sApp2 s fi fa) m := ps_imp (ps_expr (mk _ _ _ h0 hi ha) hs) fun D σ H ⟨F, A, env, fl, env', o, r, ee, q⟩ => by
  obtain ⟨d0, q2, ee⟩ := bind_some2 ee
  obtain ⟨ka, q3, ee⟩ := bind_some2 ee
  obtain ⟨x, q4, ee⟩ := bind_some2 ee
  obtain ⟨k, rfl⟩ : ∃ k, ka = .int k := by
    cases ka <;> first | exact ⟨_, rfl⟩ | (cases ee; done)
  simp only at ee
  obtain ⟨xs, q5, ee⟩ := bind_some2 ee
  obtain ⟨i, q6, ee⟩ := bind_some2 ee
  obtain ⟨row, q7, ee⟩ := bind_some2 ee
  obtain ⟨ys, q8, ee⟩ := bind_some2 ee
  have ee2 : (if ys.length < sizeLine then some (Fl.nx, env.set s (some (.lst (xs.set i (.lst (ys ++ [x])))))) else none) = some (fl, env') := ee
  clear ee
  cases lstOf_eq q5
  cases lstOf_eq q8
  by_cases hsz : ys.length < sizeLine
  · rw [if_pos hsz] at ee2
    cases ee2
    obtain ⟨v', B, R, h1, h2, h3, h4, h5, back⟩ := r.lend o hm (bind_id q2)
    cases h2 with
    | @lst _ a _ vs B' hv hall =>
      obtain ⟨vr, C1, Ci, C2, a1, a2, a3, rebuild⟩ := hall.at i _ q7
      cases a2 with
      | @lst _ b _ us B'' hu hal2 =>
        obtain ⟨hr2, rfl⟩ := OwnAll.fz' hal2
        subst a3
        refine ⟨.ref a, h1, F, A, env, _, o, r, q3, fun F2 H2 vk s2 o2 wk => ?_⟩
        cases view_int wk
        have hv2 : H2 a = some (.lst vs) := s2.fr a _ hv (fun z => nomatch z)
        have hu2 : H2 b = some (.lst us) := s2.fr b _ hu (fun z => nomatch z)
        have hlen : xs.length = vs.length := hall.len
        refine ⟨a, vs, k, .ref b, rfl, rfl, .of hv2, ?_, .inl ⟨rfl, _, .of hu2⟩, ?_⟩
        · unfold atI
          rw [← hlen, q6]
          exact a1
        obtain ⟨r2, _, oA2, _, _⟩ := r.pure o s2 o2
        refine ⟨F2, A, env, [x], oA2, r2, ?_, fun F3 H3 vs3 s3 o3 w3 => ?_⟩
        · show (fa env).bind _ = _
          rw [q4]
          rfl
        cases w3 with
        | @cons _ y _ _ w3 w4 =>
          cases w4
          have s23 := s2.trans s3
          have kept : ∀ c u, H c = some u → H3 c = some u := fun c u h => s23.fr c u h (fun z => nomatch z)
          refine ⟨b, us, _, rfl, rfl, kept b _ hu, by rw [← hr2.len]; exact hsz, ?_⟩
          have th : ∀ c ∈ a :: (C1 ++ ([b] ++ C2)), ∃ u, H c = some u := (Own.lst hv hall).there
          obtain ⟨f1, f2, _⟩ := Stp.frame (A1 := []) (A2 := a :: (C1 ++ ([b] ++ C2))) s23 h3 o3 th
          have hbm : b ∈ a :: (C1 ++ ([b] ++ C2)) := List.mem_cons_of_mem _ (List.mem_append_right _ (List.mem_append_left _ (List.mem_singleton.mpr rfl)))
          obtain ⟨t1, t2⟩ := write_own (u := .lst us) (u' := .lst (us ++ [y])) f2 hbm
          have nd := h3.nd
          rw [List.nodup_cons] at nd
          have hab : a ≠ b := fun z => nd.1 (by rw [z]; exact List.mem_append_right _ (List.mem_append_left _ (List.mem_singleton.mpr rfl)))
          have nb : ∀ c ∈ C1 ++ C2, c ≠ b := fun c hc z => by
            subst z
            have n2 := nd.2
            rw [List.nodup_append] at n2
            rcases List.mem_append.mp hc with z | z
            · exact n2.2.2 c z c (List.mem_append_left _ (List.mem_singleton.mpr rfl)) rfl
            · have n3 := n2.2.1
              rw [List.singleton_append, List.nodup_cons] at n3
              exact n3.1 z
          have own2 : Own X.K ct F3 (upd H3 b (.lst (us ++ [y]))) (.lst (.lst .fz)) (.lst (xs.set i (.lst (ys ++ [x])))) (.ref a) (a :: (C1 ++ ([b] ++ C2))) := by
            refine .lst (vs := vs) (by rw [upd_ne hab]; exact kept a _ hv) (rebuild F3 _ _ s23.fs (fun c hc u h => by rw [upd_ne (nb c hc)]; exact kept c u h) ?_)
            exact .lst (B := []) upd_same (OwnAll.of_fz ((hr2.mono s23.fs).app (.cons w3 .nil)))
          obtain ⟨A3, r3, s4, o4⟩ := back F3 _ (.lst (.lst .fz)) _ _ [] (by rw [List.append_nil]; exact f1.trans t1) (by rw [List.append_nil]; exact t2) own2
          rw [set_same hm] at r3
          rw [List.append_nil] at s4 o4
          exact q F3 _ A3 σ s4 o4 r3 Pin.refl
  · rw [if_neg hsz] at ee2
    cases ee2
end
end T3

/-! T3, part p: x.append(e), the item owned. -/
namespace T3
open PySem L2
section
variable {X : Cx} {ct : CT} {m : List OT} {i : Nat} {k : OT} {g : IF} {e e0 e2 : Expr}
theorem ei_appK (mk : ∀ to t, PE X e0 to → PE X e2 t → PE X e (tBM X.K "list" rAppend to (tCons t tNil))) (h0 : PE X e0 (tVar i)) (hi : m[i]? = some (.lst k)) (he : EI X ct m e2 g k) : EI X ct m e (iAppK i g) .fz :=
  pe_imp (mk _ _ h0 he) fun σ H Q ⟨F, A, env, d, env', o, r, ee, q⟩ => by
    obtain ⟨d00, q0, ee⟩ := bind_some2 ee
    obtain ⟨⟨dv, env1⟩, q1, ee⟩ := bind_some2 ee
    obtain ⟨d0, q2, ee⟩ := bind_some2 ee
    obtain ⟨xs, q3, ee⟩ := bind_some2 ee
    cases lstOf_eq q3
    by_cases hsz : xs.length < sizeLine
    · have e9 : (if xs.length < sizeLine then some (D.non, env1.set i (some (.lst (xs ++ [dv])))) else none) = some (d, env') := ee
      rw [if_pos hsz] at e9
      cases e9
      obtain ⟨v0, B0, R0, h1, h2, _, _, _, _⟩ := r.lend o hi (bind_id q0)
      cases h2 with
      | @lst _ a _ us0 B0' hv0 _ =>
        refine ⟨.ref a, h1, .inl ⟨rfl, _, .of hv0⟩, F, A, env, dv, env1, o, r, q1, fun F' H' A' B v s o' r' w => ?_⟩
        obtain ⟨ed, ov, B1, R, k1, k2, p, sl, th, up⟩ := r'.at_ i _ hi
        rw [bind_id q2] at k1
        cases k1
        obtain ⟨v1, rfl, w1⟩ := sl
        have : v1 = .ref a := by
          rw [h1] at k2
          cases k2
          rfl
        subst this
        cases w1 with
        | @lst _ _ _ us B2 hv hall =>
          refine ⟨a, us, v, rfl, rfl, hv, by rw [← hall.len]; exact hsz, ?_⟩
          have pA : (A' ++ B).Perm (((a :: B2) ++ B) ++ R) := by
            refine (List.Perm.append_right B p).trans ?_
            rw [List.append_assoc, List.append_assoc]
            exact List.Perm.append_left _ List.perm_append_comm
          have oA : Ok (((a :: B2) ++ B) ++ R) F' H' := o'.perm pA
          have ha : a ∈ A' ++ B := pA.mem_iff.mpr (List.mem_append_left _ (List.mem_append_left _ List.mem_cons_self))
          obtain ⟨t1, t2⟩ := write_own (u := .lst us) (u' := .lst (us ++ [v])) o' ha
          have nd := oA.nd
          have na : ∀ c ∈ B2 ++ B ++ R, c ≠ a := fun c hc z => by
            subst z
            rw [List.cons_append, List.cons_append, List.nodup_cons] at nd
            exact nd.1 hc
          have keep : ∀ c ∈ B2 ++ B ++ R, ∀ u, H' c = some u → upd H' a (.lst (us ++ [v])) c = some u := fun c hc u h => by rw [upd_ne (na c hc)]; exact h
          have own : Own X.K ct F' (upd H' a (.lst (us ++ [v]))) (.lst k) (.lst (xs ++ [dv])) (.ref a) (a :: (B2 ++ (B ++ []))) := by
            refine .lst upd_same ((hall.mono (fun _ _ h => h) fun c hc u h => keep c (List.mem_append_left _ (List.mem_append_left _ hc)) u h).app (.cons (w.mono (fun _ _ h => h) fun c hc u h => keep c (List.mem_append_left _ (List.mem_append_right _ hc)) u h) .nil))
          rw [List.append_nil] at own
          obtain ⟨A2, p2, r2⟩ := up F' _ (.lst k) (some (.lst (xs ++ [dv]))) (some (.ref a)) _ (fun _ _ h => h) (fun c hc u h => keep c (List.mem_append_right _ hc) u h) ⟨_, rfl, own⟩
          rw [set_same k2, set_same hi] at r2
          have pB : (A' ++ B).Perm A2 := pA.trans (by rw [List.cons_append] at *; exact p2.symm)
          have s9 : Stp A F H A2 F' (upd H' a (.lst (us ++ [v]))) := (s.trans t1).weak (fun _ z => z) fun c hc => .inl (pB.mem_iff.mpr hc)
          have o9 : Ok A2 F' (upd H' a (.lst (us ++ [v]))) := t2.perm pB
          exact q F' _ A2 [] .non (by rw [List.append_nil]; exact s9) (by rw [List.append_nil]; exact o9) r2 (.fz .non)
    · have e9 : (if xs.length < sizeLine then some (D.non, env1.set i (some (.lst (xs ++ [dv])))) else none) = some (d, env') := ee
      rw [if_neg hsz] at e9
      cases e9
end
end T3

/-! Sh0: what the shared functions compute, as combinators. -/
namespace Com
open PySem L2 T3
def s__law_draws : SS :=
 (sSeq (sAsg 2 (iP (pN nList (psC (pVar 0) psN))))
 (sSeq (sIf (liftB (bP (p2 nEq (pN nLen (psC (pVar 2) psN)) (pC (.int 0))))) (sAsg 2 (iP (pN nLstD (psC (pC (.int 7)) psN))))
 sNx)
 (sSeq (sAsg 3 (iP (pC (.lst []))))
 (sSeq (sAsg 4 (iP (pC (.int 12345))))
 (sSeq (sFor (itN rng1 (isC (iP (pVar 1)) isN)) (.nm 5)
 (sSeq (sAsg 6 (iP (p2 (nIc cPos fun i j => i % j) (pVar 5) (pN nLen (psC (pVar 2) psN)))))
 (sSeq (sAsg 7 (iP (p2 nIx (pVar 2) (pVar 6))))
 (sSeq (sAsg 4 (iP (p2 (nIc cPos fun i j => i % j) (pN nInt (psC (p2 nAdd (p2 nAdd (p2 nAdd (p2 (nIc cMul fun i j => i * j) (pVar 4) (pC (.int 48271))) (p2 (nIc cMul fun i j => i * j) (p2 (nIc cPos fun i j => i % j) (pN nInt (psC (pVar 7) psN)) (pC (.int 1000003))) (pC (.int 69621)))) (p2 (nIc cMul fun i j => i * j) (pVar 5) (pC (.int 7919)))) (pC (.int 11))) psN)) (pC (.int 2147483647)))))
 (sSeq (sAsg 8 (iP (p2 (nIc cPos fun i j => i % j) (pN nInt (psC (p2 nAdd (p2 nAdd (p2 (nIc cMul fun i j => i * j) (pVar 4) (pVar 4)) (p2 (nIc cMul fun i j => i * j) (pC (.int 31)) (pVar 4))) (pVar 5)) psN)) (pC (.int 1000003)))))
 (sIf (liftB (bP (p2 (nCmp fun i j => decide (j ≤ i)) (pVar 7) (p2 (nIc cPow fun i j => i ^ j.toNat) (pC (.int 10)) (pC (.int 18)))))) (sSeq (sEx (iMod 3 gAppend (isC (iP (p2 (nIc cPos fun i j => i % j) (pN nInt (psC (pVar 7) psN)) (pC (.int 1000)))) isN)))
 (sSet 2 (iP (p2 (nIc cDiv fun i j => i / j) (pVar 7) (pC (.int 1000)))) (iP (pVar 6))))
 (sEx (iMod 3 gAppend (isC (iP (p2 (nIc cPos fun i j => i % j) (pN nInt (psC (pVar 8) psN)) (pC (.int 1000)))) isN)))))))))
 (sSeq (sEx (iMod 3 gRev isN))
 (sRtO 3)))))))
def C__law_draws : List D → Option D := run0 9 2 (.lst .fz) s__law_draws
def s__law_take : SS :=
 (sSeq (sIf (liftB (bP (p2 nEq (pN nLen (psC (pVar 0) psN)) (pC (.int 0))))) (sRt (iP (pC (.int 0))))
 sNx)
 (sRt (i2 (nIc cPos fun i j => i % j) (iN nInt (isC (iMod 0 gPop isN) isN)) (iP (pVar 1)))))
def C__law_take : D → List D → Option (D × D) := run1 2 2 .fz s__law_take
def s__law_alphabet : SS :=
 (sSeq (sAsg 3 (i2 nAdd (iP (pC (.int 1))) (iCall 0 C__law_take (isC (iP (pVar 1)) isN))))
 (sSeq (sAsg 4 (iP (pC (.lst []))))
 (sSeq (sFor (itN rng1 (isC (i2 nAdd (iP (pC (.int 1))) (iCall 0 C__law_take (isC (iP (pVar 2)) isN))) isN)) (.nm 5)
 (sSeq (sAsg 6 (i2 nIx (iP (pN nLstD (psC (pC (.int 1)) (psC (pC (.int 1)) (psC (pC (.int 1)) (psC (pC (.int 2)) (psC (pC (.int 3)) (psC (pC (.int 6)) psN)))))))) (iCall 0 C__law_take (isC (iP (pC (.int 6))) isN))))
 (sSeq (sAsg 7 (iComp (itN rng1 (isC (iP (pVar 6)) isN)) [8] (.nm 8) iYes (iCall 0 C__law_take (isC (iP (pVar 3)) isN))))
 (sEx (iMod 4 gAppend (isC (iP (pN nTuple (psC (pN nSortSet (psC (pVar 7) psN)) psN))) isN))))))
 (sRt (iP (pN nTupD (psC (pVar 3) (psC (pVar 4) psN))))))))
def C__law_alphabet : D → List D → Option (D × D) := run1 9 3 .fz s__law_alphabet
def s__law_word : SS :=
 (sRt (iN nTuple (isC (iComp (itN rng1 (isC (iCall 0 C__law_take (isC (iP (p2 nAdd (pVar 2) (pC (.int 1)))) isN)) isN)) [3] (.nm 3) iYes (iCall 0 C__law_take (isC (iP (pVar 1)) isN))) isN)))
def C__law_word : D → List D → Option (D × D) := run1 4 3 .fz s__law_word
def s__law_free : SS :=
 (sRt (iP (p2 nEq (pN nLen (psC (pComp (ivSeq (p2 nIx (pVar 0) (pVar 1))) [3] (.nm 3) (bP (p2 nIn (pVar 3) (p2 nIx (pVar 0) (pVar 2)))) (pVar 3)) psN)) (pC (.int 0)))))
def C__law_free : List D → Option D := run0 4 3 .fz s__law_free
def s__law_shuffled : SS :=
 (sSeq (sAsg 4 (iP (pN nList (psC (pVar 2) psN))))
 (sSeq (sFor (itN rng1 (isC (iP (pVar 3)) isN)) (.nm 5)
 (sIf (liftB (bP (p2 (nCmp fun i j => decide (j < i)) (pN nLen (psC (pVar 4) psN)) (pC (.int 1))))) (sSeq (sAsg 6 (iCall 0 C__law_take (isC (iP (p2 (nI2 fun i j => i - j) (pN nLen (psC (pVar 4) psN)) (pC (.int 1)))) isN)))
 (sIf (liftB (bP (pN C__law_free (psC (pVar 1) (psC (p2 nIx (pVar 4) (pVar 6)) (psC (p2 nIx (pVar 4) (p2 nAdd (pVar 6) (pC (.int 1)))) psN)))))) (sSeq (sAsg 7 (iP (p2 nIx (pVar 4) (pVar 6))))
 (sSeq (sSet 4 (iP (p2 nIx (pVar 4) (p2 nAdd (pVar 6) (pC (.int 1))))) (iP (pVar 6)))
 (sSet 4 (iP (pVar 7)) (iP (p2 nAdd (pVar 6) (pC (.int 1)))))))
 sNx))
 sNx))
 (sRt (iP (pN nTuple (psC (pVar 4) psN))))))
def C__law_shuffled : D → List D → Option (D × D) := run1 8 4 .fz s__law_shuffled
def s__law_place : SS :=
 (sRt (iP (pN nTuple (psC (pComp (ivSeq (pVar 1)) [3] (.nm 3) (bP (p2 nIn (pVar 2) (p2 nIx (pVar 0) (pVar 3)))) (pVar 3)) psN))))
def C__law_place : List D → Option D := run0 4 3 .fz s__law_place
def s_fits : SS :=
 (sSeq (sIf (liftB (bP (p2 nEq (pN nLen (psC (pVar 0) psN)) (pC (.int 0))))) (sRt (iP (pC (.bl false))))
 sNx)
 (sSeq (sFor (itN rng1 (isC (iP (pN nLen (psC (pVar 0) psN))) isN)) (.nm 2)
 (sIf (liftB (bOrP (bP (p2 (nCmp fun i j => decide (i < j)) (p2 nIx (pVar 0) (pVar 2)) (pC (.int 0)))) (bOrP (bP (p2 (nCmp fun i j => decide (j ≤ i)) (p2 nIx (pVar 0) (pVar 2)) (pVar 1))) (bAndP (bP (p2 (nCmp fun i j => decide (j < i)) (pVar 2) (pC (.int 0)))) (bP (p2 (nCmp fun i j => decide (i ≤ j)) (p2 nIx (pVar 0) (pVar 2)) (p2 nIx (pVar 0) (p2 (nI2 fun i j => i - j) (pVar 2) (pC (.int 1)))))))))) (sRt (iP (pC (.bl false))))
 sNx))
 (sRt (iP (pC (.bl true))))))
def C_fits : List D → Option D := run0 3 2 .fz s_fits
def s_Alphabet___init__ : SS :=
 (sSeq (sAsg 3 (iP (pAnd (pChain (nCmp fun i j => decide (i ≤ j)) (nCmp fun i j => decide (i ≤ j)) (pC (.int 1)) (pVar 1) (pC (.int 4))) (pChain (nCmp fun i j => decide (i ≤ j)) (nCmp fun i j => decide (i ≤ j)) (pC (.int 1)) (pN nLen (psC (pVar 2) psN)) (pC (.int 6))))))
 (sSeq (sFor (itSeq (iP (pVar 2))) (.nm 4)
 (sAsg 3 (iP (pAnd (pVar 3) (pN C_fits (psC (pVar 4) (psC (pVar 1) psN)))))))
 (sSeq (sIf (liftB (bNotP (bP (pVar 3)))) sNo
 sNx)
 (sSeq (sFldN 0 0 0 (iP (pVar 1)))
 (sFldN 0 0 1 (iP (pN nTuple (psC (pComp (ivSeq (pVar 2)) [4] (.nm 4) bYes (pN nTuple (psC (pVar 4) psN))) psN))))))))
def C_Alphabet___init__ : D → List D → Option (D × D) := run1 5 3 .fz s_Alphabet___init__
def s_place_word : SS :=
 (sRt (iP (pN nTuple (psC (pComp (ivSeq (pVar 1)) [3] (.nm 3) (bP (p2 nIn (pVar 2) (p2 nIx (p1 (nFld 0 1) (pVar 0)) (pVar 3)))) (pVar 3)) psN))))
def C_place_word : List D → Option D := run0 4 3 .fz s_place_word
def s_independent : SS :=
 (sSeq (sFor (itSeq (iP (p2 nIx (p1 (nFld 0 1) (pVar 0)) (pVar 1)))) (.nm 3)
 (sIf (liftB (bP (p2 nIn (pVar 3) (p2 nIx (p1 (nFld 0 1) (pVar 0)) (pVar 2))))) (sRt (iP (pC (.bl false))))
 sNx))
 (sRt (iP (pC (.bl true)))))
def C_independent : List D → Option D := run0 4 3 .fz s_independent
def s_masks : SS :=
 (sSeq (sAsg 1 (iP (pC (.lst []))))
 (sSeq (sFor (itN rng1 (isC (iP (pN nLen (psC (p1 (nFld 0 1) (pVar 0)) psN))) isN)) (.nm 2)
 (sSeq (sAsg 3 (iP (pC (.int 0))))
 (sSeq (sFor (itN rng1 (isC (iP (pN nLen (psC (p1 (nFld 0 1) (pVar 0)) psN))) isN)) (.nm 4)
 (sIf (liftB (bNotP (bP (pN C_independent (psC (pVar 0) (psC (pVar 2) (psC (pVar 4) psN))))))) (sAsg 3 (iP (p2 (nI2 Builtin.bitOr) (pVar 3) (p2 (nIc cPow fun i j => i * 2 ^ j.toNat) (pC (.int 1)) (pVar 4)))))
 sNx))
 (sEx (iMod 1 gAppend (isC (iP (pVar 3)) isN))))))
 (sRt (iP (pVar 1)))))
def C_masks : List D → Option D := run0 5 1 .fz s_masks
def s__law_is_integer : SS :=
 (sRt (iP (pAnd (p1 (nIsi .int) (pVar 0)) (pNot (p1 (nIsi .bool) (pVar 0))))))
def C__law_is_integer : List D → Option D := run0 1 1 .fz s__law_is_integer
def s__law_is_word : SS :=
 (sSeq (sIf (liftB (bNotP (bP (p1 (nIsi .tuple) (pVar 0))))) (sRt (iP (pC (.bl false))))
 sNx)
 (sSeq (sFor (itSeq (iP (pVar 0))) (.nm 2)
 (sIf (liftB (bOrP (bNotP (bP (pN C__law_is_integer (psC (pVar 2) psN)))) (bOrP (bP (p2 (nCmp fun i j => decide (i < j)) (pVar 2) (pC (.int 0)))) (bP (p2 (nCmp fun i j => decide (j ≤ i)) (pVar 2) (pVar 1)))))) (sRt (iP (pC (.bl false))))
 sNx))
 (sRt (iP (pC (.bl true))))))
def C__law_is_word : List D → Option D := run0 3 2 .fz s__law_is_word
def s__law_all_words : SS :=
 (sSeq (sIf (liftB (bNotP (bP (p1 (nIsi .list) (pVar 0))))) (sRt (iP (pC (.bl false))))
 sNx)
 (sSeq (sFor (itSeq (iP (pVar 0))) (.nm 2)
 (sIf (liftB (bOrP (bNotP (bP (p1 (nIsi .tuple) (pVar 2)))) (bNotP (bP (pN C__law_is_word (psC (pVar 2) (psC (pVar 1) psN))))))) (sRt (iP (pC (.bl false))))
 sNx))
 (sRt (iP (pC (.bl true))))))
def C__law_all_words : List D → Option D := run0 3 2 .fz s__law_all_words
def s__law_alike : SS :=
 (sSeq (sFor (itN rng1 (isC (iP (pVar 0)) isN)) (.nm 4)
 (sIf (liftB (bP (p2 nNe (pN C__law_place (psC (pVar 1) (psC (pVar 2) (psC (pVar 4) psN)))) (pN C__law_place (psC (pVar 1) (psC (pVar 3) (psC (pVar 4) psN))))))) (sRt (iP (pC (.bl false))))
 sNx))
 (sRt (iP (pC (.bl true)))))
def C__law_alike : List D → Option D := run0 5 4 .fz s__law_alike
def s_first_letters : SS :=
 (sSeq (sAsg 2 (iP (pC (.lst []))))
 (sSeq (sAsg 3 (iP (pC (.int 0))))
 (sSeq (sAsg 4 (iP (pN C_masks (psC (pVar 0) psN))))
 (sSeq (sFor (itN rng1 (isC (iP (pN nLen (psC (pVar 1) psN))) isN)) (.nm 5)
 (sSeq (sIf (liftB (bP (p2 nEq (p2 (nI2 Builtin.bitAnd) (p2 (nIc cNn fun i j => i / 2 ^ j.toNat) (pVar 3) (p2 nIx (pVar 1) (pVar 5))) (pC (.int 1))) (pC (.int 0))))) (sEx (iMod 2 gAppend (isC (iP (pVar 5)) isN)))
 sNx)
 (sAsg 3 (iP (p2 (nI2 Builtin.bitOr) (pVar 3) (p2 nIx (pVar 4) (p2 nIx (pVar 1) (pVar 5))))))))
 (sRtO 2)))))
def C_first_letters : List D → Option D := run0 6 2 (.lst .fz) s_first_letters
def s_least_form : SS :=
 (sSeq (sAsg 2 (iP (pN nList (psC (pVar 1) psN))))
 (sSeq (sAsg 3 (iP (pC (.lst []))))
 (sSeq (sWh (liftB (bP (p2 (nCmp fun i j => decide (j < i)) (pN nLen (psC (pVar 2) psN)) (pC (.int 0)))))
 (sSeq (sAsg 4 (iP (p1 nNeg (pC (.int 1)))))
 (sSeq (sFor (itSeq (iP (pN (flG (.lst .fz) C_first_letters) (psC (pVar 0) (psC (pVar 2) psN))))) (.nm 5)
 (sIf (liftB (bOrP (bP (p2 (nCmp fun i j => decide (i < j)) (pVar 4) (pC (.int 0)))) (bP (p2 (nCmp fun i j => decide (i < j)) (p2 nIx (pVar 2) (pVar 5)) (p2 nIx (pVar 2) (pVar 4)))))) (sAsg 4 (iP (pVar 5)))
 sNx))
 (sEx (iMod 3 gAppend (isC (iMod 2 gPopAt (isC (iP (pVar 4)) isN)) isN))))))
 (sRt (iP (pN nTuple (psC (pVar 3) psN)))))))
def C_least_form : List D → Option D := run0 6 2 .fz s_least_form
def s_first_place : SS :=
 (sSeq (sFor (itSeq (iP (pN C_first_letters (psC (pVar 0) (psC (pVar 1) psN))))) (.nm 3)
 (sIf (liftB (bP (p2 nEq (p2 nIx (pVar 1) (pVar 3)) (pVar 2)))) (sRt (iP (pVar 3)))
 sNx))
 (sRt (iP (p1 nNeg (pC (.int 1))))))
def C_first_place : List D → Option D := run0 4 3 .fz s_first_place
def s_without : SS :=
 (sRt (iP (p2 nAdd (pN nTuple (psC (pSl nSl (pVar 0) none (some (pVar 1))) psN)) (pN nTuple (psC (pSl nSl (pVar 0) (some (p2 nAdd (pVar 1) (pC (.int 1)))) none) psN)))))
def C_without : List D → Option D := run0 2 2 .fz s_without
def s_rest : SS :=
 (sSeq (sAsg 3 (iP (pN nTuple (psC (pVar 2) psN))))
 (sSeq (sFor (itSeq (iP (pVar 1))) (.nm 4)
 (sSeq (sAsg 5 (iP (pN C_first_place (psC (pVar 0) (psC (pVar 3) (psC (pVar 4) psN))))))
 (sSeq (sIf (liftB (bP (p2 (nCmp fun i j => decide (i < j)) (pVar 5) (pC (.int 0))))) (sRt (iP (pC .non)))
 sNx)
 (sAsg 3 (iP (pN C_without (psC (pVar 3) (psC (pVar 5) psN))))))))
 (sRt (iP (pN C_least_form (psC (pVar 0) (psC (pVar 3) psN)))))))
def C_rest : List D → Option D := run0 6 3 .fz s_rest
def s_common_prefix : SS :=
 (sSeq (sAsg 3 (iP (pN nTuple (psC (pVar 1) psN))))
 (sSeq (sAsg 4 (iP (pN nTuple (psC (pVar 2) psN))))
 (sSeq (sAsg 5 (iP (pC (.lst []))))
 (sSeq (sAsg 6 (iP (pC (.int 0))))
 (sSeq (sWh (liftB (bP (p2 (nCmp fun i j => decide (i < j)) (pVar 6) (pN nLen (psC (p1 (nFld 0 1) (pVar 0)) psN)))))
 (sSeq (sAsg 7 (iP (pN C_first_place (psC (pVar 0) (psC (pVar 3) (psC (pVar 6) psN))))))
 (sSeq (sAsg 8 (iP (pN C_first_place (psC (pVar 0) (psC (pVar 4) (psC (pVar 6) psN))))))
 (sIf (liftB (bAndP (bP (p2 (nCmp fun i j => decide (j ≤ i)) (pVar 7) (pC (.int 0)))) (bP (p2 (nCmp fun i j => decide (j ≤ i)) (pVar 8) (pC (.int 0)))))) (sSeq (sEx (iMod 5 gAppend (isC (iP (pVar 6)) isN)))
 (sSeq (sAsg 3 (iP (pN C_without (psC (pVar 3) (psC (pVar 7) psN)))))
 (sSeq (sAsg 4 (iP (pN C_without (psC (pVar 4) (psC (pVar 8) psN)))))
 (sAsg 6 (iP (pC (.int 0)))))))
 (sAug (nI2 (fun i j => i + j)) 6 (iP (pC (.int 1))))))))
 (sRt (iP (pN C_least_form (psC (pVar 0) (psC (pVar 5) psN))))))))))
def C_common_prefix : List D → Option D := run0 9 3 .fz s_common_prefix
def s_equivalent : SS :=
 (sSeq (sFor (itN rng1 (isC (iP (p1 (nFld 0 0) (pVar 0))) isN)) (.nm 3)
 (sIf (liftB (bP (p2 nNe (pN C_place_word (psC (pVar 0) (psC (pVar 1) (psC (pVar 3) psN)))) (pN C_place_word (psC (pVar 0) (psC (pVar 2) (psC (pVar 3) psN))))))) (sRt (iP (pC (.bl false))))
 sNx))
 (sRt (iP (pC (.bl true)))))
def C_equivalent : List D → Option D := run0 4 3 .fz s_equivalent
def s__law_least : SS :=
 (sSeq (sAsg 2 (iP (pN nList (psC (pVar 1) psN))))
 (sSeq (sAsg 3 (iP (pC (.lst []))))
 (sSeq (sFor (itN rng1 (isC (iP (pN nLen (psC (pVar 1) psN))) isN)) (.nm 4)
 (sSeq (sAsg 5 (iP (p1 nNeg (pC (.int 1)))))
 (sSeq (sFor (itN rng1 (isC (iP (pN nLen (psC (pVar 2) psN))) isN)) (.nm 6)
 (sSeq (sAsg 7 (iP (pComp (ivN rng1 (psC (pVar 6) psN)) [8] (.nm 8) (bNotP (bP (pN C__law_free (psC (pVar 0) (psC (p2 nIx (pVar 2) (pVar 8)) (psC (p2 nIx (pVar 2) (pVar 6)) psN)))))) (pVar 8))))
 (sIf (liftB (bAndP (bP (p2 nEq (pN nLen (psC (pVar 7) psN)) (pC (.int 0)))) (bOrP (bP (p2 (nCmp fun i j => decide (i < j)) (pVar 5) (pC (.int 0)))) (bP (p2 (nCmp fun i j => decide (i < j)) (p2 nIx (pVar 2) (pVar 6)) (p2 nIx (pVar 2) (pVar 5))))))) (sAsg 5 (iP (pVar 6)))
 sNx)))
 (sSeq (sEx (iMod 3 gAppend (isC (iP (p2 nIx (pVar 2) (pVar 5))) isN)))
 (sAsg 2 (iP (p2 nAdd (pSl nSl (pVar 2) none (some (pVar 5))) (pSl nSl (pVar 2) (some (p2 nAdd (pVar 5) (pC (.int 1)))) none))))))))
 (sRt (iP (pN nTuple (psC (pVar 3) psN)))))))
def C__law_least : List D → Option D := run0 9 2 .fz s__law_least
end Com

/-! Sh1: meanings in plain words: what holds of an answer, step by step. -/
namespace Com
open PySem L2 T3

/-- there is an answer, and it is so -/
def W {α : Type} (x : Option α) (Q : α → Prop) : Prop := ∃ r, x = some r ∧ Q r
section
variable {α β : Type} {Q : α → Prop}
theorem W_some {a : α} : W (some a) Q ↔ Q a := ⟨fun ⟨_, e, q⟩ => (by cases e; exact q), fun q => ⟨a, rfl, q⟩⟩
theorem W_none : W (none : Option α) Q ↔ False := ⟨fun ⟨_, e, _⟩ => (by cases e), fun q => False.elim q⟩
theorem W_bind {x : Option β} {f : β → Option α} : W (x.bind f) Q ↔ W x fun r => W (f r) Q := by
  cases x with
  | none => exact ⟨fun ⟨_, e, _⟩ => (by cases e), fun ⟨_, e, _⟩ => (by cases e)⟩
  | some b => exact ⟨fun h => ⟨b, rfl, h⟩, fun ⟨_, e, h⟩ => (by cases e; exact h)⟩
theorem W_map {x : Option β} {f : β → α} : W (x.map f) Q ↔ W x fun r => Q (f r) := by
  cases x with
  | none => exact ⟨fun ⟨_, e, _⟩ => (by cases e), fun ⟨_, e, _⟩ => (by cases e)⟩
  | some b => exact ⟨fun ⟨_, e, h⟩ => (by cases e; exact ⟨b, rfl, h⟩), fun ⟨_, e, h⟩ => (by cases e; exact ⟨_, rfl, h⟩)⟩
theorem W.mono {x : Option α} {Q' : α → Prop} (h : W x Q) (i : ∀ r, Q r → Q' r) : W x Q' := by
  obtain ⟨r, e, q⟩ := h
  exact ⟨r, e, i r q⟩
theorem W_eq {x : Option α} {r : α} (e : x = some r) (q : Q r) : W x Q := ⟨r, e, q⟩
end
def nxK (g : SS) (Q : Fl × T3.Env → Prop) (p : Fl × T3.Env) : Prop := match p.1 with
  | .nx => W (g p.2) Q
  | _ => Q p
theorem W_seq {f g : SS} {env : T3.Env} {Q : Fl × T3.Env → Prop} (h : W (f env) (nxK g Q)) : W (sSeq f g env) Q := by
  obtain ⟨⟨fl, e1⟩, e, q⟩ := h
  unfold sSeq
  rw [e]
  cases fl with
  | nx => exact q
  | _ => exact ⟨_, rfl, q⟩
theorem K_nx {g : SS} {Q : Fl × T3.Env → Prop} {env : T3.Env} (h : W (g env) Q) : nxK g Q (.nx, env) := h
theorem K_rt {g : SS} {Q : Fl × T3.Env → Prop} {env : T3.Env} {d : D} (h : Q (.rt d, env)) : nxK g Q (.rt d, env) := h
/-- a def's answer -/
theorem W_run0 {n na : Nat} {rk : OT} {f : SS} {ds : List D} {Q : D → Prop} (hl : ds.length = na) (h : W (f (startE n ds)) fun p => match p.1 with | .rt d => Q d | .nx => W (nonOf rk) Q | _ => False) : W (run0 n na rk f ds) Q := by
  obtain ⟨⟨fl, e1⟩, e, q⟩ := h
  unfold run0
  rw [if_pos hl, e]
  cases fl with
  | nx => exact q
  | rt d => exact ⟨d, rfl, q⟩
  | _ => exact False.elim q
theorem W_run1 {n na : Nat} {rk : OT} {f : SS} {d0 : D} {ds : List D} {Q : D × D → Prop} (hl : ds.length + 1 = na) (h : W (f (startE n (d0 :: ds))) fun p => W (pVar 0 p.2) fun d1 => match p.1 with | .rt d => Q (d, d1) | .nx => W (nonOf rk) (fun d => Q (d, d1)) | _ => False) : W (run1 n na rk f d0 ds) Q := by
  obtain ⟨⟨fl, e1⟩, e, d1, e2, q⟩ := h
  unfold run1
  rw [if_pos hl, e]
  show W ((pVar 0 e1).bind _) Q
  rw [e2]
  cases fl with
  | nx =>
    obtain ⟨d, e3, q⟩ := q
    show W ((nonOf rk).map _) Q
    rw [e3]
    exact ⟨_, rfl, q⟩
  | rt d => exact ⟨_, rfl, q⟩
  | _ => exact False.elim q
theorem run0_of {n na : Nat} {rk : OT} {f : SS} {ds : List D} {d : D} (h : W (run0 n na rk f ds) fun r => r = d) : run0 n na rk f ds = some d := by
  obtain ⟨r, e, rfl⟩ := h
  exact e
/-! loops -/
def flK (Inv : T3.Env → Prop) (Q : Fl × T3.Env → Prop) (p : Fl × T3.Env) : Prop := match p.1 with
  | .nx => Inv p.2
  | .ct => Inv p.2
  | .bk => Q (.nx, p.2)
  | .rt d => Q (.rt d, p.2)
theorem W_forL {bnd : D → T3.Env → Option T3.Env} {b : SS} {Q : Fl × T3.Env → Prop} (Inv : Nat → T3.Env → Prop) : ∀ (xs : List D) (k : Nat) (env : T3.Env), Inv k env →
    (∀ i x env, xs[i]? = some x → Inv (k + i) env → W (bnd x env) fun env1 => W (b env1) (flK (Inv (k + i + 1)) Q)) → (∀ env, Inv (k + xs.length) env → Q (.nx, env)) → W (forL bnd b xs env) Q
  | [], k, env, h0, _, hE => ⟨_, rfl, hE env h0⟩
  | x :: xs, k, env, h0, hs, hE => by
    obtain ⟨env1, e1, ⟨fl, env2⟩, e2, q⟩ := hs 0 x env rfl h0
    have next : Inv (k + 1) env2 → W (forL bnd b xs env2) Q := fun z => W_forL Inv xs (k + 1) env2 z (fun i y env' hi hI => by
      have := hs (i + 1) y env' hi (by rw [← Nat.add_assoc, Nat.add_right_comm]; exact hI)
      rwa [← Nat.add_assoc k i 1, Nat.add_right_comm k i 1] at this) fun env' hI => hE env' (by rw [List.length_cons, Nat.add_comm xs.length 1, ← Nat.add_assoc]; exact hI)
    unfold forL
    rw [e1]
    show W ((b env1).bind _) Q
    rw [e2]
    cases fl with
    | nx => exact next q
    | ct => exact next q
    | bk => exact ⟨_, rfl, q⟩
    | rt d => exact ⟨_, rfl, q⟩
theorem W_whL {c : IB} {b : SS} {Q : Fl × T3.Env → Prop} (Inv : Nat → T3.Env → Prop)
    (h : ∀ n env, Inv n env → W (c env) fun t => if t.1 = true then W (b t.2) (flK (fun env' => ∃ n', n' < n ∧ Inv n' env') Q) else Q (.nx, t.2)) : ∀ (fu n : Nat) (env : T3.Env), n < fu → Inv n env → W (whL c b fu env) Q
  | 0, n, _, hn, _ => by omega
  | fu + 1, n, env, hn, hI => by
    obtain ⟨⟨t, env1⟩, e1, q⟩ := h n env hI
    unfold whL
    rw [e1]
    show W (if t = true then _ else _) Q
    cases t with
    | false => exact ⟨_, rfl, q⟩
    | true =>
      rw [if_pos rfl]
      rw [if_pos rfl] at q
      obtain ⟨⟨fl, env2⟩, e2, q⟩ := q
      rw [e2]
      cases fl with
      | nx => obtain ⟨n', h1, h2⟩ := q; exact W_whL Inv h fu n' env2 (by omega) h2
      | ct => obtain ⟨n', h1, h2⟩ := q; exact W_whL Inv h fu n' env2 (by omega) h2
      | bk => exact ⟨_, rfl, q⟩
      | rt d => exact ⟨_, rfl, q⟩
/-! comprehensions -/
theorem compP_eq {α : Type} {t : PB} {e : PF} {bnd : D → T3.Env → Option T3.Env} {env0 : T3.Env} (f : α → D) (p : α → Bool) (g : α → D) : ∀ (xs : List α),
    (∀ x ∈ xs, W (bnd (f x) env0) fun env1 => t env1 = some (p x) ∧ (p x = true → e env1 = some (g x))) → compP t e bnd env0 (xs.map f) = some ((xs.filter p).map g)
  | [], _ => rfl
  | x :: xs, h => by
    obtain ⟨env1, e1, e2, e3⟩ := h x List.mem_cons_self
    have ih := compP_eq f p g xs fun y hy => h y (List.mem_cons_of_mem _ hy)
    rw [List.map_cons]
    unfold compP
    rw [e1]
    show (t env1).bind _ = _
    rw [e2]
    cases hp : p x with
    | false => simp [hp, ih]
    | true =>
      have e3 := e3 hp
      simp [hp, ih, e3]
theorem W_compI {t : IB} {e : IF} {bnd : D → T3.Env → Option T3.Env} {own : List Nat} (Inv : T3.Env → Prop) (P : D → D → Prop) : ∀ (xs : List D) (env : T3.Env), Inv env →
    (∀ x ∈ xs, ∀ env, Inv env → W (bnd x (wipeE env own)) fun env1 => W (t env1) fun c => c.1 = true ∧ W (e c.2) fun q => P x q.1 ∧ Inv q.2) →
    W (compI t e bnd own xs env) fun (q : List D × T3.Env) => q.1.length = xs.length ∧ (∀ (i : Nat) (x y : D), xs[i]? = some x → q.1[i]? = some y → P x y) ∧ Inv q.2
  | [], env, h0, _ => ⟨_, rfl, rfl, (fun i x y h => by simp at h), h0⟩
  | x :: xs, env, h0, hs => by
    obtain ⟨env1, e1, ⟨c, env2⟩, e2, hc, ⟨y, env3⟩, e3, hP, hI⟩ := hs x List.mem_cons_self env h0
    obtain ⟨⟨ys, env4⟩, e4, h1, h2, h3⟩ := W_compI Inv P xs env3 hI fun z hz => hs z (List.mem_cons_of_mem _ hz)
    have hc : c = true := hc
    subst hc
    refine ⟨(y :: ys, env4), ?_, by simpa using h1, fun i u v hu hv => ?_, h3⟩
    · unfold compI
      simp only [e1, Option.bind_some, e2, if_true, e3, e4, Option.map_some]
    · cases i with
      | zero => simp only [List.getElem?_cons_zero, Option.some.injEq] at hu hv; subst hu; subst hv; exact hP
      | succ i => exact h2 i u v (by simpa using hu) (by simpa using hv)
/-! plain data -/
abbrev LI (l : List Int) : List D := l.map D.int
abbrev TI (l : List Int) : D := .tup (l.map D.int)
/-- the draws that are left -/
def Dr (d : D) : Prop := ∃ ds : List Int, d = .lst (LI ds)
def Sd (n : Nat) (d : D) : Prop := (toP d).canLay0 = true ∧ (toP d).depth ≤ n
theorem Sd.shp {n : Nat} {d : D} (h : Sd n d) (hn : n ≤ 64 := by decide) : shp d = true := by
  have h1 := h.1
  have h2 := h.2
  show (PyData.canLay0 _ && decide _) = true
  rw [h1, Bool.true_and]
  exact decide_eq_true (by omega)
theorem sd_int {n : Nat} (i : Int) : Sd n (.int i) := ⟨rfl, Nat.zero_le _⟩
theorem sd_bl {n : Nat} (b : Bool) : Sd n (.bl b) := ⟨rfl, Nat.zero_le _⟩
theorem sd_non {n : Nat} : Sd n .non := ⟨rfl, Nat.zero_le _⟩
theorem sds {n : Nat} : ∀ {xs : List D}, (∀ x ∈ xs, Sd n x) → PyData.canLayAll0 (toPs xs) = true ∧ PyData.depthAll (toPs xs) ≤ n
  | [], _ => ⟨rfl, Nat.zero_le _⟩
  | x :: xs, h => by
    have a := h x List.mem_cons_self
    have b := sds fun y hy => h y (List.mem_cons_of_mem _ hy)
    rw [toPs, PyData.canLayAll0, PyData.depthAll, a.1, b.1]
    exact ⟨rfl, Nat.max_le.mpr ⟨a.2, b.2⟩⟩
theorem sd_tup {n : Nat} {xs : List D} (h : ∀ x ∈ xs, Sd n x) : Sd (n + 1) (.tup xs) := by
  have a := sds h
  refine ⟨?_, ?_⟩
  · rw [toP, PyData.canLay0]; exact a.1
  · rw [toP, PyData.depth]; exact Nat.succ_le_succ a.2
theorem sd_lst {n : Nat} {xs : List D} (h : ∀ x ∈ xs, Sd n x) : Sd (n + 1) (.lst xs) := by
  have a := sds h
  refine ⟨?_, ?_⟩
  · rw [toP, PyData.canLay0]; exact a.1
  · rw [toP, PyData.depth]; exact Nat.succ_le_succ a.2
theorem sd_TI {n : Nat} (l : List Int) : Sd (n + 1) (TI l) := sd_tup fun x hx => by
  obtain ⟨i, _, rfl⟩ := List.mem_map.mp hx
  exact sd_int i
theorem sd_LI {n : Nat} (l : List Int) : Sd (n + 1) (.lst (LI l)) := sd_lst fun x hx => by
  obtain ⟨i, _, rfl⟩ := List.mem_map.mp hx
  exact sd_int i
theorem dE_int (i j : Int) : dE (.int i) (.int j) = decide (i = j) := by
  show PyData.eqv (.int i) (.int j) = _
  rw [PyData.eqv]
  by_cases h : i = j <;> simp [h]
theorem dE_bl (i j : Bool) : dE (.bl i) (.bl j) = decide (i = j) := by
  show PyData.eqv (.bool i) (.bool j) = _
  rw [PyData.eqv]
  cases i <;> cases j <;> rfl
theorem eqvAll_map {α : Type} [DecidableEq α] (f : α → D) (hf : ∀ a b, dE (f a) (f b) = decide (a = b)) : ∀ (xs ys : List α), PyData.eqvAll (toPs (xs.map f)) (toPs (ys.map f)) = decide (xs = ys)
  | [], [] => rfl
  | [], y :: ys => by rw [List.map_nil, toPs, List.map_cons, toPs, PyData.eqvAll]; rfl
  | x :: xs, [] => by rw [List.map_nil, toPs, List.map_cons, toPs, PyData.eqvAll]; rfl
  | x :: xs, y :: ys => by
    rw [List.map_cons, List.map_cons, toPs, toPs, PyData.eqvAll, eqvAll_map f hf xs ys]
    have : PyData.eqv (toP (f x)) (toP (f y)) = decide (x = y) := hf x y
    rw [this]
    by_cases h1 : x = y <;> by_cases h2 : xs = ys <;> simp [h1, h2]
theorem dE_tup {α : Type} [DecidableEq α] (f : α → D) (hf : ∀ a b, dE (f a) (f b) = decide (a = b)) (xs ys : List α) : dE (.tup (xs.map f)) (.tup (ys.map f)) = decide (xs = ys) := by
  show PyData.eqv (toP _) (toP _) = _
  rw [toP, toP, PyData.eqv]
  exact eqvAll_map f hf xs ys
theorem dE_lst {α : Type} [DecidableEq α] (f : α → D) (hf : ∀ a b, dE (f a) (f b) = decide (a = b)) (xs ys : List α) : dE (.lst (xs.map f)) (.lst (ys.map f)) = decide (xs = ys) := by
  show PyData.eqv (toP _) (toP _) = _
  rw [toP, toP, PyData.eqv]
  exact eqvAll_map f hf xs ys
theorem dE_TI (a b : List Int) : dE (TI a) (TI b) = decide (a = b) := dE_tup D.int dE_int a b
theorem dE_LI (a b : List Int) : dE (.lst (LI a)) (.lst (LI b)) = decide (a = b) := dE_lst D.int dE_int a b
theorem dE_pair (a b c d : D) : dE (.tup [a, b]) (.tup [c, d]) = (dE a c && dE b d) := by
  show PyData.eqv (toP _) (toP _) = _
  rw [toP, toP, PyData.eqv]
  simp only [toPs, PyData.eqvAll, Bool.and_true]
  rfl
theorem nEq_of {x y : D} {b : Bool} (h1 : shp x = true) (h2 : shp y = true) (h : dE x y = b) : nEq x y = some (.bl b) := by
  unfold nEq
  rw [h1, h2, h]
  rfl
theorem nNe_of {x y : D} {b : Bool} (h1 : shp x = true) (h2 : shp y = true) (h : dE x y = b) : nNe x y = some (.bl (!b)) := by
  unfold nNe
  rw [h1, h2, h]
  rfl
theorem nEq_int (i j : Int) : nEq (.int i) (.int j) = some (.bl (decide (i = j))) := nEq_of rfl rfl (dE_int i j)
theorem nNe_int (i j : Int) : nNe (.int i) (.int j) = some (.bl (!decide (i = j))) := nNe_of rfl rfl (dE_int i j)
theorem nEq_bl (i j : Bool) : nEq (.bl i) (.bl j) = some (.bl (decide (i = j))) := nEq_of rfl rfl (dE_bl i j)
theorem nNe_bl (i j : Bool) : nNe (.bl i) (.bl j) = some (.bl (!decide (i = j))) := nNe_of rfl rfl (dE_bl i j)
theorem nEq_TI (a b : List Int) : nEq (TI a) (TI b) = some (.bl (decide (a = b))) := nEq_of ((sd_TI (n := 0) a).shp) ((sd_TI (n := 0) b).shp) (dE_TI a b)
theorem nNe_TI (a b : List Int) : nNe (TI a) (TI b) = some (.bl (!decide (a = b))) := nNe_of ((sd_TI (n := 0) a).shp) ((sd_TI (n := 0) b).shp) (dE_TI a b)
theorem nEq_LI (a b : List Int) : nEq (.lst (LI a)) (.lst (LI b)) = some (.bl (decide (a = b))) := nEq_of ((sd_LI (n := 0) a).shp) ((sd_LI (n := 0) b).shp) (dE_LI a b)
theorem nNe_LI (a b : List Int) : nNe (.lst (LI a)) (.lst (LI b)) = some (.bl (!decide (a = b))) := nNe_of ((sd_LI (n := 0) a).shp) ((sd_LI (n := 0) b).shp) (dE_LI a b)
theorem any_int (l : List Int) (i : Int) : ((LI l).any fun y => dE y (.int i)) = decide (i ∈ l) := by
  induction l with
  | nil => rfl
  | cons a l ih =>
    show (dE (.int a) (.int i) || (LI l).any fun y => dE y (.int i)) = _
    rw [ih, dE_int]
    by_cases h : a = i
    · subst h; simp
    · have h' : ¬ i = a := fun e => h e.symm
      simp [h, h']
theorem nIn_TI (l : List Int) (i : Int) : nIn (.int i) (TI l) = some (.bl (decide (i ∈ l))) := by
  have h : ((LI l).all flatD) = true := List.all_eq_true.mpr fun x hx => by
    obtain ⟨j, _, rfl⟩ := List.mem_map.mp hx
    rfl
  simp only [nIn, flatD, h, Bool.and_self, if_true, any_int]
theorem nIn_LI (l : List Int) (i : Int) : nIn (.int i) (.lst (LI l)) = some (.bl (decide (i ∈ l))) := by
  have h : (shp (.int i) && shp (.lst (LI l))) = true := by rw [(sd_LI (n := 0) l).shp]; rfl
  simp only [nIn, h, if_true, any_int]
theorem atI_nat {α : Type} (xs : List α) (k : Nat) (h : k < xs.length) : atI xs (k : Int) = xs[k]? := by
  unfold atI ixN
  rw [if_pos (by omega), if_pos (by omega)]
  simp
theorem atI_map {α β : Type} (f : α → β) (xs : List α) (i : Int) : atI (xs.map f) i = (atI xs i).map f := by
  unfold atI
  rw [List.length_map]
  cases ixN xs.length i with
  | none => rfl
  | some j => simp
theorem atI_in {α : Type} {xs : List α} {i : Int} (h0 : 0 ≤ i) (h1 : i < xs.length) : ∃ x, atI xs i = some x ∧ xs[i.toNat]? = some x ∧ x ∈ xs := by
  have e : i = (i.toNat : Int) := by omega
  have h : i.toNat < xs.length := by omega
  have e2 : atI xs i = xs[i.toNat]? := by
    have := atI_nat xs i.toNat h
    rwa [← e] at this
  exact ⟨xs[i.toNat], e2.trans (List.getElem?_eq_getElem h), List.getElem?_eq_getElem h, List.getElem_mem h⟩
theorem upI_eq (n : Nat) : upI 0 n = LI ((List.range n).map fun (i : Nat) => (i : Int)) := by
  show _ = List.map D.int (List.map _ _)
  unfold upI
  rw [List.map_map]
  apply List.map_congr_left
  intro a _
  simp
theorem rng1_nat {k : Int} (h : 0 ≤ k) (h1 : k < 2 ^ 62 := by omega) : rng1 [.int k] = some (LI ((List.range k.toNat).map fun (i : Nat) => (i : Int))) := by
  have : ok62 k = true := by
    unfold ok62
    rw [decide_eq_true (by omega), decide_eq_true h1]
    rfl
  show (if ok62 k = true then some (upI 0 k.toNat) else none) = _
  rw [if_pos this, upI_eq]
theorem size_lt {n : Nat} (h : n < 100000) : n < sizeLine := by rw [PySem.sizeLine_eq]; omega
theorem size_le {n : Nat} (h : n < 100000) : n ≤ sizeLine := Nat.le_of_lt (size_lt h)
theorem get_range {n i : Nat} {x : D} (h : (LI ((List.range n).map fun (i : Nat) => (i : Int)))[i]? = some x) : i < n ∧ x = .int (i : Int) := by
  have h' : (List.map D.int (List.map (fun (i : Nat) => (i : Int)) (List.range n)))[i]? = some x := h
  rw [List.getElem?_map, List.getElem?_map] at h'
  by_cases hi : i < n
  · rw [List.getElem?_range hi] at h'
    exact ⟨hi, (by cases h'; rfl)⟩
  · rw [List.getElem?_eq_none (by rw [List.length_range]; omega)] at h'
    cases h'
theorem mem_range {n : Nat} {x : D} (h : x ∈ LI ((List.range n).map fun (i : Nat) => (i : Int))) : ∃ i : Nat, i < n ∧ x = .int (i : Int) := by
  obtain ⟨i, hi⟩ := List.getElem?_of_mem h
  exact ⟨i, get_range hi⟩
theorem len_range (n : Nat) : (LI ((List.range n).map fun (i : Nat) => (i : Int))).length = n := by
  rw [List.length_map, List.length_map, List.length_range]
theorem c_pos {x y : Int} (h : 0 < y := by omega) : cPos x y = true := decide_eq_true h
theorem c_div {x y : Int} (h : 0 < y := by omega) (h2 : y < 1073741824 := by omega) : cDiv x y = true := by
  unfold cDiv
  rw [decide_eq_true h, decide_eq_true h2]
  rfl
theorem c_mulR {x y : Int} (h : -(2 ^ 64) < y := by omega) (h2 : y < 2 ^ 64 := by omega) : cMul x y = true := by
  unfold cMul
  rw [decide_eq_true h, decide_eq_true h2, Bool.and_self, Bool.or_true]
theorem c_mulL {x y : Int} (h : -(2 ^ 64) < x := by omega) (h2 : x < 2 ^ 64 := by omega) : cMul x y = true := by
  unfold cMul
  rw [decide_eq_true h, decide_eq_true h2, Bool.and_self, Bool.true_or]
theorem nIc_ok {C : Int → Int → Bool} {f : Int → Int → Int} {i j : Int} (h : C i j = true) : nIc C f (.int i) (.int j) = some (.int (f i j)) := by
  unfold nIc
  simp only [h, if_true]
theorem nI2_i {f : Int → Int → Int} {i j : Int} : nI2 f (.int i) (.int j) = some (.int (f i j)) := rfl
theorem nCmp_i {f : Int → Int → Bool} {i j : Int} : nCmp f (.int i) (.int j) = some (.bl (f i j)) := rfl
theorem nAdd_i {i j : Int} : nAdd (.int i) (.int j) = some (.int (i + j)) := rfl
end Com

/-! ShW: each combinator's answer, as a law to rewrite with. -/
namespace Com
open PySem L2 T3
section
variable {α : Type} {Q : D → Prop} {QI : D × T3.Env → Prop} {QL : List D → Prop} {QLI : List D × T3.Env → Prop} {QB : Bool → Prop} {QBI : Bool × T3.Env → Prop} {QS : Fl × T3.Env → Prop} {env : T3.Env}
  {i j n s c : Nat} {d : D} {f fa fb fc : PF} {g ga gb : IF} {fs : PFs} {gs : IFs} {p q : PB} {u v : IB} {op op2 : D → D → Option D} {o1 : D → Option D} {oN : List D → Option D} {G1 : D → List D → Option (D × D)} {gm : List D → List D → Option (D × List D)} {A B : SS} {bnd : D → T3.Env → Option T3.Env} {t : Tg} {rg : List D → Option (List D)}
theorem W_pC : W (pC d env) Q ↔ Q d := by
  unfold pC
  simp only [W_bind, W_map, W_some]
theorem W_pVar : W (pVar i env) Q ↔ W ((env[i]?).bind id) Q := by
  unfold pVar
  simp only [W_bind, W_map, W_some]
theorem W_iP : W (iP f env) QI ↔ W (f env) fun d => QI (d, env) := by
  unfold iP
  simp only [W_bind, W_map, W_some]
theorem W_p1 : W (p1 o1 f env) Q ↔ W (f env) fun x => W (o1 x) Q := by
  unfold p1
  simp only [W_bind, W_map, W_some]
theorem W_p2 : W (p2 op fa fb env) Q ↔ W (fa env) fun x => W (fb env) fun y => W (op x y) Q := by
  unfold p2
  simp only [W_bind, W_map, W_some]
theorem W_i1 : W (i1 o1 g env) QI ↔ W (g env) fun x => W (o1 x.1) fun d => QI (d, x.2) := by
  unfold i1
  simp only [W_bind, W_map, W_some]
theorem W_i2 : W (i2 op ga gb env) QI ↔ W (ga env) fun x => W (gb x.2) fun y => W (op x.1 y.1) fun d => QI (d, y.2) := by
  unfold i2
  simp only [W_bind, W_map, W_some]
theorem W_psN : W (psN env) QL ↔ QL [] := by
  unfold psN
  simp only [W_bind, W_map, W_some]
theorem W_psC : W (psC f fs env) QL ↔ W (f env) fun d => W (fs env) fun ds => QL (d :: ds) := by
  unfold psC
  simp only [W_bind, W_map, W_some]
theorem W_isN : W (isN env) QLI ↔ QLI ([], env) := by
  unfold isN
  simp only [W_bind, W_map, W_some]
theorem W_isC : W (isC g gs env) QLI ↔ W (g env) fun x => W (gs x.2) fun y => QLI (x.1 :: y.1, y.2) := by
  unfold isC
  simp only [W_bind, W_map, W_some]
theorem W_pN : W (pN oN fs env) Q ↔ W (fs env) fun ds => W (oN ds) Q := by
  unfold pN
  simp only [W_bind, W_map, W_some]
theorem W_iN : W (iN oN gs env) QI ↔ W (gs env) fun x => W (oN x.1) fun d => QI (d, x.2) := by
  unfold iN
  simp only [W_bind, W_map, W_some]
theorem W_bP : W (bP f env) QB ↔ W (f env) fun d => W (asB d) QB := by
  unfold bP
  simp only [W_bind, W_map, W_some]
theorem W_bI : W (bI g env) QBI ↔ W (g env) fun x => W (asB x.1) fun b => QBI (b, x.2) := by
  unfold bI
  simp only [W_bind, W_map, W_some]
theorem W_liftB : W (liftB p env) QBI ↔ W (p env) fun b => QBI (b, env) := by
  unfold liftB
  simp only [W_bind, W_map, W_some]
theorem W_bAndP : W (bAndP p q env) QB ↔ W (p env) fun c => W (if c = true then q env else some false) QB := by
  unfold bAndP
  simp only [W_bind, W_map, W_some]
theorem W_bOrP : W (bOrP p q env) QB ↔ W (p env) fun c => W (if c = true then some true else q env) QB := by
  unfold bOrP
  simp only [W_bind, W_map, W_some]
theorem W_bNotP : W (bNotP p env) QB ↔ W (p env) fun c => QB (!c) := by
  unfold bNotP
  simp only [W_bind, W_map, W_some]
theorem W_bAndI : W (bAndI u v env) QBI ↔ W (u env) fun c => W (if c.1 = true then v c.2 else some (false, c.2)) QBI := by
  unfold bAndI
  simp only [W_bind, W_map, W_some]
theorem W_bOrI : W (bOrI u v env) QBI ↔ W (u env) fun c => W (if c.1 = true then some (true, c.2) else v c.2) QBI := by
  unfold bOrI
  simp only [W_bind, W_map, W_some]
theorem W_bNotI : W (bNotI u env) QBI ↔ W (u env) fun c => QBI (!c.1, c.2) := by
  unfold bNotI
  simp only [W_bind, W_map, W_some]
theorem W_pAnd : W (pAnd fa fb env) Q ↔ W (fa env) fun d => W (asB d) fun c => W (if c = true then fb env else some (.bl false)) Q := by
  unfold pAnd
  simp only [W_bind, W_map, W_some]
theorem W_pOr : W (pOr fa fb env) Q ↔ W (fa env) fun d => W (asB d) fun c => W (if c = true then some (.bl true) else fb env) Q := by
  unfold pOr
  simp only [W_bind, W_map, W_some]
theorem W_pNot : W (pNot fa env) Q ↔ W (fa env) fun d => W (asB d) fun c => Q (.bl (!c)) := by
  unfold pNot
  simp only [W_bind, W_map, W_some]
theorem W_pIf : W (pIf p fa fb env) Q ↔ W (p env) fun c => W (if c = true then fa env else fb env) Q := by
  unfold pIf
  simp only [W_bind, W_map, W_some]
theorem W_pChain : W (pChain op op2 fa fb fc env) Q ↔ W (fa env) fun x => W (fb env) fun y => W (op x y) fun z => W (asB z) fun c => W (if c = true then (fc env).bind fun w => op2 y w else some (.bl false)) Q := by
  unfold pChain
  simp only [W_bind, W_map, W_some]
theorem W_iCall : W (iCall i G1 gs env) QI ↔ W (pVar i env) fun _ => W (gs env) fun x => W (pVar i x.2) fun d0 => W (G1 d0 x.1) fun q => QI (q.1, x.2.set i (some q.2)) := by
  unfold iCall
  simp only [W_bind, W_map, W_some]
theorem W_iMod : W (iMod i gm gs env) QI ↔ W (pVar i env) fun _ => W (gs env) fun x => W (pVar i x.2) fun d0 => W (lstOf d0) fun xs => W (gm xs x.1) fun q => QI (q.1, x.2.set i (some (.lst q.2))) := by
  unfold iMod
  simp only [W_bind, W_map, W_some]
theorem W_ivSeq : W (ivSeq f env) QL ↔ W (f env) fun d => W (seqOf d) QL := by
  unfold ivSeq
  simp only [W_bind, W_map, W_some]
theorem W_itSeq : W (itSeq g env) QLI ↔ W (g env) fun x => W (seqOf x.1) fun xs => QLI (xs, x.2) := by
  unfold itSeq
  simp only [W_bind, W_map, W_some]
theorem W_ivN : W (ivN rg fs env) QL ↔ W (fs env) fun ds => W (rg ds) QL := by
  unfold ivN
  simp only [W_bind, W_map, W_some]
theorem W_itN : W (itN rg gs env) QLI ↔ W (gs env) fun x => W (rg x.1) fun xs => QLI (xs, x.2) := by
  unfold itN
  simp only [W_bind, W_map, W_some]
theorem W_sNx : W (sNx env) QS ↔ QS (.nx, env) := by
  unfold sNx
  simp only [W_bind, W_map, W_some]
theorem W_sBk : W (sBk env) QS ↔ QS (.bk, env) := by
  unfold sBk
  simp only [W_bind, W_map, W_some]
theorem W_sCt : W (sCt env) QS ↔ QS (.ct, env) := by
  unfold sCt
  simp only [W_bind, W_map, W_some]
theorem W_sIf : W (sIf u A B env) QS ↔ W (u env) fun c => W (if c.1 = true then A c.2 else B c.2) QS := by
  unfold sIf
  simp only [W_bind, W_map, W_some]
theorem W_sAsg : W (sAsg i g env) QS ↔ W (g env) fun x => QS (.nx, x.2.set i (some x.1)) := by
  unfold sAsg
  simp only [W_bind, W_map, W_some]
theorem W_sEx : W (sEx g env) QS ↔ W (g env) fun x => QS (.nx, x.2) := by
  unfold sEx
  simp only [W_bind, W_map, W_some]
theorem W_sRt : W (sRt g env) QS ↔ W (g env) fun x => QS (.rt x.1, x.2) := by
  unfold sRt
  simp only [W_bind, W_map, W_some]
theorem W_sRtN : W (sRtN env) QS ↔ QS (.rt .non, env) := by
  unfold sRtN
  simp only [W_bind, W_map, W_some]
theorem W_sRtO : W (sRtO i env) QS ↔ W (pVar i env) fun d => QS (.rt d, env.set i none) := by
  unfold sRtO
  simp only [W_bind, W_map, W_some]
theorem W_sAug : W (sAug op i g env) QS ↔ W (pVar i env) fun x => W (g env) fun y => W (op x y.1) fun z => QS (.nx, y.2.set i (some z)) := by
  unfold sAug
  simp only [W_bind, W_map, W_some]
theorem W_sTg : W (sTg bnd g env) QS ↔ W (g env) fun x => W (bnd x.1 x.2) fun e => QS (.nx, e) := by
  unfold sTg
  simp only [W_bind, W_map, W_some]
theorem W_sFor : W (sFor gs t A env) QS ↔ W (gs env) fun x => W (forL (bindT t) A x.1 x.2) QS := by
  unfold sFor
  simp only [W_bind, W_map, W_some]
theorem W_asB {b : Bool} {QB : Bool → Prop} : W (asB (.bl b)) QB ↔ QB b := W_some
theorem W_lstOf {xs : List D} {QL : List D → Prop} : W (lstOf (.lst xs)) QL ↔ QL xs := W_some
def setK (s : Nat) (y : D) (q : D × T3.Env) : Option (Fl × T3.Env) := match q.1 with
  | .int k => (pVar s q.2).bind fun d0 => (lstOf d0).bind fun xs => (ixN xs.length k).map fun j => (Fl.nx, q.2.set s (some (.lst (xs.set j y))))
  | _ => none
theorem W_sSet {s : Nat} {g gi : IF} : W (sSet s g gi env) QS ↔ W (g env) fun p => W (pVar s p.2) fun _ => W (gi p.2) fun q => W (setK s p.1 q) QS := by
  unfold sSet
  simp only [W_bind, W_map, W_some]
  rfl
theorem W_setK {k : Int} {q2 : T3.Env} {y : D} : W (setK s y (.int k, q2)) QS ↔ W (pVar s q2) fun d0 => W (lstOf d0) fun xs => W (ixN xs.length k) fun j => QS (.nx, q2.set s (some (.lst (xs.set j y)))) := by
  unfold setK
  simp only [W_bind, W_map, W_some]
theorem W_if_t {α : Type} {a b : Option α} {Q : α → Prop} : W (if true = true then a else b) Q ↔ W a Q := by simp only [if_true]
theorem W_if_f {α : Type} {a b : Option α} {Q : α → Prop} : W (if false = true then a else b) Q ↔ W b Q := by simp
theorem W_ite {α : Type} {c : Prop} [Decidable c] {a b : Option α} {Q : α → Prop} : W (if decide c = true then a else b) Q ↔ (c → W a Q) ∧ (¬ c → W b Q) := by
  by_cases h : c <;> simp [h]
theorem pO_none : pO none env = some none := rfl
def asI : D → Option (Option Int)
  | .int i => some (some i)
  | _ => none
theorem pO_some {QO : Option Int → Prop} : W (pO (some f) env) QO ↔ W (f env) fun d => W (asI d) QO := by
  have e : pO (some f) env = (f env).bind asI := by
    unfold pO
    congr 1
  rw [e, W_bind]
theorem pO_int {i : Int} {QO : Option Int → Prop} : W (asI (.int i)) QO ↔ QO (some i) := W_some
theorem W_pSl {op : D → Option Int → Option Int → Option D} {lo hi : Option PF} : W (pSl op f lo hi env) Q ↔ W (f env) fun x => W (pO lo env) fun l => W (pO hi env) fun h => W (op x l h) Q := by
  unfold pSl
  simp only [W_bind]
theorem W_pComp {own : List Nat} {p : PB} {e : PF} : W (pComp fs own t p e env) Q ↔ W (fs env) fun xs => xs.length < sizeLine ∧ W (compP p e (bindT t) (wipeE env own) xs) fun ys => Q (.lst ys) := by
  unfold pComp
  rw [W_bind]
  constructor
  · refine fun h => h.mono fun xs h => ?_
    by_cases z : xs.length < sizeLine
    · rw [if_pos z, W_map] at h; exact ⟨z, h⟩
    · rw [if_neg z] at h; exact (W_none.mp h).elim
  · refine fun h => h.mono fun xs h => ?_
    rw [if_pos h.1, W_map]
    exact h.2
theorem W_iComp {own : List Nat} {p : IB} {e : IF} : W (iComp gs own t p e env) QI ↔ W (gs env) fun x => x.1.length < sizeLine ∧ W (compI p e (bindT t) own x.1 x.2) fun q => QI (.lst q.1, backE q.2 env own) := by
  unfold iComp
  rw [W_bind]
  constructor
  · refine fun h => h.mono fun xs h => ?_
    by_cases z : xs.1.length < sizeLine
    · rw [if_pos z, W_map] at h; exact ⟨z, h⟩
    · rw [if_neg z] at h; exact (W_none.mp h).elim
  · refine fun h => h.mono fun xs h => ?_
    rw [if_pos h.1, W_map]
    exact h.2
theorem nLen_lst {xs : List D} : nLen [.lst xs] = some (.int (xs.length : Nat)) := rfl
theorem nLen_tup {xs : List D} : nLen [.tup xs] = some (.int (xs.length : Nat)) := rfl
theorem nInt_int {i : Int} : nInt [.int i] = some (.int i) := rfl
theorem nList_lst {xs : List D} : nList [.lst xs] = some (.lst xs) := rfl
theorem nList_tup {xs : List D} : nList [.tup xs] = some (.lst xs) := rfl
theorem nList_scr {xs : List Int} : nList [.scr xs] = some (.lst (xs.map .int)) := rfl
theorem nTuple_lst {xs : List D} : nTuple [.lst xs] = some (.tup xs) := rfl
theorem nTuple_tup {xs : List D} : nTuple [.tup xs] = some (.tup xs) := rfl
theorem nIx_lst {xs : List D} {i : Int} : nIx (.lst xs) (.int i) = atI xs i := rfl
theorem nIx_tup {xs : List D} {i : Int} : nIx (.tup xs) (.int i) = atI xs i := rfl
theorem seqOf_lst {xs : List D} : seqOf (.lst xs) = some xs := rfl
theorem seqOf_tup {xs : List D} : seqOf (.tup xs) = some xs := rfl
theorem gRev_eq {xs : List D} : gRev xs [] = some (.non, xs.reverse) := rfl
theorem gApp_eq {xs : List D} {y : D} (h : xs.length < sizeLine) : gAppend xs [y] = some (.non, xs ++ [y]) := if_pos h
theorem gPop_eq {xs : List D} {y : D} : gPop (xs ++ [y]) [] = some (y, xs) := by
  simp [gPop]
theorem nTupD_eq {xs : List D} (h : xs.length < 100000) : nTupD xs = some (.tup xs) := if_pos (size_le h)
theorem nLstD_eq {xs : List D} (h : xs.length < 100000) : nLstD xs = some (.lst xs) := if_pos (size_le h)
theorem nCat_tup {xs ys : List D} (h : xs.length + ys.length < 100000) : nAdd (.tup xs) (.tup ys) = some (.tup (xs ++ ys)) := if_pos (size_le h)
theorem nCat_lst {xs ys : List D} (h : xs.length + ys.length < 100000) : nAdd (.lst xs) (.lst ys) = some (.lst (xs ++ ys)) := if_pos (size_le h)
end
end Com

set_option maxHeartbeats 4100000
/-! Sh2: what the shared functions answer. -/
namespace Com
open PySem L2 T3

theorem gPop_map {xs : List Int} {x : Int} : gPop (LI (xs ++ [x])) [] = some (.int x, LI xs) := by
  show gPop (List.map D.int (xs ++ [x])) [] = _
  rw [List.map_append]
  exact gPop_eq
theorem take_spec {d : D} (h : Dr d) {k : Int} (hk : 0 < k) : W (C__law_take d [.int k]) fun p => ∃ r, p.1 = .int r ∧ Dr p.2 ∧ 0 ≤ r ∧ r < k := by
  obtain ⟨ds, rfl⟩ := h
  refine W_run1 rfl ?_
  show W (sSeq _ _ [some _, some _]) _
  refine W_seq ?_
  generalize hK : nxK _ _ = K
  by_cases h0 : ds = []
  · subst h0
    simp only [W_bind, W_map, W_pC, W_pVar, W_iP, W_p1, W_p2, W_i1, W_i2, W_psN, W_psC, W_isN, W_isC, W_pN, W_iN, W_bP, W_bI, W_liftB, W_bAndP, W_bOrP, W_bNotP, W_bAndI, W_bOrI, W_bNotI, W_pAnd, W_pOr, W_pNot, W_pIf, W_pChain, W_iCall, W_iMod, W_ivSeq, W_itSeq, W_ivN, W_itN, W_sNx, W_sBk, W_sCt, W_sIf, W_sAsg, W_sEx, W_sRt, W_sRtN, W_sRtO, W_sAug, W_sTg, W_sFor, W_asB, W_lstOf, W_sSet, W_setK, W_if_t, W_if_f, pO_none, pO_some, pO_int, W_pSl, nLen_lst, nLen_tup, nInt_int, nList_lst, nList_tup, nList_scr, nTuple_lst, nTuple_tup, nIx_lst, nIx_tup, seqOf_lst, seqOf_tup, gRev_eq, gPop_eq, nI2_i, nIc_ok, nCmp_i, nAdd_i, W_some, Option.bind_some, List.getElem?_cons_zero, List.getElem?_cons_succ, List.set_cons_zero, List.set_cons_succ, List.length_cons, List.length_nil, id, Bool.not_true, Bool.not_false, List.length_map, decide_true, decide_false, eq_self, if_true, if_false, Bool.false_eq_true, decide_eq_true_eq, not_true_eq_false, not_false_eq_true, bindT, wipeE, backE, nEq_int, List.map_nil, decide_eq_true_eq, Int.ofNat_zero, Int.cast_ofNat_Int, decide_true]
    subst hK
    refine K_rt ?_
    simp only [W_bind, W_map, W_pC, W_pVar, W_iP, W_p1, W_p2, W_i1, W_i2, W_psN, W_psC, W_isN, W_isC, W_pN, W_iN, W_bP, W_bI, W_liftB, W_bAndP, W_bOrP, W_bNotP, W_bAndI, W_bOrI, W_bNotI, W_pAnd, W_pOr, W_pNot, W_pIf, W_pChain, W_iCall, W_iMod, W_ivSeq, W_itSeq, W_ivN, W_itN, W_sNx, W_sBk, W_sCt, W_sIf, W_sAsg, W_sEx, W_sRt, W_sRtN, W_sRtO, W_sAug, W_sTg, W_sFor, W_asB, W_lstOf, W_sSet, W_setK, W_if_t, W_if_f, pO_none, pO_some, pO_int, W_pSl, nLen_lst, nLen_tup, nInt_int, nList_lst, nList_tup, nList_scr, nTuple_lst, nTuple_tup, nIx_lst, nIx_tup, seqOf_lst, seqOf_tup, gRev_eq, gPop_eq, nI2_i, nIc_ok, nCmp_i, nAdd_i, W_some, Option.bind_some, List.getElem?_cons_zero, List.getElem?_cons_succ, List.set_cons_zero, List.set_cons_succ, List.length_cons, List.length_nil, id, Bool.not_true, Bool.not_false, List.length_map, decide_true, decide_false, eq_self, if_true, if_false, Bool.false_eq_true, decide_eq_true_eq, not_true_eq_false, not_false_eq_true, bindT, wipeE, backE]
    exact ⟨0, rfl, ⟨[], rfl⟩, Int.le_refl 0, hk⟩
  · obtain ⟨xs, x, rfl⟩ : ∃ xs x, ds = xs ++ [x] := ⟨ds.dropLast, ds.getLast h0, (List.dropLast_concat_getLast h0).symm⟩
    have hz : ¬ (((xs ++ [x]).length : Nat) : Int) = 0 := by simp; omega
    simp only [W_bind, W_map, W_pC, W_pVar, W_iP, W_p1, W_p2, W_i1, W_i2, W_psN, W_psC, W_isN, W_isC, W_pN, W_iN, W_bP, W_bI, W_liftB, W_bAndP, W_bOrP, W_bNotP, W_bAndI, W_bOrI, W_bNotI, W_pAnd, W_pOr, W_pNot, W_pIf, W_pChain, W_iCall, W_iMod, W_ivSeq, W_itSeq, W_ivN, W_itN, W_sNx, W_sBk, W_sCt, W_sIf, W_sAsg, W_sEx, W_sRt, W_sRtN, W_sRtO, W_sAug, W_sTg, W_sFor, W_asB, W_lstOf, W_sSet, W_setK, W_if_t, W_if_f, pO_none, pO_some, pO_int, W_pSl, nLen_lst, nLen_tup, nInt_int, nList_lst, nList_tup, nList_scr, nTuple_lst, nTuple_tup, nIx_lst, nIx_tup, seqOf_lst, seqOf_tup, gRev_eq, gPop_eq, nI2_i, nIc_ok, nCmp_i, nAdd_i, W_some, Option.bind_some, List.getElem?_cons_zero, List.getElem?_cons_succ, List.set_cons_zero, List.set_cons_succ, List.length_cons, List.length_nil, id, Bool.not_true, Bool.not_false, List.length_map, decide_true, decide_false, eq_self, if_true, if_false, Bool.false_eq_true, decide_eq_true_eq, not_true_eq_false, not_false_eq_true, bindT, wipeE, backE, nEq_int, hz, decide_false, Bool.false_eq_true, if_false]
    subst hK
    refine K_nx ?_
    have e3 : cPos x k = true := decide_eq_true hk
    simp only [W_bind, W_map, W_pC, W_pVar, W_iP, W_p1, W_p2, W_i1, W_i2, W_psN, W_psC, W_isN, W_isC, W_pN, W_iN, W_bP, W_bI, W_liftB, W_bAndP, W_bOrP, W_bNotP, W_bAndI, W_bOrI, W_bNotI, W_pAnd, W_pOr, W_pNot, W_pIf, W_pChain, W_iCall, W_iMod, W_ivSeq, W_itSeq, W_ivN, W_itN, W_sNx, W_sBk, W_sCt, W_sIf, W_sAsg, W_sEx, W_sRt, W_sRtN, W_sRtO, W_sAug, W_sTg, W_sFor, W_asB, W_lstOf, W_sSet, W_setK, W_if_t, W_if_f, pO_none, pO_some, pO_int, W_pSl, nLen_lst, nLen_tup, nInt_int, nList_lst, nList_tup, nList_scr, nTuple_lst, nTuple_tup, nIx_lst, nIx_tup, seqOf_lst, seqOf_tup, gRev_eq, gPop_eq, nI2_i, nIc_ok, nCmp_i, nAdd_i, W_some, Option.bind_some, List.getElem?_cons_zero, List.getElem?_cons_succ, List.set_cons_zero, List.set_cons_succ, List.length_cons, List.length_nil, id, Bool.not_true, Bool.not_false, List.length_map, decide_true, decide_false, eq_self, if_true, if_false, Bool.false_eq_true, decide_eq_true_eq, not_true_eq_false, not_false_eq_true, bindT, wipeE, backE, gPop_map, e3]
    exact ⟨_, rfl, ⟨xs, rfl⟩, Int.emod_nonneg _ (by omega), Int.emod_lt_of_pos _ hk⟩

def dB : SS :=
 (sSeq (sAsg 6 (iP (p2 (nIc cPos fun i j => i % j) (pVar 5) (pN nLen (psC (pVar 2) psN)))))
 (sSeq (sAsg 7 (iP (p2 nIx (pVar 2) (pVar 6))))
 (sSeq (sAsg 4 (iP (p2 (nIc cPos fun i j => i % j) (pN nInt (psC (p2 nAdd (p2 nAdd (p2 nAdd (p2 (nIc cMul fun i j => i * j) (pVar 4) (pC (.int 48271))) (p2 (nIc cMul fun i j => i * j) (p2 (nIc cPos fun i j => i % j) (pN nInt (psC (pVar 7) psN)) (pC (.int 1000003))) (pC (.int 69621)))) (p2 (nIc cMul fun i j => i * j) (pVar 5) (pC (.int 7919)))) (pC (.int 11))) psN)) (pC (.int 2147483647)))))
 (sSeq (sAsg 8 (iP (p2 (nIc cPos fun i j => i % j) (pN nInt (psC (p2 nAdd (p2 nAdd (p2 (nIc cMul fun i j => i * j) (pVar 4) (pVar 4)) (p2 (nIc cMul fun i j => i * j) (pC (.int 31)) (pVar 4))) (pVar 5)) psN)) (pC (.int 1000003)))))
 (sIf (liftB (bP (p2 (nCmp fun i j => decide (j ≤ i)) (pVar 7) (p2 (nIc cPow fun i j => i ^ j.toNat) (pC (.int 10)) (pC (.int 18)))))) (sSeq (sEx (iMod 3 gAppend (isC (iP (p2 (nIc cPos fun i j => i % j) (pN nInt (psC (pVar 7) psN)) (pC (.int 1000)))) isN)))
 (sSet 2 (iP (p2 (nIc cDiv fun i j => i / j) (pVar 7) (pC (.int 1000)))) (iP (pVar 6))))
 (sEx (iMod 3 gAppend (isC (iP (p2 (nIc cPos fun i j => i % j) (pN nInt (psC (pVar 8) psN)) (pC (.int 1000)))) isN))))))))
abbrev dInv (ns : List Int) (n : Int) (i : Nat) (env : T3.Env) : Prop := ∃ (cells found : List Int) (mixed : Int) (a b c d : Option D), cells ≠ [] ∧ found.length ≤ i ∧ 0 ≤ mixed ∧ mixed < 2147483647 ∧
    env = [some (.scr ns), some (.int n), some (.lst (LI cells)), some (.lst (LI found)), some (.int mixed), a, b, c, d]
def big : Int := 10 ^ (18 : Int).toNat
theorem pw_big : nIc cPow (fun i j => i ^ j.toNat) (.int 10) (.int 18) = some (.int big) := by
  have c10 : cPow 10 18 = true := by
    unfold cPow
    rw [decide_eq_true (show (0 : Int) ≤ 18 by omega), decide_eq_true (show (18 : Int) ≤ 1000000 by omega), decide_eq_true (show (10 : Int).natAbs < 2 ^ 64 by omega)]
    rfl
  unfold nIc
  simp only [c10, if_true]
  rfl
theorem LI_set (l : List Int) (k : Nat) (v : Int) : (LI l).set k (.int v) = LI (l.set k v) := (List.map_set).symm
theorem LI_app1 (l : List Int) (v : Int) : LI l ++ [.int v] = LI (l ++ [v]) := by
  show _ = List.map D.int (l ++ [v])
  rw [List.map_append]
  rfl
theorem draws_body (ns : List Int) (n : Int) (i : Nat) (hi : i < 10000) (cells found : List Int) (mixed : Int) (a b c d : Option D) (hne : cells ≠ []) (hl : found.length ≤ i) (hm0 : 0 ≤ mixed) (hm1 : mixed < 2147483647) (Q : Fl × T3.Env → Prop) (hQ : ∀ env, dInv ns n (i + 1) env → Q (.nx, env)) :
    W (dB [some (.scr ns), some (.int n), some (.lst (LI cells)), some (.lst (LI found)), some (.int mixed), some (.int (i : Int)), b, c, d]) Q := by
  have hcl : (0 : Int) < (cells.length : Nat) := by
    cases cells with
    | nil => exact absurd rfl hne
    | cons a b => simp
  have hj0 : 0 ≤ (i : Int) % (cells.length : Nat) := Int.emod_nonneg _ (by omega)
  have hj1 : (i : Int) % (cells.length : Nat) < (cells.length : Nat) := Int.emod_lt_of_pos _ hcl
  obtain ⟨cell, hx, hx2, _⟩ := atI_in hj0 hj1
  have hxm : atI (LI cells) ((i : Int) % (cells.length : Nat)) = some (.int cell) := by rw [atI_map, hx]; rfl
  have hix : ixN cells.length ((i : Int) % (cells.length : Nat)) = some ((i : Int) % (cells.length : Nat)).toNat := by
    unfold ixN
    rw [if_pos hj0, if_pos hj1]
  have c1 : cPos (i : Int) (cells.length : Nat) = true := c_pos hcl
  have c2 : ∀ x : Int, cPos x 1000003 = true := fun _ => c_pos
  have c3 : ∀ x : Int, cPos x 2147483647 = true := fun _ => c_pos
  have c4 : ∀ x : Int, cPos x 1000 = true := fun _ => c_pos
  have c5 : ∀ x : Int, cMul x 48271 = true := fun _ => c_mulR
  have c6 : ∀ x : Int, cMul x 69621 = true := fun _ => c_mulR
  have c7 : ∀ x : Int, cMul x 7919 = true := fun _ => c_mulR
  have c8 : ∀ x : Int, cMul 31 x = true := fun _ => c_mulL
  have c9 : ∀ x : Int, cDiv x 1000 = true := fun _ => c_div
  have hm2 : ∀ y : Int, 0 ≤ y % 2147483647 ∧ y % 2147483647 < 2147483647 := fun y => ⟨Int.emod_nonneg _ (by omega), Int.emod_lt_of_pos _ (by omega)⟩
  have c11 : ∀ x : Int, 0 ≤ x ∧ x < 2147483647 → cMul x x = true := fun x ⟨h1, h2⟩ => c_mulL
  have hszL : (LI found).length < sizeLine := size_lt (by rw [List.length_map]; omega)
  unfold dB
  refine W_seq ?_
  generalize hK : nxK _ _ = K
  simp only [W_bind, W_map, W_pC, W_pVar, W_iP, W_p1, W_p2, W_i1, W_i2, W_psN, W_psC, W_isN, W_isC, W_pN, W_iN, W_bP, W_bI, W_liftB, W_bAndP, W_bOrP, W_bNotP, W_bAndI, W_bOrI, W_bNotI, W_pAnd, W_pOr, W_pNot, W_pIf, W_pChain, W_iCall, W_iMod, W_ivSeq, W_itSeq, W_ivN, W_itN, W_sNx, W_sBk, W_sCt, W_sIf, W_sAsg, W_sEx, W_sRt, W_sRtN, W_sRtO, W_sAug, W_sTg, W_sFor, W_asB, W_lstOf, W_sSet, W_setK, W_if_t, W_if_f, pO_none, pO_some, pO_int, W_pSl, nLen_lst, nLen_tup, nInt_int, nList_lst, nList_tup, nList_scr, nTuple_lst, nTuple_tup, nIx_lst, nIx_tup, seqOf_lst, seqOf_tup, gRev_eq, gPop_eq, nI2_i, nIc_ok, nCmp_i, nAdd_i, W_some, Option.bind_some, List.getElem?_cons_zero, List.getElem?_cons_succ, List.set_cons_zero, List.set_cons_succ, List.length_cons, List.length_nil, id, Bool.not_true, Bool.not_false, List.length_map, decide_true, decide_false, eq_self, if_true, if_false, Bool.false_eq_true, decide_eq_true_eq, not_true_eq_false, not_false_eq_true, bindT, wipeE, backE, c1]
  subst hK
  refine K_nx (W_seq ?_)
  generalize hK : nxK _ _ = K
  simp only [W_bind, W_map, W_pC, W_pVar, W_iP, W_p1, W_p2, W_i1, W_i2, W_psN, W_psC, W_isN, W_isC, W_pN, W_iN, W_bP, W_bI, W_liftB, W_bAndP, W_bOrP, W_bNotP, W_bAndI, W_bOrI, W_bNotI, W_pAnd, W_pOr, W_pNot, W_pIf, W_pChain, W_iCall, W_iMod, W_ivSeq, W_itSeq, W_ivN, W_itN, W_sNx, W_sBk, W_sCt, W_sIf, W_sAsg, W_sEx, W_sRt, W_sRtN, W_sRtO, W_sAug, W_sTg, W_sFor, W_asB, W_lstOf, W_sSet, W_setK, W_if_t, W_if_f, pO_none, pO_some, pO_int, W_pSl, nLen_lst, nLen_tup, nInt_int, nList_lst, nList_tup, nList_scr, nTuple_lst, nTuple_tup, nIx_lst, nIx_tup, seqOf_lst, seqOf_tup, gRev_eq, gPop_eq, nI2_i, nIc_ok, nCmp_i, nAdd_i, W_some, Option.bind_some, List.getElem?_cons_zero, List.getElem?_cons_succ, List.set_cons_zero, List.set_cons_succ, List.length_cons, List.length_nil, id, Bool.not_true, Bool.not_false, List.length_map, decide_true, decide_false, eq_self, if_true, if_false, Bool.false_eq_true, decide_eq_true_eq, not_true_eq_false, not_false_eq_true, bindT, wipeE, backE, hxm]
  subst hK
  refine K_nx (W_seq ?_)
  generalize hK : nxK _ _ = K
  simp only [W_bind, W_map, W_pC, W_pVar, W_iP, W_p1, W_p2, W_i1, W_i2, W_psN, W_psC, W_isN, W_isC, W_pN, W_iN, W_bP, W_bI, W_liftB, W_bAndP, W_bOrP, W_bNotP, W_bAndI, W_bOrI, W_bNotI, W_pAnd, W_pOr, W_pNot, W_pIf, W_pChain, W_iCall, W_iMod, W_ivSeq, W_itSeq, W_ivN, W_itN, W_sNx, W_sBk, W_sCt, W_sIf, W_sAsg, W_sEx, W_sRt, W_sRtN, W_sRtO, W_sAug, W_sTg, W_sFor, W_asB, W_lstOf, W_sSet, W_setK, W_if_t, W_if_f, pO_none, pO_some, pO_int, W_pSl, nLen_lst, nLen_tup, nInt_int, nList_lst, nList_tup, nList_scr, nTuple_lst, nTuple_tup, nIx_lst, nIx_tup, seqOf_lst, seqOf_tup, gRev_eq, gPop_eq, nI2_i, nIc_ok, nCmp_i, nAdd_i, W_some, Option.bind_some, List.getElem?_cons_zero, List.getElem?_cons_succ, List.set_cons_zero, List.set_cons_succ, List.length_cons, List.length_nil, id, Bool.not_true, Bool.not_false, List.length_map, decide_true, decide_false, eq_self, if_true, if_false, Bool.false_eq_true, decide_eq_true_eq, not_true_eq_false, not_false_eq_true, bindT, wipeE, backE, c2, c3, c5, c6, c7]
  subst hK
  refine K_nx (W_seq ?_)
  generalize hM : (mixed * 48271 + cell % 1000003 * 69621 + (i : Int) * 7919 + 11) % 2147483647 = M
  have hMb : 0 ≤ M ∧ M < 2147483647 := by rw [← hM]; exact hm2 _
  generalize hK : nxK _ _ = K
  simp only [W_bind, W_map, W_pC, W_pVar, W_iP, W_p1, W_p2, W_i1, W_i2, W_psN, W_psC, W_isN, W_isC, W_pN, W_iN, W_bP, W_bI, W_liftB, W_bAndP, W_bOrP, W_bNotP, W_bAndI, W_bOrI, W_bNotI, W_pAnd, W_pOr, W_pNot, W_pIf, W_pChain, W_iCall, W_iMod, W_ivSeq, W_itSeq, W_ivN, W_itN, W_sNx, W_sBk, W_sCt, W_sIf, W_sAsg, W_sEx, W_sRt, W_sRtN, W_sRtO, W_sAug, W_sTg, W_sFor, W_asB, W_lstOf, W_sSet, W_setK, W_if_t, W_if_f, pO_none, pO_some, pO_int, W_pSl, nLen_lst, nLen_tup, nInt_int, nList_lst, nList_tup, nList_scr, nTuple_lst, nTuple_tup, nIx_lst, nIx_tup, seqOf_lst, seqOf_tup, gRev_eq, gPop_eq, nI2_i, nIc_ok, nCmp_i, nAdd_i, W_some, Option.bind_some, List.getElem?_cons_zero, List.getElem?_cons_succ, List.set_cons_zero, List.set_cons_succ, List.length_cons, List.length_nil, id, Bool.not_true, Bool.not_false, List.length_map, decide_true, decide_false, eq_self, if_true, if_false, Bool.false_eq_true, decide_eq_true_eq, not_true_eq_false, not_false_eq_true, bindT, wipeE, backE, c2, c8, c11 M hMb]
  subst hK
  refine K_nx ?_
  by_cases hbig : big ≤ cell
  · simp only [W_sIf, W_liftB, W_bP, W_p2, W_pVar, W_pC, W_some, Option.bind_some, List.getElem?_cons_zero, List.getElem?_cons_succ, id, pw_big, nCmp_i, W_asB, hbig, decide_true, decide_false, if_true, W_if_t, W_if_f]
    refine W_seq ?_
    generalize hK : nxK _ _ = K
    simp only [W_bind, W_map, W_pC, W_pVar, W_iP, W_p1, W_p2, W_i1, W_i2, W_psN, W_psC, W_isN, W_isC, W_pN, W_iN, W_bP, W_bI, W_liftB, W_bAndP, W_bOrP, W_bNotP, W_bAndI, W_bOrI, W_bNotI, W_pAnd, W_pOr, W_pNot, W_pIf, W_pChain, W_iCall, W_iMod, W_ivSeq, W_itSeq, W_ivN, W_itN, W_sNx, W_sBk, W_sCt, W_sIf, W_sAsg, W_sEx, W_sRt, W_sRtN, W_sRtO, W_sAug, W_sTg, W_sFor, W_asB, W_lstOf, W_sSet, W_setK, W_if_t, W_if_f, pO_none, pO_some, pO_int, W_pSl, nLen_lst, nLen_tup, nInt_int, nList_lst, nList_tup, nList_scr, nTuple_lst, nTuple_tup, nIx_lst, nIx_tup, seqOf_lst, seqOf_tup, gRev_eq, gPop_eq, nI2_i, nIc_ok, nCmp_i, nAdd_i, W_some, Option.bind_some, List.getElem?_cons_zero, List.getElem?_cons_succ, List.set_cons_zero, List.set_cons_succ, List.length_cons, List.length_nil, id, Bool.not_true, Bool.not_false, List.length_map, decide_true, decide_false, eq_self, if_true, if_false, Bool.false_eq_true, decide_eq_true_eq, not_true_eq_false, not_false_eq_true, bindT, wipeE, backE, c4, gApp_eq hszL]
    subst hK
    refine K_nx ?_
    simp only [W_bind, W_map, W_pC, W_pVar, W_iP, W_p1, W_p2, W_i1, W_i2, W_psN, W_psC, W_isN, W_isC, W_pN, W_iN, W_bP, W_bI, W_liftB, W_bAndP, W_bOrP, W_bNotP, W_bAndI, W_bOrI, W_bNotI, W_pAnd, W_pOr, W_pNot, W_pIf, W_pChain, W_iCall, W_iMod, W_ivSeq, W_itSeq, W_ivN, W_itN, W_sNx, W_sBk, W_sCt, W_sIf, W_sAsg, W_sEx, W_sRt, W_sRtN, W_sRtO, W_sAug, W_sTg, W_sFor, W_asB, W_lstOf, W_sSet, W_setK, W_if_t, W_if_f, pO_none, pO_some, pO_int, W_pSl, nLen_lst, nLen_tup, nInt_int, nList_lst, nList_tup, nList_scr, nTuple_lst, nTuple_tup, nIx_lst, nIx_tup, seqOf_lst, seqOf_tup, gRev_eq, gPop_eq, nI2_i, nIc_ok, nCmp_i, nAdd_i, W_some, Option.bind_some, List.getElem?_cons_zero, List.getElem?_cons_succ, List.set_cons_zero, List.set_cons_succ, List.length_cons, List.length_nil, id, Bool.not_true, Bool.not_false, List.length_map, decide_true, decide_false, eq_self, if_true, if_false, Bool.false_eq_true, decide_eq_true_eq, not_true_eq_false, not_false_eq_true, bindT, wipeE, backE, c9, hix]
    refine hQ _ ⟨cells.set ((i : Int) % (cells.length : Nat)).toNat (cell / 1000), found ++ [cell % 1000], M, _, _, _, _, ?_, by simp; omega, hMb.1, hMb.2, by rw [LI_set, LI_app1]⟩
    exact fun e => hne (by simpa using e)
  · simp only [W_sIf, W_liftB, W_bP, W_p2, W_pVar, W_pC, W_some, Option.bind_some, List.getElem?_cons_zero, List.getElem?_cons_succ, id, pw_big, nCmp_i, W_asB, hbig, decide_true, decide_false, if_true, W_if_t, W_if_f]
    simp only [W_bind, W_map, W_pC, W_pVar, W_iP, W_p1, W_p2, W_i1, W_i2, W_psN, W_psC, W_isN, W_isC, W_pN, W_iN, W_bP, W_bI, W_liftB, W_bAndP, W_bOrP, W_bNotP, W_bAndI, W_bOrI, W_bNotI, W_pAnd, W_pOr, W_pNot, W_pIf, W_pChain, W_iCall, W_iMod, W_ivSeq, W_itSeq, W_ivN, W_itN, W_sNx, W_sBk, W_sCt, W_sIf, W_sAsg, W_sEx, W_sRt, W_sRtN, W_sRtO, W_sAug, W_sTg, W_sFor, W_asB, W_lstOf, W_sSet, W_setK, W_if_t, W_if_f, pO_none, pO_some, pO_int, W_pSl, nLen_lst, nLen_tup, nInt_int, nList_lst, nList_tup, nList_scr, nTuple_lst, nTuple_tup, nIx_lst, nIx_tup, seqOf_lst, seqOf_tup, gRev_eq, gPop_eq, nI2_i, nIc_ok, nCmp_i, nAdd_i, W_some, Option.bind_some, List.getElem?_cons_zero, List.getElem?_cons_succ, List.set_cons_zero, List.set_cons_succ, List.length_cons, List.length_nil, id, Bool.not_true, Bool.not_false, List.length_map, decide_true, decide_false, eq_self, if_true, if_false, Bool.false_eq_true, decide_eq_true_eq, not_true_eq_false, not_false_eq_true, bindT, wipeE, backE, c4, gApp_eq hszL]
    exact hQ _ ⟨cells, found ++ [_], M, _, _, _, _, hne, by simp; omega, hMb.1, hMb.2, by rw [LI_app1]⟩
theorem draws_spec (ns : List Int) {n : Int} (h0 : 0 ≤ n) (h1 : n < 10000) : W (C__law_draws [.scr ns, .int n]) Dr := by
  refine W_run0 rfl ?_
  show W (sSeq _ _ [some _, some _, none, none, none, none, none, none, none]) _
  refine W_seq ?_
  generalize hK : nxK _ _ = K
  simp only [W_bind, W_map, W_pC, W_pVar, W_iP, W_p1, W_p2, W_i1, W_i2, W_psN, W_psC, W_isN, W_isC, W_pN, W_iN, W_bP, W_bI, W_liftB, W_bAndP, W_bOrP, W_bNotP, W_bAndI, W_bOrI, W_bNotI, W_pAnd, W_pOr, W_pNot, W_pIf, W_pChain, W_iCall, W_iMod, W_ivSeq, W_itSeq, W_ivN, W_itN, W_sNx, W_sBk, W_sCt, W_sIf, W_sAsg, W_sEx, W_sRt, W_sRtN, W_sRtO, W_sAug, W_sTg, W_sFor, W_asB, W_lstOf, W_sSet, W_setK, W_if_t, W_if_f, pO_none, pO_some, pO_int, W_pSl, nLen_lst, nLen_tup, nInt_int, nList_lst, nList_tup, nList_scr, nTuple_lst, nTuple_tup, nIx_lst, nIx_tup, seqOf_lst, seqOf_tup, gRev_eq, gPop_eq, nI2_i, nIc_ok, nCmp_i, nAdd_i, W_some, Option.bind_some, List.getElem?_cons_zero, List.getElem?_cons_succ, List.set_cons_zero, List.set_cons_succ, List.length_cons, List.length_nil, id, Bool.not_true, Bool.not_false, List.length_map, decide_true, decide_false, eq_self, if_true, if_false, Bool.false_eq_true, decide_eq_true_eq, not_true_eq_false, not_false_eq_true, bindT, wipeE, backE]
  subst hK
  refine K_nx (W_seq ?_)
  generalize hK : nxK _ _ = K
  obtain ⟨cells, hne, hc⟩ : ∃ cells : List Int, cells ≠ [] ∧ (K (.nx, [some (.scr ns), some (.int n), some (.lst (LI cells)), none, none, none, none, none, none]) → W (sIf (liftB (bP (p2 nEq (pN nLen (psC (pVar 2) psN)) (pC (D.int 0))))) (sAsg 2 (iP (pN nLstD (psC (pC (D.int 7)) psN)))) sNx [some (.scr ns), some (.int n), some (.lst (LI ns)), none, none, none, none, none, none]) K) := by
    by_cases hz : ns = []
    · subst hz
      refine ⟨[7], by simp, fun hk => ?_⟩
      have e : ([D.int 7] : List D).length < 100000 := by decide
      simp only [W_bind, W_map, W_pC, W_pVar, W_iP, W_p1, W_p2, W_i1, W_i2, W_psN, W_psC, W_isN, W_isC, W_pN, W_iN, W_bP, W_bI, W_liftB, W_bAndP, W_bOrP, W_bNotP, W_bAndI, W_bOrI, W_bNotI, W_pAnd, W_pOr, W_pNot, W_pIf, W_pChain, W_iCall, W_iMod, W_ivSeq, W_itSeq, W_ivN, W_itN, W_sNx, W_sBk, W_sCt, W_sIf, W_sAsg, W_sEx, W_sRt, W_sRtN, W_sRtO, W_sAug, W_sTg, W_sFor, W_asB, W_lstOf, W_sSet, W_setK, W_if_t, W_if_f, pO_none, pO_some, pO_int, W_pSl, nLen_lst, nLen_tup, nInt_int, nList_lst, nList_tup, nList_scr, nTuple_lst, nTuple_tup, nIx_lst, nIx_tup, seqOf_lst, seqOf_tup, gRev_eq, gPop_eq, nI2_i, nIc_ok, nCmp_i, nAdd_i, W_some, Option.bind_some, List.getElem?_cons_zero, List.getElem?_cons_succ, List.set_cons_zero, List.set_cons_succ, List.length_cons, List.length_nil, id, Bool.not_true, Bool.not_false, List.length_map, decide_true, decide_false, eq_self, if_true, if_false, Bool.false_eq_true, decide_eq_true_eq, not_true_eq_false, not_false_eq_true, bindT, wipeE, backE, nEq_int, List.map_nil, decide_eq_true_eq, Int.ofNat_zero, Int.cast_ofNat_Int, decide_true, nLstD_eq e]
      exact hk
    · refine ⟨ns, hz, fun hk => ?_⟩
      have hz : ¬ ((ns.length : Nat) : Int) = 0 := by
        cases ns with
        | nil => exact absurd rfl hz
        | cons a b => simp; omega
      simp only [W_bind, W_map, W_pC, W_pVar, W_iP, W_p1, W_p2, W_i1, W_i2, W_psN, W_psC, W_isN, W_isC, W_pN, W_iN, W_bP, W_bI, W_liftB, W_bAndP, W_bOrP, W_bNotP, W_bAndI, W_bOrI, W_bNotI, W_pAnd, W_pOr, W_pNot, W_pIf, W_pChain, W_iCall, W_iMod, W_ivSeq, W_itSeq, W_ivN, W_itN, W_sNx, W_sBk, W_sCt, W_sIf, W_sAsg, W_sEx, W_sRt, W_sRtN, W_sRtO, W_sAug, W_sTg, W_sFor, W_asB, W_lstOf, W_sSet, W_setK, W_if_t, W_if_f, pO_none, pO_some, pO_int, W_pSl, nLen_lst, nLen_tup, nInt_int, nList_lst, nList_tup, nList_scr, nTuple_lst, nTuple_tup, nIx_lst, nIx_tup, seqOf_lst, seqOf_tup, gRev_eq, gPop_eq, nI2_i, nIc_ok, nCmp_i, nAdd_i, W_some, Option.bind_some, List.getElem?_cons_zero, List.getElem?_cons_succ, List.set_cons_zero, List.set_cons_succ, List.length_cons, List.length_nil, id, Bool.not_true, Bool.not_false, List.length_map, decide_true, decide_false, eq_self, if_true, if_false, Bool.false_eq_true, decide_eq_true_eq, not_true_eq_false, not_false_eq_true, bindT, wipeE, backE, nEq_int, hz, decide_false, Bool.false_eq_true, if_false]
      exact hk
  refine hc ?_
  subst hK
  clear hc
  refine K_nx (W_seq ?_)
  generalize hK : nxK _ _ = K
  simp only [W_bind, W_map, W_pC, W_pVar, W_iP, W_p1, W_p2, W_i1, W_i2, W_psN, W_psC, W_isN, W_isC, W_pN, W_iN, W_bP, W_bI, W_liftB, W_bAndP, W_bOrP, W_bNotP, W_bAndI, W_bOrI, W_bNotI, W_pAnd, W_pOr, W_pNot, W_pIf, W_pChain, W_iCall, W_iMod, W_ivSeq, W_itSeq, W_ivN, W_itN, W_sNx, W_sBk, W_sCt, W_sIf, W_sAsg, W_sEx, W_sRt, W_sRtN, W_sRtO, W_sAug, W_sTg, W_sFor, W_asB, W_lstOf, W_sSet, W_setK, W_if_t, W_if_f, pO_none, pO_some, pO_int, W_pSl, nLen_lst, nLen_tup, nInt_int, nList_lst, nList_tup, nList_scr, nTuple_lst, nTuple_tup, nIx_lst, nIx_tup, seqOf_lst, seqOf_tup, gRev_eq, gPop_eq, nI2_i, nIc_ok, nCmp_i, nAdd_i, W_some, Option.bind_some, List.getElem?_cons_zero, List.getElem?_cons_succ, List.set_cons_zero, List.set_cons_succ, List.length_cons, List.length_nil, id, Bool.not_true, Bool.not_false, List.length_map, decide_true, decide_false, eq_self, if_true, if_false, Bool.false_eq_true, decide_eq_true_eq, not_true_eq_false, not_false_eq_true, bindT, wipeE, backE]
  subst hK
  refine K_nx (W_seq ?_)
  generalize hK : nxK _ _ = K
  simp only [W_bind, W_map, W_pC, W_pVar, W_iP, W_p1, W_p2, W_i1, W_i2, W_psN, W_psC, W_isN, W_isC, W_pN, W_iN, W_bP, W_bI, W_liftB, W_bAndP, W_bOrP, W_bNotP, W_bAndI, W_bOrI, W_bNotI, W_pAnd, W_pOr, W_pNot, W_pIf, W_pChain, W_iCall, W_iMod, W_ivSeq, W_itSeq, W_ivN, W_itN, W_sNx, W_sBk, W_sCt, W_sIf, W_sAsg, W_sEx, W_sRt, W_sRtN, W_sRtO, W_sAug, W_sTg, W_sFor, W_asB, W_lstOf, W_sSet, W_setK, W_if_t, W_if_f, pO_none, pO_some, pO_int, W_pSl, nLen_lst, nLen_tup, nInt_int, nList_lst, nList_tup, nList_scr, nTuple_lst, nTuple_tup, nIx_lst, nIx_tup, seqOf_lst, seqOf_tup, gRev_eq, gPop_eq, nI2_i, nIc_ok, nCmp_i, nAdd_i, W_some, Option.bind_some, List.getElem?_cons_zero, List.getElem?_cons_succ, List.set_cons_zero, List.set_cons_succ, List.length_cons, List.length_nil, id, Bool.not_true, Bool.not_false, List.length_map, decide_true, decide_false, eq_self, if_true, if_false, Bool.false_eq_true, decide_eq_true_eq, not_true_eq_false, not_false_eq_true, bindT, wipeE, backE]
  subst hK
  refine K_nx (W_seq ?_)
  generalize hK : nxK _ _ = K
  simp only [W_bind, W_map, W_pC, W_pVar, W_iP, W_p1, W_p2, W_i1, W_i2, W_psN, W_psC, W_isN, W_isC, W_pN, W_iN, W_bP, W_bI, W_liftB, W_bAndP, W_bOrP, W_bNotP, W_bAndI, W_bOrI, W_bNotI, W_pAnd, W_pOr, W_pNot, W_pIf, W_pChain, W_iCall, W_iMod, W_ivSeq, W_itSeq, W_ivN, W_itN, W_sNx, W_sBk, W_sCt, W_sIf, W_sAsg, W_sEx, W_sRt, W_sRtN, W_sRtO, W_sAug, W_sTg, W_sFor, W_asB, W_lstOf, W_sSet, W_setK, W_if_t, W_if_f, pO_none, pO_some, pO_int, W_pSl, nLen_lst, nLen_tup, nInt_int, nList_lst, nList_tup, nList_scr, nTuple_lst, nTuple_tup, nIx_lst, nIx_tup, seqOf_lst, seqOf_tup, gRev_eq, gPop_eq, nI2_i, nIc_ok, nCmp_i, nAdd_i, W_some, Option.bind_some, List.getElem?_cons_zero, List.getElem?_cons_succ, List.set_cons_zero, List.set_cons_succ, List.length_cons, List.length_nil, id, Bool.not_true, Bool.not_false, List.length_map, decide_true, decide_false, eq_self, if_true, if_false, Bool.false_eq_true, decide_eq_true_eq, not_true_eq_false, not_false_eq_true, bindT, wipeE, backE, rng1_nat h0]
  refine W_forL (dInv ns n) _ 0 _ ⟨cells, [], 12345, none, none, none, none, hne, Nat.le_refl 0, by omega, by omega, rfl⟩ ?_ ?_
  · rintro i x env hi ⟨cells, found, mixed, a, b, c, d, hne, hl, hm0, hm1, rfl⟩
    obtain ⟨hi2, rfl⟩ := get_range hi
    rw [Nat.zero_add] at hl ⊢
    exact W_some.mpr (draws_body ns n i (by omega) cells found mixed a b c d hne hl hm0 hm1 _ fun env h => h)
  · rintro env ⟨cells, found, mixed, a, b, c, d, hne, hl, hm0, hm1, rfl⟩
    subst hK
    refine K_nx (W_seq ?_)
    generalize hK : nxK _ _ = K
    simp only [W_bind, W_map, W_pC, W_pVar, W_iP, W_p1, W_p2, W_i1, W_i2, W_psN, W_psC, W_isN, W_isC, W_pN, W_iN, W_bP, W_bI, W_liftB, W_bAndP, W_bOrP, W_bNotP, W_bAndI, W_bOrI, W_bNotI, W_pAnd, W_pOr, W_pNot, W_pIf, W_pChain, W_iCall, W_iMod, W_ivSeq, W_itSeq, W_ivN, W_itN, W_sNx, W_sBk, W_sCt, W_sIf, W_sAsg, W_sEx, W_sRt, W_sRtN, W_sRtO, W_sAug, W_sTg, W_sFor, W_asB, W_lstOf, W_sSet, W_setK, W_if_t, W_if_f, pO_none, pO_some, pO_int, W_pSl, nLen_lst, nLen_tup, nInt_int, nList_lst, nList_tup, nList_scr, nTuple_lst, nTuple_tup, nIx_lst, nIx_tup, seqOf_lst, seqOf_tup, gRev_eq, gPop_eq, nI2_i, nIc_ok, nCmp_i, nAdd_i, W_some, Option.bind_some, List.getElem?_cons_zero, List.getElem?_cons_succ, List.set_cons_zero, List.set_cons_succ, List.length_cons, List.length_nil, id, Bool.not_true, Bool.not_false, List.length_map, decide_true, decide_false, eq_self, if_true, if_false, Bool.false_eq_true, decide_eq_true_eq, not_true_eq_false, not_false_eq_true, bindT, wipeE, backE]
    subst hK
    refine K_nx ?_
    simp only [W_bind, W_map, W_pC, W_pVar, W_iP, W_p1, W_p2, W_i1, W_i2, W_psN, W_psC, W_isN, W_isC, W_pN, W_iN, W_bP, W_bI, W_liftB, W_bAndP, W_bOrP, W_bNotP, W_bAndI, W_bOrI, W_bNotI, W_pAnd, W_pOr, W_pNot, W_pIf, W_pChain, W_iCall, W_iMod, W_ivSeq, W_itSeq, W_ivN, W_itN, W_sNx, W_sBk, W_sCt, W_sIf, W_sAsg, W_sEx, W_sRt, W_sRtN, W_sRtO, W_sAug, W_sTg, W_sFor, W_asB, W_lstOf, W_sSet, W_setK, W_if_t, W_if_f, pO_none, pO_some, pO_int, W_pSl, nLen_lst, nLen_tup, nInt_int, nList_lst, nList_tup, nList_scr, nTuple_lst, nTuple_tup, nIx_lst, nIx_tup, seqOf_lst, seqOf_tup, gRev_eq, gPop_eq, nI2_i, nIc_ok, nCmp_i, nAdd_i, W_some, Option.bind_some, List.getElem?_cons_zero, List.getElem?_cons_succ, List.set_cons_zero, List.set_cons_succ, List.length_cons, List.length_nil, id, Bool.not_true, Bool.not_false, List.length_map, decide_true, decide_false, eq_self, if_true, if_false, Bool.false_eq_true, decide_eq_true_eq, not_true_eq_false, not_false_eq_true, bindT, wipeE, backE]
    exact ⟨found.reverse, by simp⟩
end Com

set_option maxHeartbeats 4100000
/-! Sh3: words, letters, their places. -/
namespace Com
open PySem L2 T3

/-- data that are ints, each so -/
theorem ints_of {P : Int → Prop} : ∀ {ys : List D}, (∀ y ∈ ys, ∃ r, y = .int r ∧ P r) → ∃ w : List Int, ys = LI w ∧ ∀ r ∈ w, P r
  | [], _ => ⟨[], rfl, fun _ h => nomatch h⟩
  | y :: ys, h => by
    obtain ⟨r, rfl, hr⟩ := h y List.mem_cons_self
    obtain ⟨w, rfl, hw⟩ := ints_of fun z hz => h z (List.mem_cons_of_mem _ hz)
    exact ⟨r :: w, rfl, fun s hs => by
      rcases List.mem_cons.mp hs with rfl | hs
      · exact hr
      · exact hw s hs⟩
theorem all_of {xs ys : List D} {P : D → D → Prop} (hl : ys.length = xs.length) (h : ∀ (i : Nat) (x y : D), xs[i]? = some x → ys[i]? = some y → P x y) : ∀ y ∈ ys, ∃ x ∈ xs, P x y := fun y hy => by
  obtain ⟨i, hi⟩ := List.getElem?_of_mem hy
  have h1 : i < xs.length := by
    rw [← hl]
    exact (List.getElem?_eq_some_iff.mp hi).1
  exact ⟨xs[i], List.getElem_mem h1, h i _ y (List.getElem?_eq_getElem h1) hi⟩
/-- [_law_take(draws, n) for .. in xs], the draws at slot 0, n at slot j, the loop's name at slot i -/
theorem W_takes {n : Int} {i j : Nat} (hn : 0 < n) (Inv : T3.Env → Prop) (hI : ∀ (x : D) (env : T3.Env), Inv env → ∃ d rest, Dr d ∧ (wipeE env [i]).set i (some x) = some d :: rest ∧ (some d :: rest)[j]? = some (some (.int n)) ∧ ∀ d', Dr d' → Inv (some d' :: rest))
    (xs : List D) (env : T3.Env) (h0 : Inv env) : W (compI iYes (iCall 0 C__law_take (isC (iP (pVar j)) isN)) (bindT (.nm i)) [i] xs env) fun q => ∃ w : List Int, q.1 = LI w ∧ w.length = xs.length ∧ (∀ r ∈ w, 0 ≤ r ∧ r < n) ∧ Inv q.2 := by
  refine (W_compI Inv (fun _ y => ∃ r, y = .int r ∧ 0 ≤ r ∧ r < n) xs env h0 fun x _ env hv => ?_).mono fun q ⟨h1, h2, h3⟩ => ?_
  · obtain ⟨d, rest, hd, e, ej, up⟩ := hI x env hv
    show W (some _) _
    rw [W_some, e]
    show W (some _) _
    rw [W_some]
    refine ⟨rfl, ?_⟩
    have ej0 : ((some d :: rest)[j]?).bind id = some (.int n) := by rw [ej]; rfl
    simp only [W_bind, W_map, W_pC, W_pVar, W_iP, W_p1, W_p2, W_i1, W_i2, W_psN, W_psC, W_isN, W_isC, W_pN, W_iN, W_bP, W_bI, W_liftB, W_bAndP, W_bOrP, W_bNotP, W_bAndI, W_bOrI, W_bNotI, W_pAnd, W_pOr, W_pNot, W_pIf, W_pChain, W_iCall, W_iMod, W_ivSeq, W_itSeq, W_ivN, W_itN, W_sNx, W_sBk, W_sCt, W_sIf, W_sAsg, W_sEx, W_sRt, W_sRtN, W_sRtO, W_sAug, W_sTg, W_sFor, W_asB, W_lstOf, W_sSet, W_setK, W_if_t, W_if_f, pO_none, pO_some, pO_int, W_pSl, nLen_lst, nLen_tup, nInt_int, nList_lst, nList_tup, nList_scr, nTuple_lst, nTuple_tup, nIx_lst, nIx_tup, seqOf_lst, seqOf_tup, gRev_eq, gPop_eq, nI2_i, nIc_ok, nCmp_i, nAdd_i, W_some, Option.bind_some, List.getElem?_cons_zero, List.getElem?_cons_succ, List.set_cons_zero, List.set_cons_succ, List.length_cons, List.length_nil, id, Bool.not_true, Bool.not_false, List.length_map, decide_true, decide_false, eq_self, if_true, if_false, Bool.false_eq_true, decide_eq_true_eq, not_true_eq_false, not_false_eq_true, bindT, wipeE, backE, ej0]
    refine (take_spec hd hn).mono ?_
    rintro ⟨_, d'⟩ ⟨r, rfl, hd', r0, r1⟩
    exact ⟨⟨r, rfl, r0, r1⟩, up d' hd'⟩
  · obtain ⟨w, e, hw⟩ := ints_of (P := fun r => 0 ≤ r ∧ r < n) fun y hy => by
      obtain ⟨_, _, hP⟩ := all_of h1 h2 y hy
      exact hP
    exact ⟨w, e, by have := congrArg List.length e; rw [List.length_map] at this; omega, hw, h3⟩
theorem word_spec {d : D} (hd : Dr d) {n m : Int} (hn : 0 < n) (h0 : 0 ≤ m) (h1 : m < 10000) : W (C__law_word d [.int n, .int m]) fun p => ∃ w : List Int, p.1 = TI w ∧ Dr p.2 ∧ (w.length : Int) ≤ m ∧ ∀ x ∈ w, 0 ≤ x ∧ x < n := by
  refine W_run1 rfl ?_
  show W (sRt _ [some d, some (.int n), some (.int m), none]) _
  simp only [W_bind, W_map, W_pC, W_pVar, W_iP, W_p1, W_p2, W_i1, W_i2, W_psN, W_psC, W_isN, W_isC, W_pN, W_iN, W_bP, W_bI, W_liftB, W_bAndP, W_bOrP, W_bNotP, W_bAndI, W_bOrI, W_bNotI, W_pAnd, W_pOr, W_pNot, W_pIf, W_pChain, W_iCall, W_iMod, W_ivSeq, W_itSeq, W_ivN, W_itN, W_sNx, W_sBk, W_sCt, W_sIf, W_sAsg, W_sEx, W_sRt, W_sRtN, W_sRtO, W_sAug, W_sTg, W_sFor, W_asB, W_lstOf, W_sSet, W_setK, W_if_t, W_if_f, pO_none, pO_some, pO_int, W_pSl, nLen_lst, nLen_tup, nInt_int, nList_lst, nList_tup, nList_scr, nTuple_lst, nTuple_tup, nIx_lst, nIx_tup, seqOf_lst, seqOf_tup, gRev_eq, gPop_eq, nI2_i, nIc_ok, nCmp_i, nAdd_i, W_some, Option.bind_some, List.getElem?_cons_zero, List.getElem?_cons_succ, List.set_cons_zero, List.set_cons_succ, List.length_cons, List.length_nil, id, Bool.not_true, Bool.not_false, List.length_map, decide_true, decide_false, eq_self, if_true, if_false, Bool.false_eq_true, decide_eq_true_eq, not_true_eq_false, not_false_eq_true, bindT, wipeE, backE, W_iComp]
  refine (take_spec hd (by omega)).mono ?_
  rintro ⟨_, d1⟩ ⟨k, rfl, hd1, k0, k1⟩
  simp only [W_bind, W_map, W_pC, W_pVar, W_iP, W_p1, W_p2, W_i1, W_i2, W_psN, W_psC, W_isN, W_isC, W_pN, W_iN, W_bP, W_bI, W_liftB, W_bAndP, W_bOrP, W_bNotP, W_bAndI, W_bOrI, W_bNotI, W_pAnd, W_pOr, W_pNot, W_pIf, W_pChain, W_iCall, W_iMod, W_ivSeq, W_itSeq, W_ivN, W_itN, W_sNx, W_sBk, W_sCt, W_sIf, W_sAsg, W_sEx, W_sRt, W_sRtN, W_sRtO, W_sAug, W_sTg, W_sFor, W_asB, W_lstOf, W_sSet, W_setK, W_if_t, W_if_f, pO_none, pO_some, pO_int, W_pSl, nLen_lst, nLen_tup, nInt_int, nList_lst, nList_tup, nList_scr, nTuple_lst, nTuple_tup, nIx_lst, nIx_tup, seqOf_lst, seqOf_tup, gRev_eq, gPop_eq, nI2_i, nIc_ok, nCmp_i, nAdd_i, W_some, Option.bind_some, List.getElem?_cons_zero, List.getElem?_cons_succ, List.set_cons_zero, List.set_cons_succ, List.length_cons, List.length_nil, id, Bool.not_true, Bool.not_false, List.length_map, decide_true, decide_false, eq_self, if_true, if_false, Bool.false_eq_true, decide_eq_true_eq, not_true_eq_false, not_false_eq_true, bindT, wipeE, backE, rng1_nat k0]
  refine ⟨size_lt (by rw [List.length_range]; omega), ?_⟩
  refine (W_takes hn (fun env => ∃ d v, Dr d ∧ env = [some d, some (.int n), some (.int m), v]) (fun x env ⟨d, v, hd, e⟩ => ?_) _ _ ⟨d1, _, hd1, rfl⟩).mono ?_
  · subst e
    exact ⟨d, _, hd, rfl, rfl, fun d' hd' => ⟨d', _, hd', rfl⟩⟩
  · rintro ⟨_, _⟩ ⟨w, rfl, hl, hw, d2, v, hd2, rfl⟩
    simp only [W_bind, W_map, W_pC, W_pVar, W_iP, W_p1, W_p2, W_i1, W_i2, W_psN, W_psC, W_isN, W_isC, W_pN, W_iN, W_bP, W_bI, W_liftB, W_bAndP, W_bOrP, W_bNotP, W_bAndI, W_bOrI, W_bNotI, W_pAnd, W_pOr, W_pNot, W_pIf, W_pChain, W_iCall, W_iMod, W_ivSeq, W_itSeq, W_ivN, W_itN, W_sNx, W_sBk, W_sCt, W_sIf, W_sAsg, W_sEx, W_sRt, W_sRtN, W_sRtO, W_sAug, W_sTg, W_sFor, W_asB, W_lstOf, W_sSet, W_setK, W_if_t, W_if_f, pO_none, pO_some, pO_int, W_pSl, nLen_lst, nLen_tup, nInt_int, nList_lst, nList_tup, nList_scr, nTuple_lst, nTuple_tup, nIx_lst, nIx_tup, seqOf_lst, seqOf_tup, gRev_eq, gPop_eq, nI2_i, nIc_ok, nCmp_i, nAdd_i, W_some, Option.bind_some, List.getElem?_cons_zero, List.getElem?_cons_succ, List.set_cons_zero, List.set_cons_succ, List.length_cons, List.length_nil, id, Bool.not_true, Bool.not_false, List.length_map, decide_true, decide_false, eq_self, if_true, if_false, Bool.false_eq_true, decide_eq_true_eq, not_true_eq_false, not_false_eq_true, bindT, wipeE, backE]
    refine ⟨w, rfl, hd2, ?_, hw⟩
    rw [hl, len_range]
    omega
/-! ### letters -/
def GL (c : Int) (l : List Int) : Prop := l ≠ [] ∧ l.Pairwise (· < ·) ∧ l.length < 64 ∧ ∀ x ∈ l, 0 ≤ x ∧ x < c
abbrev LT (L : List (List Int)) : List D := L.map fun l => D.tup (LI l)
abbrev lt (L : List (List Int)) (x : Int) : List Int := L.getD x.toNat []
theorem atI_LT {L : List (List Int)} {x : Int} (h0 : 0 ≤ x) (h1 : x < (L.length : Nat)) : atI (LT L) x = some (TI (lt L x)) := by
  rw [atI_map]
  obtain ⟨l, e1, e2, _⟩ := atI_in h0 h1
  rw [e1]
  have : lt L x = l := by
    show L.getD _ _ = l
    rw [List.getD_eq_getElem?_getD, e2]
    rfl
  rw [this]
  rfl
theorem lt_mem {L : List (List Int)} {x : Int} (h0 : 0 ≤ x) (h1 : x < (L.length : Nat)) : lt L x ∈ L := by
  obtain ⟨l, e1, e2, h⟩ := atI_in h0 h1
  have : lt L x = l := by
    show L.getD _ _ = l
    rw [List.getD_eq_getElem?_getD, e2]
    rfl
  rw [this]
  exact h
theorem sset_ints {t : List Int} (h : t.length < 64) : nSortSet [.lst (LI t)] = some (.lst (LI (sortU t))) := by
  show (dInts (LI t)).bind _ = _
  rw [show dInts (LI t) = some t from dInts_of t]
  exact if_pos h
theorem isI_length (l : List Int) : (isI l).length = l.length := (isI_perm l).length_eq
theorem dedup_length : ∀ l : List Int, (dedup l).length ≤ l.length
  | [] => Nat.le_refl _
  | [a] => Nat.le_refl _
  | a :: b :: r => by
    unfold dedup
    split
    · exact Nat.le_trans (dedup_length (b :: r)) (Nat.le_succ _)
    · exact Nat.succ_le_succ (dedup_length (b :: r))
theorem sortU_length (l : List Int) : (sortU l).length ≤ l.length := Nat.le_trans (dedup_length _) (Nat.le_of_eq (isI_length l))
theorem six {r : Int} (h0 : 0 ≤ r) (h1 : r < 6) : ∃ k : Int, atI [D.int 1, D.int 1, D.int 1, D.int 2, D.int 3, D.int 6] r = some (.int k) ∧ 1 ≤ k ∧ k ≤ 6 := by
  have : atI [D.int 1, D.int 1, D.int 1, D.int 2, D.int 3, D.int 6] r = (atI [1, 1, 1, 2, 3, 6] r).map D.int := atI_map D.int [1, 1, 1, 2, 3, 6] r
  rw [this]
  obtain ⟨k, e, _, hk⟩ := atI_in (xs := ([1, 1, 1, 2, 3, 6] : List Int)) h0 h1
  rw [e]
  simp only [List.mem_cons, List.not_mem_nil, or_false] at hk
  exact ⟨k, rfl, by omega, by omega⟩
def aInv (p m c : Int) (i : Nat) (env : T3.Env) : Prop := ∃ (d : D) (L : List (List Int)) (a b e f : Option D), Dr d ∧ L.length = i ∧ (∀ l ∈ L, GL c l) ∧ env = [some d, some (.int p), some (.int m), some (.int c), some (.lst (LT L)), a, b, e, f]
theorem alphabet_spec {d : D} (hd : Dr d) {p m : Int} (hp : 0 < p) (hm : 0 < m) (hm2 : m < 1000) : W (C__law_alphabet d [.int p, .int m]) fun q => ∃ (c : Int) (L : List (List Int)), q.1 = .tup [.int c, .lst (LT L)] ∧ Dr q.2 ∧ 1 ≤ c ∧ c ≤ p ∧ 1 ≤ L.length ∧ (L.length : Int) ≤ m ∧ ∀ l ∈ L, GL c l := by
  refine W_run1 rfl ?_
  show W (sSeq _ _ [some d, some (.int p), some (.int m), none, none, none, none, none, none]) _
  refine W_seq ?_
  generalize hK : nxK _ _ = K
  simp only [W_bind, W_map, W_pC, W_pVar, W_iP, W_p1, W_p2, W_i1, W_i2, W_psN, W_psC, W_isN, W_isC, W_pN, W_iN, W_bP, W_bI, W_liftB, W_bAndP, W_bOrP, W_bNotP, W_bAndI, W_bOrI, W_bNotI, W_pAnd, W_pOr, W_pNot, W_pIf, W_pChain, W_iCall, W_iMod, W_ivSeq, W_itSeq, W_ivN, W_itN, W_sNx, W_sBk, W_sCt, W_sIf, W_sAsg, W_sEx, W_sRt, W_sRtN, W_sRtO, W_sAug, W_sTg, W_sFor, W_asB, W_lstOf, W_sSet, W_setK, W_if_t, W_if_f, pO_none, pO_some, pO_int, W_pSl, nLen_lst, nLen_tup, nInt_int, nList_lst, nList_tup, nList_scr, nTuple_lst, nTuple_tup, nIx_lst, nIx_tup, seqOf_lst, seqOf_tup, gRev_eq, gPop_eq, nI2_i, nIc_ok, nCmp_i, nAdd_i, W_some, Option.bind_some, List.getElem?_cons_zero, List.getElem?_cons_succ, List.set_cons_zero, List.set_cons_succ, List.length_cons, List.length_nil, id, Bool.not_true, Bool.not_false, List.length_map, decide_true, decide_false, eq_self, if_true, if_false, Bool.false_eq_true, decide_eq_true_eq, not_true_eq_false, not_false_eq_true, bindT, wipeE, backE]
  refine (take_spec hd hp).mono ?_
  rintro ⟨_, d1⟩ ⟨r, rfl, hd1, r0, r1⟩
  simp only [W_bind, W_map, W_pC, W_pVar, W_iP, W_p1, W_p2, W_i1, W_i2, W_psN, W_psC, W_isN, W_isC, W_pN, W_iN, W_bP, W_bI, W_liftB, W_bAndP, W_bOrP, W_bNotP, W_bAndI, W_bOrI, W_bNotI, W_pAnd, W_pOr, W_pNot, W_pIf, W_pChain, W_iCall, W_iMod, W_ivSeq, W_itSeq, W_ivN, W_itN, W_sNx, W_sBk, W_sCt, W_sIf, W_sAsg, W_sEx, W_sRt, W_sRtN, W_sRtO, W_sAug, W_sTg, W_sFor, W_asB, W_lstOf, W_sSet, W_setK, W_if_t, W_if_f, pO_none, pO_some, pO_int, W_pSl, nLen_lst, nLen_tup, nInt_int, nList_lst, nList_tup, nList_scr, nTuple_lst, nTuple_tup, nIx_lst, nIx_tup, seqOf_lst, seqOf_tup, gRev_eq, gPop_eq, nI2_i, nIc_ok, nCmp_i, nAdd_i, W_some, Option.bind_some, List.getElem?_cons_zero, List.getElem?_cons_succ, List.set_cons_zero, List.set_cons_succ, List.length_cons, List.length_nil, id, Bool.not_true, Bool.not_false, List.length_map, decide_true, decide_false, eq_self, if_true, if_false, Bool.false_eq_true, decide_eq_true_eq, not_true_eq_false, not_false_eq_true, bindT, wipeE, backE]
  subst hK
  refine K_nx (W_seq ?_)
  generalize hK : nxK _ _ = K
  simp only [W_bind, W_map, W_pC, W_pVar, W_iP, W_p1, W_p2, W_i1, W_i2, W_psN, W_psC, W_isN, W_isC, W_pN, W_iN, W_bP, W_bI, W_liftB, W_bAndP, W_bOrP, W_bNotP, W_bAndI, W_bOrI, W_bNotI, W_pAnd, W_pOr, W_pNot, W_pIf, W_pChain, W_iCall, W_iMod, W_ivSeq, W_itSeq, W_ivN, W_itN, W_sNx, W_sBk, W_sCt, W_sIf, W_sAsg, W_sEx, W_sRt, W_sRtN, W_sRtO, W_sAug, W_sTg, W_sFor, W_asB, W_lstOf, W_sSet, W_setK, W_if_t, W_if_f, pO_none, pO_some, pO_int, W_pSl, nLen_lst, nLen_tup, nInt_int, nList_lst, nList_tup, nList_scr, nTuple_lst, nTuple_tup, nIx_lst, nIx_tup, seqOf_lst, seqOf_tup, gRev_eq, gPop_eq, nI2_i, nIc_ok, nCmp_i, nAdd_i, W_some, Option.bind_some, List.getElem?_cons_zero, List.getElem?_cons_succ, List.set_cons_zero, List.set_cons_succ, List.length_cons, List.length_nil, id, Bool.not_true, Bool.not_false, List.length_map, decide_true, decide_false, eq_self, if_true, if_false, Bool.false_eq_true, decide_eq_true_eq, not_true_eq_false, not_false_eq_true, bindT, wipeE, backE]
  subst hK
  refine K_nx (W_seq ?_)
  generalize hK : nxK _ _ = K
  simp only [W_bind, W_map, W_pC, W_pVar, W_iP, W_p1, W_p2, W_i1, W_i2, W_psN, W_psC, W_isN, W_isC, W_pN, W_iN, W_bP, W_bI, W_liftB, W_bAndP, W_bOrP, W_bNotP, W_bAndI, W_bOrI, W_bNotI, W_pAnd, W_pOr, W_pNot, W_pIf, W_pChain, W_iCall, W_iMod, W_ivSeq, W_itSeq, W_ivN, W_itN, W_sNx, W_sBk, W_sCt, W_sIf, W_sAsg, W_sEx, W_sRt, W_sRtN, W_sRtO, W_sAug, W_sTg, W_sFor, W_asB, W_lstOf, W_sSet, W_setK, W_if_t, W_if_f, pO_none, pO_some, pO_int, W_pSl, nLen_lst, nLen_tup, nInt_int, nList_lst, nList_tup, nList_scr, nTuple_lst, nTuple_tup, nIx_lst, nIx_tup, seqOf_lst, seqOf_tup, gRev_eq, gPop_eq, nI2_i, nIc_ok, nCmp_i, nAdd_i, W_some, Option.bind_some, List.getElem?_cons_zero, List.getElem?_cons_succ, List.set_cons_zero, List.set_cons_succ, List.length_cons, List.length_nil, id, Bool.not_true, Bool.not_false, List.length_map, decide_true, decide_false, eq_self, if_true, if_false, Bool.false_eq_true, decide_eq_true_eq, not_true_eq_false, not_false_eq_true, bindT, wipeE, backE]
  refine (take_spec hd1 hm).mono ?_
  rintro ⟨_, d2⟩ ⟨k, rfl, hd2, k0, k1⟩
  simp only [W_bind, W_map, W_pC, W_pVar, W_iP, W_p1, W_p2, W_i1, W_i2, W_psN, W_psC, W_isN, W_isC, W_pN, W_iN, W_bP, W_bI, W_liftB, W_bAndP, W_bOrP, W_bNotP, W_bAndI, W_bOrI, W_bNotI, W_pAnd, W_pOr, W_pNot, W_pIf, W_pChain, W_iCall, W_iMod, W_ivSeq, W_itSeq, W_ivN, W_itN, W_sNx, W_sBk, W_sCt, W_sIf, W_sAsg, W_sEx, W_sRt, W_sRtN, W_sRtO, W_sAug, W_sTg, W_sFor, W_asB, W_lstOf, W_sSet, W_setK, W_if_t, W_if_f, pO_none, pO_some, pO_int, W_pSl, nLen_lst, nLen_tup, nInt_int, nList_lst, nList_tup, nList_scr, nTuple_lst, nTuple_tup, nIx_lst, nIx_tup, seqOf_lst, seqOf_tup, gRev_eq, gPop_eq, nI2_i, nIc_ok, nCmp_i, nAdd_i, W_some, Option.bind_some, List.getElem?_cons_zero, List.getElem?_cons_succ, List.set_cons_zero, List.set_cons_succ, List.length_cons, List.length_nil, id, Bool.not_true, Bool.not_false, List.length_map, decide_true, decide_false, eq_self, if_true, if_false, Bool.false_eq_true, decide_eq_true_eq, not_true_eq_false, not_false_eq_true, bindT, wipeE, backE, rng1_nat (show 0 ≤ 1 + k by omega)]
  refine W_forL (aInv p m (1 + r)) _ 0 _ ⟨d2, [], _, _, _, _, hd2, rfl, (fun _ h => nomatch h), rfl⟩ ?_ ?_
  · rintro i x env hi ⟨d, L, a, b, e, f, hd, hl, hL, rfl⟩
    obtain ⟨hi2, rfl⟩ := get_range hi
    clear hi hK
    simp only [W_bind, W_map, W_pC, W_pVar, W_iP, W_p1, W_p2, W_i1, W_i2, W_psN, W_psC, W_isN, W_isC, W_pN, W_iN, W_bP, W_bI, W_liftB, W_bAndP, W_bOrP, W_bNotP, W_bAndI, W_bOrI, W_bNotI, W_pAnd, W_pOr, W_pNot, W_pIf, W_pChain, W_iCall, W_iMod, W_ivSeq, W_itSeq, W_ivN, W_itN, W_sNx, W_sBk, W_sCt, W_sIf, W_sAsg, W_sEx, W_sRt, W_sRtN, W_sRtO, W_sAug, W_sTg, W_sFor, W_asB, W_lstOf, W_sSet, W_setK, W_if_t, W_if_f, pO_none, pO_some, pO_int, W_pSl, nLen_lst, nLen_tup, nInt_int, nList_lst, nList_tup, nList_scr, nTuple_lst, nTuple_tup, nIx_lst, nIx_tup, seqOf_lst, seqOf_tup, gRev_eq, gPop_eq, nI2_i, nIc_ok, nCmp_i, nAdd_i, W_some, Option.bind_some, List.getElem?_cons_zero, List.getElem?_cons_succ, List.set_cons_zero, List.set_cons_succ, List.length_cons, List.length_nil, id, Bool.not_true, Bool.not_false, List.length_map, decide_true, decide_false, eq_self, if_true, if_false, Bool.false_eq_true, decide_eq_true_eq, not_true_eq_false, not_false_eq_true, bindT, wipeE, backE]
    refine W_seq ?_
    generalize hK : nxK _ _ = K
    simp only [W_bind, W_map, W_pC, W_pVar, W_iP, W_p1, W_p2, W_i1, W_i2, W_psN, W_psC, W_isN, W_isC, W_pN, W_iN, W_bP, W_bI, W_liftB, W_bAndP, W_bOrP, W_bNotP, W_bAndI, W_bOrI, W_bNotI, W_pAnd, W_pOr, W_pNot, W_pIf, W_pChain, W_iCall, W_iMod, W_ivSeq, W_itSeq, W_ivN, W_itN, W_sNx, W_sBk, W_sCt, W_sIf, W_sAsg, W_sEx, W_sRt, W_sRtN, W_sRtO, W_sAug, W_sTg, W_sFor, W_asB, W_lstOf, W_sSet, W_setK, W_if_t, W_if_f, pO_none, pO_some, pO_int, W_pSl, nLen_lst, nLen_tup, nInt_int, nList_lst, nList_tup, nList_scr, nTuple_lst, nTuple_tup, nIx_lst, nIx_tup, seqOf_lst, seqOf_tup, gRev_eq, gPop_eq, nI2_i, nIc_ok, nCmp_i, nAdd_i, W_some, Option.bind_some, List.getElem?_cons_zero, List.getElem?_cons_succ, List.set_cons_zero, List.set_cons_succ, List.length_cons, List.length_nil, id, Bool.not_true, Bool.not_false, List.length_map, decide_true, decide_false, eq_self, if_true, if_false, Bool.false_eq_true, decide_eq_true_eq, not_true_eq_false, not_false_eq_true, bindT, wipeE, backE, nLstD_eq (show ([D.int 1, D.int 1, D.int 1, D.int 2, D.int 3, D.int 6] : List D).length < 100000 by decide)]
    refine (take_spec hd (by omega)).mono ?_
    rintro ⟨_, d1⟩ ⟨s, rfl, hd1, s0, s1⟩
    obtain ⟨z, ez, z0, z1⟩ := six s0 s1
    simp only [W_bind, W_map, W_pC, W_pVar, W_iP, W_p1, W_p2, W_i1, W_i2, W_psN, W_psC, W_isN, W_isC, W_pN, W_iN, W_bP, W_bI, W_liftB, W_bAndP, W_bOrP, W_bNotP, W_bAndI, W_bOrI, W_bNotI, W_pAnd, W_pOr, W_pNot, W_pIf, W_pChain, W_iCall, W_iMod, W_ivSeq, W_itSeq, W_ivN, W_itN, W_sNx, W_sBk, W_sCt, W_sIf, W_sAsg, W_sEx, W_sRt, W_sRtN, W_sRtO, W_sAug, W_sTg, W_sFor, W_asB, W_lstOf, W_sSet, W_setK, W_if_t, W_if_f, pO_none, pO_some, pO_int, W_pSl, nLen_lst, nLen_tup, nInt_int, nList_lst, nList_tup, nList_scr, nTuple_lst, nTuple_tup, nIx_lst, nIx_tup, seqOf_lst, seqOf_tup, gRev_eq, gPop_eq, nI2_i, nIc_ok, nCmp_i, nAdd_i, W_some, Option.bind_some, List.getElem?_cons_zero, List.getElem?_cons_succ, List.set_cons_zero, List.set_cons_succ, List.length_cons, List.length_nil, id, Bool.not_true, Bool.not_false, List.length_map, decide_true, decide_false, eq_self, if_true, if_false, Bool.false_eq_true, decide_eq_true_eq, not_true_eq_false, not_false_eq_true, bindT, wipeE, backE, ez]
    subst hK
    refine K_nx (W_seq ?_)
    generalize hK : nxK _ _ = K
    simp only [W_bind, W_map, W_pC, W_pVar, W_iP, W_p1, W_p2, W_i1, W_i2, W_psN, W_psC, W_isN, W_isC, W_pN, W_iN, W_bP, W_bI, W_liftB, W_bAndP, W_bOrP, W_bNotP, W_bAndI, W_bOrI, W_bNotI, W_pAnd, W_pOr, W_pNot, W_pIf, W_pChain, W_iCall, W_iMod, W_ivSeq, W_itSeq, W_ivN, W_itN, W_sNx, W_sBk, W_sCt, W_sIf, W_sAsg, W_sEx, W_sRt, W_sRtN, W_sRtO, W_sAug, W_sTg, W_sFor, W_asB, W_lstOf, W_sSet, W_setK, W_if_t, W_if_f, pO_none, pO_some, pO_int, W_pSl, nLen_lst, nLen_tup, nInt_int, nList_lst, nList_tup, nList_scr, nTuple_lst, nTuple_tup, nIx_lst, nIx_tup, seqOf_lst, seqOf_tup, gRev_eq, gPop_eq, nI2_i, nIc_ok, nCmp_i, nAdd_i, W_some, Option.bind_some, List.getElem?_cons_zero, List.getElem?_cons_succ, List.set_cons_zero, List.set_cons_succ, List.length_cons, List.length_nil, id, Bool.not_true, Bool.not_false, List.length_map, decide_true, decide_false, eq_self, if_true, if_false, Bool.false_eq_true, decide_eq_true_eq, not_true_eq_false, not_false_eq_true, bindT, wipeE, backE, W_iComp, rng1_nat (show 0 ≤ z by omega)]
    refine ⟨size_lt (by rw [List.length_range]; omega), ?_⟩
    refine (W_takes (n := 1 + r) (by omega) (fun env => ∃ d v u, Dr d ∧ env = [some d, some (.int p), some (.int m), some (.int (1 + r)), some (.lst (LT L)), some (.int (i : Int)), some (.int z), u, v]) (fun x env ⟨d, v, u, hd, e⟩ => ?_) _ _ ⟨d1, _, _, hd1, rfl⟩).mono ?_
    · subst e
      exact ⟨d, _, hd, rfl, rfl, fun d' hd' => ⟨d', _, _, hd', rfl⟩⟩
    rintro ⟨_, _⟩ ⟨w, rfl, hwl, hw, d3, v, u, hd3, rfl⟩
    simp only [W_bind, W_map, W_pC, W_pVar, W_iP, W_p1, W_p2, W_i1, W_i2, W_psN, W_psC, W_isN, W_isC, W_pN, W_iN, W_bP, W_bI, W_liftB, W_bAndP, W_bOrP, W_bNotP, W_bAndI, W_bOrI, W_bNotI, W_pAnd, W_pOr, W_pNot, W_pIf, W_pChain, W_iCall, W_iMod, W_ivSeq, W_itSeq, W_ivN, W_itN, W_sNx, W_sBk, W_sCt, W_sIf, W_sAsg, W_sEx, W_sRt, W_sRtN, W_sRtO, W_sAug, W_sTg, W_sFor, W_asB, W_lstOf, W_sSet, W_setK, W_if_t, W_if_f, pO_none, pO_some, pO_int, W_pSl, nLen_lst, nLen_tup, nInt_int, nList_lst, nList_tup, nList_scr, nTuple_lst, nTuple_tup, nIx_lst, nIx_tup, seqOf_lst, seqOf_tup, gRev_eq, gPop_eq, nI2_i, nIc_ok, nCmp_i, nAdd_i, W_some, Option.bind_some, List.getElem?_cons_zero, List.getElem?_cons_succ, List.set_cons_zero, List.set_cons_succ, List.length_cons, List.length_nil, id, Bool.not_true, Bool.not_false, List.length_map, decide_true, decide_false, eq_self, if_true, if_false, Bool.false_eq_true, decide_eq_true_eq, not_true_eq_false, not_false_eq_true, bindT, wipeE, backE]
    subst hK
    refine K_nx ?_
    rw [len_range] at hwl
    have hsz : (LT L).length < sizeLine := size_lt (by rw [List.length_map]; omega)
    simp only [W_bind, W_map, W_pC, W_pVar, W_iP, W_p1, W_p2, W_i1, W_i2, W_psN, W_psC, W_isN, W_isC, W_pN, W_iN, W_bP, W_bI, W_liftB, W_bAndP, W_bOrP, W_bNotP, W_bAndI, W_bOrI, W_bNotI, W_pAnd, W_pOr, W_pNot, W_pIf, W_pChain, W_iCall, W_iMod, W_ivSeq, W_itSeq, W_ivN, W_itN, W_sNx, W_sBk, W_sCt, W_sIf, W_sAsg, W_sEx, W_sRt, W_sRtN, W_sRtO, W_sAug, W_sTg, W_sFor, W_asB, W_lstOf, W_sSet, W_setK, W_if_t, W_if_f, pO_none, pO_some, pO_int, W_pSl, nLen_lst, nLen_tup, nInt_int, nList_lst, nList_tup, nList_scr, nTuple_lst, nTuple_tup, nIx_lst, nIx_tup, seqOf_lst, seqOf_tup, gRev_eq, gPop_eq, nI2_i, nIc_ok, nCmp_i, nAdd_i, W_some, Option.bind_some, List.getElem?_cons_zero, List.getElem?_cons_succ, List.set_cons_zero, List.set_cons_succ, List.length_cons, List.length_nil, id, Bool.not_true, Bool.not_false, List.length_map, decide_true, decide_false, eq_self, if_true, if_false, Bool.false_eq_true, decide_eq_true_eq, not_true_eq_false, not_false_eq_true, bindT, wipeE, backE, sset_ints (show w.length < 64 by omega), gApp_eq hsz]
    refine ⟨d3, L ++ [sortU w], _, _, _, _, hd3, by rw [List.length_append, hl]; rfl, fun l h => ?_, by rw [show LT (L ++ [sortU w]) = LT L ++ [TI (sortU w)] from List.map_append]⟩
    rcases List.mem_append.mp h with h | h
    · exact hL l h
    · rw [List.mem_singleton.mp h]
      refine ⟨fun e => ?_, sortU_lt w, Nat.lt_of_le_of_lt (sortU_length w) (by omega), fun x hx => hw x ((sortU_mem w x).mp hx)⟩
      cases w with
      | nil => simp at hwl; omega
      | cons a w => have := (sortU_mem (a :: w) a).mpr List.mem_cons_self; rw [e] at this; cases this
  · rintro env ⟨d, L, a, b, e, f, hd, hl, hL, rfl⟩
    subst hK
    refine K_nx ?_
    rw [len_range] at hl
    simp only [W_bind, W_map, W_pC, W_pVar, W_iP, W_p1, W_p2, W_i1, W_i2, W_psN, W_psC, W_isN, W_isC, W_pN, W_iN, W_bP, W_bI, W_liftB, W_bAndP, W_bOrP, W_bNotP, W_bAndI, W_bOrI, W_bNotI, W_pAnd, W_pOr, W_pNot, W_pIf, W_pChain, W_iCall, W_iMod, W_ivSeq, W_itSeq, W_ivN, W_itN, W_sNx, W_sBk, W_sCt, W_sIf, W_sAsg, W_sEx, W_sRt, W_sRtN, W_sRtO, W_sAug, W_sTg, W_sFor, W_asB, W_lstOf, W_sSet, W_setK, W_if_t, W_if_f, pO_none, pO_some, pO_int, W_pSl, nLen_lst, nLen_tup, nInt_int, nList_lst, nList_tup, nList_scr, nTuple_lst, nTuple_tup, nIx_lst, nIx_tup, seqOf_lst, seqOf_tup, gRev_eq, gPop_eq, nI2_i, nIc_ok, nCmp_i, nAdd_i, W_some, Option.bind_some, List.getElem?_cons_zero, List.getElem?_cons_succ, List.set_cons_zero, List.set_cons_succ, List.length_cons, List.length_nil, id, Bool.not_true, Bool.not_false, List.length_map, decide_true, decide_false, eq_self, if_true, if_false, Bool.false_eq_true, decide_eq_true_eq, not_true_eq_false, not_false_eq_true, bindT, wipeE, backE, nTupD_eq (show ([D.int (1 + r), D.lst (LT L)] : List D).length < 100000 by simp)]
    exact ⟨1 + r, L, rfl, hd, by omega, by omega, by omega, by omega, hL⟩
end Com

set_option maxHeartbeats 4100000
/-! Sh4: dependence, shuffling, projections, the alphabet's object. -/
namespace Com
open PySem L2 T3

abbrev inR (n : Nat) (w : List Int) : Prop := ∀ x ∈ w, 0 ≤ x ∧ x < (n : Int)
/-- the letters at place p -/
def proj (L : List (List Int)) (p : Int) (w : List Int) : List Int := w.filter fun x => decide (p ∈ lt L x)
/-- a comprehension that filters ints -/
theorem comp_filter {t : PB} {e : PF} {i : Nat} {env : T3.Env} (p : Int → Bool) (xs : List Int) (h : ∀ x ∈ xs, t (env.set i (some (.int x))) = some (p x) ∧ (p x = true → e (env.set i (some (.int x))) = some (.int x))) :
    compP t e (bindT (.nm i)) env (LI xs) = some (LI (xs.filter p)) :=
  compP_eq D.int p D.int xs fun x hx => ⟨_, rfl, h x hx⟩
theorem of_W {α : Type} {x : Option α} {r : α} (h : W x fun z => z = r) : x = some r := by
  obtain ⟨z, e, rfl⟩ := h
  exact e
theorem law_place_spec {L : List (List Int)} {w : List Int} (p : Int) (hw : inR L.length w) (hl : w.length < 100000) : C__law_place [.lst (LT L), TI w, .int p] = some (TI (proj L p w)) := by
  refine run0_of (W_run0 rfl ?_)
  show W (sRt _ [some (.lst (LT L)), some (TI w), some (.int p), none]) _
  simp only [W_bind, W_map, W_pC, W_pVar, W_iP, W_p1, W_p2, W_i1, W_i2, W_psN, W_psC, W_isN, W_isC, W_pN, W_iN, W_bP, W_bI, W_liftB, W_bAndP, W_bOrP, W_bNotP, W_bAndI, W_bOrI, W_bNotI, W_pAnd, W_pOr, W_pNot, W_pIf, W_pChain, W_iCall, W_iMod, W_ivSeq, W_itSeq, W_ivN, W_itN, W_sNx, W_sBk, W_sCt, W_sIf, W_sAsg, W_sEx, W_sRt, W_sRtN, W_sRtO, W_sAug, W_sTg, W_sFor, W_asB, W_lstOf, W_sSet, W_setK, W_if_t, W_if_f, pO_none, pO_some, pO_int, W_pSl, nLen_lst, nLen_tup, nInt_int, nList_lst, nList_tup, nList_scr, nTuple_lst, nTuple_tup, nIx_lst, nIx_tup, seqOf_lst, seqOf_tup, gRev_eq, gPop_eq, nI2_i, nIc_ok, nCmp_i, nAdd_i, W_some, Option.bind_some, List.getElem?_cons_zero, List.getElem?_cons_succ, List.set_cons_zero, List.set_cons_succ, List.length_cons, List.length_nil, id, Bool.not_true, Bool.not_false, List.length_map, decide_true, decide_false, eq_self, if_true, if_false, Bool.false_eq_true, decide_eq_true_eq, not_true_eq_false, not_false_eq_true, bindT, wipeE, backE, W_pComp]
  refine ⟨size_lt hl, W_eq (comp_filter (fun x => decide (p ∈ lt L x)) w fun x hx => ?_) ?_⟩
  · obtain ⟨h0, h1⟩ := hw x hx
    refine ⟨of_W ?_, fun _ => rfl⟩
    show W (bP _ [some (.lst (LT L)), some (TI w), some (.int p), some (.int x)]) _
    simp only [W_bind, W_map, W_pC, W_pVar, W_iP, W_p1, W_p2, W_i1, W_i2, W_psN, W_psC, W_isN, W_isC, W_pN, W_iN, W_bP, W_bI, W_liftB, W_bAndP, W_bOrP, W_bNotP, W_bAndI, W_bOrI, W_bNotI, W_pAnd, W_pOr, W_pNot, W_pIf, W_pChain, W_iCall, W_iMod, W_ivSeq, W_itSeq, W_ivN, W_itN, W_sNx, W_sBk, W_sCt, W_sIf, W_sAsg, W_sEx, W_sRt, W_sRtN, W_sRtO, W_sAug, W_sTg, W_sFor, W_asB, W_lstOf, W_sSet, W_setK, W_if_t, W_if_f, pO_none, pO_some, pO_int, W_pSl, nLen_lst, nLen_tup, nInt_int, nList_lst, nList_tup, nList_scr, nTuple_lst, nTuple_tup, nIx_lst, nIx_tup, seqOf_lst, seqOf_tup, gRev_eq, gPop_eq, nI2_i, nIc_ok, nCmp_i, nAdd_i, W_some, Option.bind_some, List.getElem?_cons_zero, List.getElem?_cons_succ, List.set_cons_zero, List.set_cons_succ, List.length_cons, List.length_nil, id, Bool.not_true, Bool.not_false, List.length_map, decide_true, decide_false, eq_self, if_true, if_false, Bool.false_eq_true, decide_eq_true_eq, not_true_eq_false, not_false_eq_true, bindT, wipeE, backE, atI_LT h0 h1, nIn_TI]
  · rfl
theorem place_word_lst {L : List (List Int)} {w : List Int} (c p : Int) (hw : inR L.length w) (hl : w.length < 100000) : C_place_word [.obj 0 [.int c, .tup (LT L)], .lst (LI w), .int p] = some (TI (proj L p w)) := by
  refine run0_of (W_run0 rfl ?_)
  show W (sRt _ [some (.obj 0 [.int c, .tup (LT L)]), some (.lst (LI w)), some (.int p), none]) _
  simp only [W_bind, W_map, W_pC, W_pVar, W_iP, W_p1, W_p2, W_i1, W_i2, W_psN, W_psC, W_isN, W_isC, W_pN, W_iN, W_bP, W_bI, W_liftB, W_bAndP, W_bOrP, W_bNotP, W_bAndI, W_bOrI, W_bNotI, W_pAnd, W_pOr, W_pNot, W_pIf, W_pChain, W_iCall, W_iMod, W_ivSeq, W_itSeq, W_ivN, W_itN, W_sNx, W_sBk, W_sCt, W_sIf, W_sAsg, W_sEx, W_sRt, W_sRtN, W_sRtO, W_sAug, W_sTg, W_sFor, W_asB, W_lstOf, W_sSet, W_setK, W_if_t, W_if_f, pO_none, pO_some, pO_int, W_pSl, nLen_lst, nLen_tup, nInt_int, nList_lst, nList_tup, nList_scr, nTuple_lst, nTuple_tup, nIx_lst, nIx_tup, seqOf_lst, seqOf_tup, gRev_eq, gPop_eq, nI2_i, nIc_ok, nCmp_i, nAdd_i, W_some, Option.bind_some, List.getElem?_cons_zero, List.getElem?_cons_succ, List.set_cons_zero, List.set_cons_succ, List.length_cons, List.length_nil, id, Bool.not_true, Bool.not_false, List.length_map, decide_true, decide_false, eq_self, if_true, if_false, Bool.false_eq_true, decide_eq_true_eq, not_true_eq_false, not_false_eq_true, bindT, wipeE, backE, W_pComp]
  refine ⟨size_lt hl, W_eq (comp_filter (fun x => decide (p ∈ lt L x)) w fun x hx => ?_) ?_⟩
  · obtain ⟨h0, h1⟩ := hw x hx
    refine ⟨of_W ?_, fun _ => rfl⟩
    show W (bP _ [some (.obj 0 [.int c, .tup (LT L)]), some (.lst (LI w)), some (.int p), some (.int x)]) _
    have e : nFld 0 1 (.obj 0 [.int c, .tup (LT L)]) = some (.tup (LT L)) := rfl
    simp only [W_bind, W_map, W_pC, W_pVar, W_iP, W_p1, W_p2, W_i1, W_i2, W_psN, W_psC, W_isN, W_isC, W_pN, W_iN, W_bP, W_bI, W_liftB, W_bAndP, W_bOrP, W_bNotP, W_bAndI, W_bOrI, W_bNotI, W_pAnd, W_pOr, W_pNot, W_pIf, W_pChain, W_iCall, W_iMod, W_ivSeq, W_itSeq, W_ivN, W_itN, W_sNx, W_sBk, W_sCt, W_sIf, W_sAsg, W_sEx, W_sRt, W_sRtN, W_sRtO, W_sAug, W_sTg, W_sFor, W_asB, W_lstOf, W_sSet, W_setK, W_if_t, W_if_f, pO_none, pO_some, pO_int, W_pSl, nLen_lst, nLen_tup, nInt_int, nList_lst, nList_tup, nList_scr, nTuple_lst, nTuple_tup, nIx_lst, nIx_tup, seqOf_lst, seqOf_tup, gRev_eq, gPop_eq, nI2_i, nIc_ok, nCmp_i, nAdd_i, W_some, Option.bind_some, List.getElem?_cons_zero, List.getElem?_cons_succ, List.set_cons_zero, List.set_cons_succ, List.length_cons, List.length_nil, id, Bool.not_true, Bool.not_false, List.length_map, decide_true, decide_false, eq_self, if_true, if_false, Bool.false_eq_true, decide_eq_true_eq, not_true_eq_false, not_false_eq_true, bindT, wipeE, backE, e, atI_LT h0 h1, nIn_TI]
  · rfl
theorem place_word_tup {L : List (List Int)} {w : List Int} (c p : Int) (hw : inR L.length w) (hl : w.length < 100000) : C_place_word [.obj 0 [.int c, .tup (LT L)], TI w, .int p] = some (TI (proj L p w)) := by
  refine run0_of (W_run0 rfl ?_)
  show W (sRt _ [some (.obj 0 [.int c, .tup (LT L)]), some (TI w), some (.int p), none]) _
  simp only [W_bind, W_map, W_pC, W_pVar, W_iP, W_p1, W_p2, W_i1, W_i2, W_psN, W_psC, W_isN, W_isC, W_pN, W_iN, W_bP, W_bI, W_liftB, W_bAndP, W_bOrP, W_bNotP, W_bAndI, W_bOrI, W_bNotI, W_pAnd, W_pOr, W_pNot, W_pIf, W_pChain, W_iCall, W_iMod, W_ivSeq, W_itSeq, W_ivN, W_itN, W_sNx, W_sBk, W_sCt, W_sIf, W_sAsg, W_sEx, W_sRt, W_sRtN, W_sRtO, W_sAug, W_sTg, W_sFor, W_asB, W_lstOf, W_sSet, W_setK, W_if_t, W_if_f, pO_none, pO_some, pO_int, W_pSl, nLen_lst, nLen_tup, nInt_int, nList_lst, nList_tup, nList_scr, nTuple_lst, nTuple_tup, nIx_lst, nIx_tup, seqOf_lst, seqOf_tup, gRev_eq, gPop_eq, nI2_i, nIc_ok, nCmp_i, nAdd_i, W_some, Option.bind_some, List.getElem?_cons_zero, List.getElem?_cons_succ, List.set_cons_zero, List.set_cons_succ, List.length_cons, List.length_nil, id, Bool.not_true, Bool.not_false, List.length_map, decide_true, decide_false, eq_self, if_true, if_false, Bool.false_eq_true, decide_eq_true_eq, not_true_eq_false, not_false_eq_true, bindT, wipeE, backE, W_pComp]
  refine ⟨size_lt hl, W_eq (comp_filter (fun x => decide (p ∈ lt L x)) w fun x hx => ?_) ?_⟩
  · obtain ⟨h0, h1⟩ := hw x hx
    refine ⟨of_W ?_, fun _ => rfl⟩
    show W (bP _ [some (.obj 0 [.int c, .tup (LT L)]), some (TI w), some (.int p), some (.int x)]) _
    have e : nFld 0 1 (.obj 0 [.int c, .tup (LT L)]) = some (.tup (LT L)) := rfl
    simp only [W_bind, W_map, W_pC, W_pVar, W_iP, W_p1, W_p2, W_i1, W_i2, W_psN, W_psC, W_isN, W_isC, W_pN, W_iN, W_bP, W_bI, W_liftB, W_bAndP, W_bOrP, W_bNotP, W_bAndI, W_bOrI, W_bNotI, W_pAnd, W_pOr, W_pNot, W_pIf, W_pChain, W_iCall, W_iMod, W_ivSeq, W_itSeq, W_ivN, W_itN, W_sNx, W_sBk, W_sCt, W_sIf, W_sAsg, W_sEx, W_sRt, W_sRtN, W_sRtO, W_sAug, W_sTg, W_sFor, W_asB, W_lstOf, W_sSet, W_setK, W_if_t, W_if_f, pO_none, pO_some, pO_int, W_pSl, nLen_lst, nLen_tup, nInt_int, nList_lst, nList_tup, nList_scr, nTuple_lst, nTuple_tup, nIx_lst, nIx_tup, seqOf_lst, seqOf_tup, gRev_eq, gPop_eq, nI2_i, nIc_ok, nCmp_i, nAdd_i, W_some, Option.bind_some, List.getElem?_cons_zero, List.getElem?_cons_succ, List.set_cons_zero, List.set_cons_succ, List.length_cons, List.length_nil, id, Bool.not_true, Bool.not_false, List.length_map, decide_true, decide_false, eq_self, if_true, if_false, Bool.false_eq_true, decide_eq_true_eq, not_true_eq_false, not_false_eq_true, bindT, wipeE, backE, e, atI_LT h0 h1, nIn_TI]
  · rfl
/-- no place in common -/
def indep (L : List (List Int)) (a b : Int) : Bool := decide (((lt L a).filter fun p => decide (p ∈ lt L b)).length = 0)
theorem indep_iff {L : List (List Int)} {a b : Int} : indep L a b = true ↔ ∀ p ∈ lt L a, p ∉ lt L b := by
  unfold indep
  rw [decide_eq_true_eq, List.length_eq_zero_iff, List.filter_eq_nil_iff]
  simp
theorem free_spec {L : List (List Int)} {a b : Int} (ha : 0 ≤ a ∧ a < (L.length : Nat)) (hb : 0 ≤ b ∧ b < (L.length : Nat)) (hl : (lt L a).length < 100000) : C__law_free [.lst (LT L), .int a, .int b] = some (.bl (indep L a b)) := by
  refine run0_of (W_run0 rfl ?_)
  show W (sRt _ [some (.lst (LT L)), some (.int a), some (.int b), none]) _
  simp only [W_bind, W_map, W_pC, W_pVar, W_iP, W_p1, W_p2, W_i1, W_i2, W_psN, W_psC, W_isN, W_isC, W_pN, W_iN, W_bP, W_bI, W_liftB, W_bAndP, W_bOrP, W_bNotP, W_bAndI, W_bOrI, W_bNotI, W_pAnd, W_pOr, W_pNot, W_pIf, W_pChain, W_iCall, W_iMod, W_ivSeq, W_itSeq, W_ivN, W_itN, W_sNx, W_sBk, W_sCt, W_sIf, W_sAsg, W_sEx, W_sRt, W_sRtN, W_sRtO, W_sAug, W_sTg, W_sFor, W_asB, W_lstOf, W_sSet, W_setK, W_if_t, W_if_f, pO_none, pO_some, pO_int, W_pSl, nLen_lst, nLen_tup, nInt_int, nList_lst, nList_tup, nList_scr, nTuple_lst, nTuple_tup, nIx_lst, nIx_tup, seqOf_lst, seqOf_tup, gRev_eq, gPop_eq, nI2_i, nIc_ok, nCmp_i, nAdd_i, W_some, Option.bind_some, List.getElem?_cons_zero, List.getElem?_cons_succ, List.set_cons_zero, List.set_cons_succ, List.length_cons, List.length_nil, id, Bool.not_true, Bool.not_false, List.length_map, decide_true, decide_false, eq_self, if_true, if_false, Bool.false_eq_true, decide_eq_true_eq, not_true_eq_false, not_false_eq_true, bindT, wipeE, backE, W_pComp, atI_LT ha.1 ha.2]
  refine ⟨size_lt hl, W_eq (comp_filter (fun x => decide (x ∈ lt L b)) (lt L a) fun x hx => ?_) ?_⟩
  · refine ⟨of_W ?_, fun _ => rfl⟩
    show W (bP _ [some (.lst (LT L)), some (.int a), some (.int b), some (.int x)]) _
    simp only [W_bind, W_map, W_pC, W_pVar, W_iP, W_p1, W_p2, W_i1, W_i2, W_psN, W_psC, W_isN, W_isC, W_pN, W_iN, W_bP, W_bI, W_liftB, W_bAndP, W_bOrP, W_bNotP, W_bAndI, W_bOrI, W_bNotI, W_pAnd, W_pOr, W_pNot, W_pIf, W_pChain, W_iCall, W_iMod, W_ivSeq, W_itSeq, W_ivN, W_itN, W_sNx, W_sBk, W_sCt, W_sIf, W_sAsg, W_sEx, W_sRt, W_sRtN, W_sRtO, W_sAug, W_sTg, W_sFor, W_asB, W_lstOf, W_sSet, W_setK, W_if_t, W_if_f, pO_none, pO_some, pO_int, W_pSl, nLen_lst, nLen_tup, nInt_int, nList_lst, nList_tup, nList_scr, nTuple_lst, nTuple_tup, nIx_lst, nIx_tup, seqOf_lst, seqOf_tup, gRev_eq, gPop_eq, nI2_i, nIc_ok, nCmp_i, nAdd_i, W_some, Option.bind_some, List.getElem?_cons_zero, List.getElem?_cons_succ, List.set_cons_zero, List.set_cons_succ, List.length_cons, List.length_nil, id, Bool.not_true, Bool.not_false, List.length_map, decide_true, decide_false, eq_self, if_true, if_false, Bool.false_eq_true, decide_eq_true_eq, not_true_eq_false, not_false_eq_true, bindT, wipeE, backE, atI_LT hb.1 hb.2, nIn_TI]
  · simp only [W_bind, W_map, W_pC, W_pVar, W_iP, W_p1, W_p2, W_i1, W_i2, W_psN, W_psC, W_isN, W_isC, W_pN, W_iN, W_bP, W_bI, W_liftB, W_bAndP, W_bOrP, W_bNotP, W_bAndI, W_bOrI, W_bNotI, W_pAnd, W_pOr, W_pNot, W_pIf, W_pChain, W_iCall, W_iMod, W_ivSeq, W_itSeq, W_ivN, W_itN, W_sNx, W_sBk, W_sCt, W_sIf, W_sAsg, W_sEx, W_sRt, W_sRtN, W_sRtO, W_sAug, W_sTg, W_sFor, W_asB, W_lstOf, W_sSet, W_setK, W_if_t, W_if_f, pO_none, pO_some, pO_int, W_pSl, nLen_lst, nLen_tup, nInt_int, nList_lst, nList_tup, nList_scr, nTuple_lst, nTuple_tup, nIx_lst, nIx_tup, seqOf_lst, seqOf_tup, gRev_eq, gPop_eq, nI2_i, nIc_ok, nCmp_i, nAdd_i, W_some, Option.bind_some, List.getElem?_cons_zero, List.getElem?_cons_succ, List.set_cons_zero, List.set_cons_succ, List.length_cons, List.length_nil, id, Bool.not_true, Bool.not_false, List.length_map, decide_true, decide_false, eq_self, if_true, if_false, Bool.false_eq_true, decide_eq_true_eq, not_true_eq_false, not_false_eq_true, bindT, wipeE, backE, nEq_int]
    unfold indep
    congr 1
    by_cases h : ((lt L a).filter fun p => decide (p ∈ lt L b)).length = 0
    · rw [decide_eq_true h, decide_eq_true (by omega)]
    · rw [decide_eq_false h, decide_eq_false (by omega)]
/-- neighbours that are independent change places -/
inductive Sw (L : List (List Int)) : List Int → List Int → Prop
  | refl (w) : Sw L w w
  | step {w u v a b} : Sw L w (u ++ a :: b :: v) → indep L a b = true → Sw L w (u ++ b :: a :: v)
theorem Sw.perm {L : List (List Int)} {w w' : List Int} (h : Sw L w w') : w'.Perm w := by
  induction h with
  | refl => exact .refl _
  | step _ _ ih => exact (List.Perm.append_left _ (.swap _ _ _)).trans ih
theorem split2 {w : List Int} {k : Nat} (h : k + 1 < w.length) : ∃ u a b v, w = u ++ a :: b :: v ∧ u.length = k ∧ w[k]? = some a ∧ w[k + 1]? = some b ∧ (w.set k b).set (k + 1) a = u ++ b :: a :: v := by
  refine ⟨w.take k, w[k], w[k + 1], w.drop (k + 2), ?_, by rw [List.length_take]; omega, List.getElem?_eq_getElem _, List.getElem?_eq_getElem _, ?_⟩
  · rw [← List.drop_eq_getElem_cons, ← List.drop_eq_getElem_cons, List.take_append_drop]
  · have e : w = w.take k ++ w[k] :: w[k + 1] :: w.drop (k + 2) := by
      rw [← List.drop_eq_getElem_cons, ← List.drop_eq_getElem_cons, List.take_append_drop]
    have hl : (w.take k).length = k := by rw [List.length_take]; omega
    have e1 : w.set k w[k + 1] = w.take k ++ w[k + 1] :: w[k + 1] :: w.drop (k + 2) := by
      rw [List.set_eq_take_append_cons_drop, if_pos (by omega), ← List.drop_eq_getElem_cons]
    rw [e1, List.set_append_right _ _ (by omega), hl, show k + 1 - k = 1 by omega]
    rfl
def shInv (L : List (List Int)) (w : List Int) (t : Int) (env : T3.Env) : Prop := ∃ (d : D) (f : List Int) (a b c : Option D), Dr d ∧ Sw L w f ∧ env = [some d, some (.lst (LT L)), some (TI w), some (.int t), some (.lst (LI f)), a, b, c]
theorem LI_get {w : List Int} {k : Nat} {a : Int} (h : w[k]? = some a) : atI (LI w) (k : Int) = some (.int a) := by
  have hk : k < w.length := (List.getElem?_eq_some_iff.mp h).1
  rw [atI_nat _ _ (by rw [List.length_map]; exact hk)]
  show (List.map D.int w)[k]? = _
  rw [List.getElem?_map, h]
  rfl
theorem shuffled_spec {L : List (List Int)} {w : List Int} {d : D} (hd : Dr d) (hw : inR L.length w) (hL : ∀ l ∈ L, l.length < 64) (t : Int) (h0 : 0 ≤ t) (h1 : t < 10000) (hwl : w.length < 10000) : W (C__law_shuffled d [.lst (LT L), TI w, .int t]) fun p => ∃ f : List Int, p.1 = TI f ∧ Dr p.2 ∧ Sw L w f := by
  refine W_run1 rfl ?_
  show W (sSeq _ _ [some d, some (.lst (LT L)), some (TI w), some (.int t), none, none, none, none]) _
  refine W_seq ?_
  generalize hK : nxK _ _ = K
  simp only [W_bind, W_map, W_pC, W_pVar, W_iP, W_p1, W_p2, W_i1, W_i2, W_psN, W_psC, W_isN, W_isC, W_pN, W_iN, W_bP, W_bI, W_liftB, W_bAndP, W_bOrP, W_bNotP, W_bAndI, W_bOrI, W_bNotI, W_pAnd, W_pOr, W_pNot, W_pIf, W_pChain, W_iCall, W_iMod, W_ivSeq, W_itSeq, W_ivN, W_itN, W_sNx, W_sBk, W_sCt, W_sIf, W_sAsg, W_sEx, W_sRt, W_sRtN, W_sRtO, W_sAug, W_sTg, W_sFor, W_asB, W_lstOf, W_sSet, W_setK, W_if_t, W_if_f, pO_none, pO_some, pO_int, W_pSl, nLen_lst, nLen_tup, nInt_int, nList_lst, nList_tup, nList_scr, nTuple_lst, nTuple_tup, nIx_lst, nIx_tup, seqOf_lst, seqOf_tup, gRev_eq, gPop_eq, nI2_i, nIc_ok, nCmp_i, nAdd_i, W_some, Option.bind_some, List.getElem?_cons_zero, List.getElem?_cons_succ, List.set_cons_zero, List.set_cons_succ, List.length_cons, List.length_nil, id, Bool.not_true, Bool.not_false, List.length_map, decide_true, decide_false, eq_self, if_true, if_false, Bool.false_eq_true, decide_eq_true_eq, not_true_eq_false, not_false_eq_true, bindT, wipeE, backE]
  subst hK
  refine K_nx (W_seq ?_)
  generalize hK : nxK _ _ = K
  simp only [W_bind, W_map, W_pC, W_pVar, W_iP, W_p1, W_p2, W_i1, W_i2, W_psN, W_psC, W_isN, W_isC, W_pN, W_iN, W_bP, W_bI, W_liftB, W_bAndP, W_bOrP, W_bNotP, W_bAndI, W_bOrI, W_bNotI, W_pAnd, W_pOr, W_pNot, W_pIf, W_pChain, W_iCall, W_iMod, W_ivSeq, W_itSeq, W_ivN, W_itN, W_sNx, W_sBk, W_sCt, W_sIf, W_sAsg, W_sEx, W_sRt, W_sRtN, W_sRtO, W_sAug, W_sTg, W_sFor, W_asB, W_lstOf, W_sSet, W_setK, W_if_t, W_if_f, pO_none, pO_some, pO_int, W_pSl, nLen_lst, nLen_tup, nInt_int, nList_lst, nList_tup, nList_scr, nTuple_lst, nTuple_tup, nIx_lst, nIx_tup, seqOf_lst, seqOf_tup, gRev_eq, gPop_eq, nI2_i, nIc_ok, nCmp_i, nAdd_i, W_some, Option.bind_some, List.getElem?_cons_zero, List.getElem?_cons_succ, List.set_cons_zero, List.set_cons_succ, List.length_cons, List.length_nil, id, Bool.not_true, Bool.not_false, List.length_map, decide_true, decide_false, eq_self, if_true, if_false, Bool.false_eq_true, decide_eq_true_eq, not_true_eq_false, not_false_eq_true, bindT, wipeE, backE, rng1_nat h0]
  refine W_forL (fun _ => shInv L w t) _ 0 _ ⟨d, w, _, _, _, hd, .refl w, rfl⟩ ?_ ?_
  · rintro i x env hi ⟨d, f, a, b, c, hd, hf, rfl⟩
    obtain ⟨hi2, rfl⟩ := get_range hi
    clear hi hK
    have hfl : f.length = w.length := hf.perm.length_eq
    have hfr : inR L.length f := fun x hx => hw x (hf.perm.mem_iff.mp hx)
    simp only [W_bind, W_map, W_pC, W_pVar, W_iP, W_p1, W_p2, W_i1, W_i2, W_psN, W_psC, W_isN, W_isC, W_pN, W_iN, W_bP, W_bI, W_liftB, W_bAndP, W_bOrP, W_bNotP, W_bAndI, W_bOrI, W_bNotI, W_pAnd, W_pOr, W_pNot, W_pIf, W_pChain, W_iCall, W_iMod, W_ivSeq, W_itSeq, W_ivN, W_itN, W_sNx, W_sBk, W_sCt, W_sIf, W_sAsg, W_sEx, W_sRt, W_sRtN, W_sRtO, W_sAug, W_sTg, W_sFor, W_asB, W_lstOf, W_sSet, W_setK, W_if_t, W_if_f, pO_none, pO_some, pO_int, W_pSl, nLen_lst, nLen_tup, nInt_int, nList_lst, nList_tup, nList_scr, nTuple_lst, nTuple_tup, nIx_lst, nIx_tup, seqOf_lst, seqOf_tup, gRev_eq, gPop_eq, nI2_i, nIc_ok, nCmp_i, nAdd_i, W_some, Option.bind_some, List.getElem?_cons_zero, List.getElem?_cons_succ, List.set_cons_zero, List.set_cons_succ, List.length_cons, List.length_nil, id, Bool.not_true, Bool.not_false, List.length_map, decide_true, decide_false, eq_self, if_true, if_false, Bool.false_eq_true, decide_eq_true_eq, not_true_eq_false, not_false_eq_true, bindT, wipeE, backE]
    by_cases hlen : (1 : Int) < (f.length : Nat)
    · simp only [W_bind, W_map, W_pC, W_pVar, W_iP, W_p1, W_p2, W_i1, W_i2, W_psN, W_psC, W_isN, W_isC, W_pN, W_iN, W_bP, W_bI, W_liftB, W_bAndP, W_bOrP, W_bNotP, W_bAndI, W_bOrI, W_bNotI, W_pAnd, W_pOr, W_pNot, W_pIf, W_pChain, W_iCall, W_iMod, W_ivSeq, W_itSeq, W_ivN, W_itN, W_sNx, W_sBk, W_sCt, W_sIf, W_sAsg, W_sEx, W_sRt, W_sRtN, W_sRtO, W_sAug, W_sTg, W_sFor, W_asB, W_lstOf, W_sSet, W_setK, W_if_t, W_if_f, pO_none, pO_some, pO_int, W_pSl, nLen_lst, nLen_tup, nInt_int, nList_lst, nList_tup, nList_scr, nTuple_lst, nTuple_tup, nIx_lst, nIx_tup, seqOf_lst, seqOf_tup, gRev_eq, gPop_eq, nI2_i, nIc_ok, nCmp_i, nAdd_i, W_some, Option.bind_some, List.getElem?_cons_zero, List.getElem?_cons_succ, List.set_cons_zero, List.set_cons_succ, List.length_cons, List.length_nil, id, Bool.not_true, Bool.not_false, List.length_map, decide_true, decide_false, eq_self, if_true, if_false, Bool.false_eq_true, decide_eq_true_eq, not_true_eq_false, not_false_eq_true, bindT, wipeE, backE, hlen]
      refine W_seq ?_
      generalize hK : nxK _ _ = K
      simp only [W_bind, W_map, W_pC, W_pVar, W_iP, W_p1, W_p2, W_i1, W_i2, W_psN, W_psC, W_isN, W_isC, W_pN, W_iN, W_bP, W_bI, W_liftB, W_bAndP, W_bOrP, W_bNotP, W_bAndI, W_bOrI, W_bNotI, W_pAnd, W_pOr, W_pNot, W_pIf, W_pChain, W_iCall, W_iMod, W_ivSeq, W_itSeq, W_ivN, W_itN, W_sNx, W_sBk, W_sCt, W_sIf, W_sAsg, W_sEx, W_sRt, W_sRtN, W_sRtO, W_sAug, W_sTg, W_sFor, W_asB, W_lstOf, W_sSet, W_setK, W_if_t, W_if_f, pO_none, pO_some, pO_int, W_pSl, nLen_lst, nLen_tup, nInt_int, nList_lst, nList_tup, nList_scr, nTuple_lst, nTuple_tup, nIx_lst, nIx_tup, seqOf_lst, seqOf_tup, gRev_eq, gPop_eq, nI2_i, nIc_ok, nCmp_i, nAdd_i, W_some, Option.bind_some, List.getElem?_cons_zero, List.getElem?_cons_succ, List.set_cons_zero, List.set_cons_succ, List.length_cons, List.length_nil, id, Bool.not_true, Bool.not_false, List.length_map, decide_true, decide_false, eq_self, if_true, if_false, Bool.false_eq_true, decide_eq_true_eq, not_true_eq_false, not_false_eq_true, bindT, wipeE, backE]
      refine (take_spec hd (by omega)).mono ?_
      rintro ⟨_, d1⟩ ⟨r, rfl, hd1, r0, r1⟩
      simp only [W_bind, W_map, W_pC, W_pVar, W_iP, W_p1, W_p2, W_i1, W_i2, W_psN, W_psC, W_isN, W_isC, W_pN, W_iN, W_bP, W_bI, W_liftB, W_bAndP, W_bOrP, W_bNotP, W_bAndI, W_bOrI, W_bNotI, W_pAnd, W_pOr, W_pNot, W_pIf, W_pChain, W_iCall, W_iMod, W_ivSeq, W_itSeq, W_ivN, W_itN, W_sNx, W_sBk, W_sCt, W_sIf, W_sAsg, W_sEx, W_sRt, W_sRtN, W_sRtO, W_sAug, W_sTg, W_sFor, W_asB, W_lstOf, W_sSet, W_setK, W_if_t, W_if_f, pO_none, pO_some, pO_int, W_pSl, nLen_lst, nLen_tup, nInt_int, nList_lst, nList_tup, nList_scr, nTuple_lst, nTuple_tup, nIx_lst, nIx_tup, seqOf_lst, seqOf_tup, gRev_eq, gPop_eq, nI2_i, nIc_ok, nCmp_i, nAdd_i, W_some, Option.bind_some, List.getElem?_cons_zero, List.getElem?_cons_succ, List.set_cons_zero, List.set_cons_succ, List.length_cons, List.length_nil, id, Bool.not_true, Bool.not_false, List.length_map, decide_true, decide_false, eq_self, if_true, if_false, Bool.false_eq_true, decide_eq_true_eq, not_true_eq_false, not_false_eq_true, bindT, wipeE, backE]
      subst hK
      refine K_nx ?_
      obtain ⟨k, rfl⟩ : ∃ k : Nat, r = (k : Int) := ⟨r.toNat, by omega⟩
      obtain ⟨u, a, b, v, ef, hu, ga, gb, hs⟩ := split2 (w := f) (k := k) (by omega)
      have e1 : atI (LI f) (k : Int) = some (.int a) := LI_get ga
      have e2 : atI (LI f) ((k : Int) + 1) = some (.int b) := by
        have := LI_get gb
        rwa [Int.natCast_add] at this
      have ra := hfr a (by rw [ef]; simp)
      have rb := hfr b (by rw [ef]; simp)
      have hal : (lt L a).length < 100000 := by have := hL _ (lt_mem ra.1 ra.2); omega
      simp only [W_bind, W_map, W_pC, W_pVar, W_iP, W_p1, W_p2, W_i1, W_i2, W_psN, W_psC, W_isN, W_isC, W_pN, W_iN, W_bP, W_bI, W_liftB, W_bAndP, W_bOrP, W_bNotP, W_bAndI, W_bOrI, W_bNotI, W_pAnd, W_pOr, W_pNot, W_pIf, W_pChain, W_iCall, W_iMod, W_ivSeq, W_itSeq, W_ivN, W_itN, W_sNx, W_sBk, W_sCt, W_sIf, W_sAsg, W_sEx, W_sRt, W_sRtN, W_sRtO, W_sAug, W_sTg, W_sFor, W_asB, W_lstOf, W_sSet, W_setK, W_if_t, W_if_f, pO_none, pO_some, pO_int, W_pSl, nLen_lst, nLen_tup, nInt_int, nList_lst, nList_tup, nList_scr, nTuple_lst, nTuple_tup, nIx_lst, nIx_tup, seqOf_lst, seqOf_tup, gRev_eq, gPop_eq, nI2_i, nIc_ok, nCmp_i, nAdd_i, W_some, Option.bind_some, List.getElem?_cons_zero, List.getElem?_cons_succ, List.set_cons_zero, List.set_cons_succ, List.length_cons, List.length_nil, id, Bool.not_true, Bool.not_false, List.length_map, decide_true, decide_false, eq_self, if_true, if_false, Bool.false_eq_true, decide_eq_true_eq, not_true_eq_false, not_false_eq_true, bindT, wipeE, backE, e1, e2, free_spec ra rb hal]
      by_cases hfree : indep L a b = true
      · simp only [W_bind, W_map, W_pC, W_pVar, W_iP, W_p1, W_p2, W_i1, W_i2, W_psN, W_psC, W_isN, W_isC, W_pN, W_iN, W_bP, W_bI, W_liftB, W_bAndP, W_bOrP, W_bNotP, W_bAndI, W_bOrI, W_bNotI, W_pAnd, W_pOr, W_pNot, W_pIf, W_pChain, W_iCall, W_iMod, W_ivSeq, W_itSeq, W_ivN, W_itN, W_sNx, W_sBk, W_sCt, W_sIf, W_sAsg, W_sEx, W_sRt, W_sRtN, W_sRtO, W_sAug, W_sTg, W_sFor, W_asB, W_lstOf, W_sSet, W_setK, W_if_t, W_if_f, pO_none, pO_some, pO_int, W_pSl, nLen_lst, nLen_tup, nInt_int, nList_lst, nList_tup, nList_scr, nTuple_lst, nTuple_tup, nIx_lst, nIx_tup, seqOf_lst, seqOf_tup, gRev_eq, gPop_eq, nI2_i, nIc_ok, nCmp_i, nAdd_i, W_some, Option.bind_some, List.getElem?_cons_zero, List.getElem?_cons_succ, List.set_cons_zero, List.set_cons_succ, List.length_cons, List.length_nil, id, Bool.not_true, Bool.not_false, List.length_map, decide_true, decide_false, eq_self, if_true, if_false, Bool.false_eq_true, decide_eq_true_eq, not_true_eq_false, not_false_eq_true, bindT, wipeE, backE, hfree]
        refine W_seq ?_
        generalize hK : nxK _ _ = K
        simp only [W_bind, W_map, W_pC, W_pVar, W_iP, W_p1, W_p2, W_i1, W_i2, W_psN, W_psC, W_isN, W_isC, W_pN, W_iN, W_bP, W_bI, W_liftB, W_bAndP, W_bOrP, W_bNotP, W_bAndI, W_bOrI, W_bNotI, W_pAnd, W_pOr, W_pNot, W_pIf, W_pChain, W_iCall, W_iMod, W_ivSeq, W_itSeq, W_ivN, W_itN, W_sNx, W_sBk, W_sCt, W_sIf, W_sAsg, W_sEx, W_sRt, W_sRtN, W_sRtO, W_sAug, W_sTg, W_sFor, W_asB, W_lstOf, W_sSet, W_setK, W_if_t, W_if_f, pO_none, pO_some, pO_int, W_pSl, nLen_lst, nLen_tup, nInt_int, nList_lst, nList_tup, nList_scr, nTuple_lst, nTuple_tup, nIx_lst, nIx_tup, seqOf_lst, seqOf_tup, gRev_eq, gPop_eq, nI2_i, nIc_ok, nCmp_i, nAdd_i, W_some, Option.bind_some, List.getElem?_cons_zero, List.getElem?_cons_succ, List.set_cons_zero, List.set_cons_succ, List.length_cons, List.length_nil, id, Bool.not_true, Bool.not_false, List.length_map, decide_true, decide_false, eq_self, if_true, if_false, Bool.false_eq_true, decide_eq_true_eq, not_true_eq_false, not_false_eq_true, bindT, wipeE, backE, e1]
        subst hK
        refine K_nx (W_seq ?_)
        generalize hK : nxK _ _ = K
        have i1 : ixN f.length (k : Int) = some k := by
          unfold ixN
          rw [if_pos (by omega), if_pos (by omega)]
          rfl
        have i2 : ixN f.length ((k : Int) + 1) = some (k + 1) := by
          unfold ixN
          rw [if_pos (by omega), if_pos (by omega)]
          rfl
        simp only [W_bind, W_map, W_pC, W_pVar, W_iP, W_p1, W_p2, W_i1, W_i2, W_psN, W_psC, W_isN, W_isC, W_pN, W_iN, W_bP, W_bI, W_liftB, W_bAndP, W_bOrP, W_bNotP, W_bAndI, W_bOrI, W_bNotI, W_pAnd, W_pOr, W_pNot, W_pIf, W_pChain, W_iCall, W_iMod, W_ivSeq, W_itSeq, W_ivN, W_itN, W_sNx, W_sBk, W_sCt, W_sIf, W_sAsg, W_sEx, W_sRt, W_sRtN, W_sRtO, W_sAug, W_sTg, W_sFor, W_asB, W_lstOf, W_sSet, W_setK, W_if_t, W_if_f, pO_none, pO_some, pO_int, W_pSl, nLen_lst, nLen_tup, nInt_int, nList_lst, nList_tup, nList_scr, nTuple_lst, nTuple_tup, nIx_lst, nIx_tup, seqOf_lst, seqOf_tup, gRev_eq, gPop_eq, nI2_i, nIc_ok, nCmp_i, nAdd_i, W_some, Option.bind_some, List.getElem?_cons_zero, List.getElem?_cons_succ, List.set_cons_zero, List.set_cons_succ, List.length_cons, List.length_nil, id, Bool.not_true, Bool.not_false, List.length_map, decide_true, decide_false, eq_self, if_true, if_false, Bool.false_eq_true, decide_eq_true_eq, not_true_eq_false, not_false_eq_true, bindT, wipeE, backE, e2, i1]
        subst hK
        refine K_nx ?_
        simp only [W_bind, W_map, W_pC, W_pVar, W_iP, W_p1, W_p2, W_i1, W_i2, W_psN, W_psC, W_isN, W_isC, W_pN, W_iN, W_bP, W_bI, W_liftB, W_bAndP, W_bOrP, W_bNotP, W_bAndI, W_bOrI, W_bNotI, W_pAnd, W_pOr, W_pNot, W_pIf, W_pChain, W_iCall, W_iMod, W_ivSeq, W_itSeq, W_ivN, W_itN, W_sNx, W_sBk, W_sCt, W_sIf, W_sAsg, W_sEx, W_sRt, W_sRtN, W_sRtO, W_sAug, W_sTg, W_sFor, W_asB, W_lstOf, W_sSet, W_setK, W_if_t, W_if_f, pO_none, pO_some, pO_int, W_pSl, nLen_lst, nLen_tup, nInt_int, nList_lst, nList_tup, nList_scr, nTuple_lst, nTuple_tup, nIx_lst, nIx_tup, seqOf_lst, seqOf_tup, gRev_eq, gPop_eq, nI2_i, nIc_ok, nCmp_i, nAdd_i, W_some, Option.bind_some, List.getElem?_cons_zero, List.getElem?_cons_succ, List.set_cons_zero, List.set_cons_succ, List.length_cons, List.length_nil, id, Bool.not_true, Bool.not_false, List.length_map, decide_true, decide_false, eq_self, if_true, if_false, Bool.false_eq_true, decide_eq_true_eq, not_true_eq_false, not_false_eq_true, bindT, wipeE, backE, List.length_set, i2]
        refine ⟨d1, u ++ b :: a :: v, some (.int (i : Int)), some (.int (k : Int)), some (.int a), hd1, .step (ef ▸ hf) hfree, ?_⟩
        rw [LI_set, LI_set, hs]
      · simp only [W_bind, W_map, W_pC, W_pVar, W_iP, W_p1, W_p2, W_i1, W_i2, W_psN, W_psC, W_isN, W_isC, W_pN, W_iN, W_bP, W_bI, W_liftB, W_bAndP, W_bOrP, W_bNotP, W_bAndI, W_bOrI, W_bNotI, W_pAnd, W_pOr, W_pNot, W_pIf, W_pChain, W_iCall, W_iMod, W_ivSeq, W_itSeq, W_ivN, W_itN, W_sNx, W_sBk, W_sCt, W_sIf, W_sAsg, W_sEx, W_sRt, W_sRtN, W_sRtO, W_sAug, W_sTg, W_sFor, W_asB, W_lstOf, W_sSet, W_setK, W_if_t, W_if_f, pO_none, pO_some, pO_int, W_pSl, nLen_lst, nLen_tup, nInt_int, nList_lst, nList_tup, nList_scr, nTuple_lst, nTuple_tup, nIx_lst, nIx_tup, seqOf_lst, seqOf_tup, gRev_eq, gPop_eq, nI2_i, nIc_ok, nCmp_i, nAdd_i, W_some, Option.bind_some, List.getElem?_cons_zero, List.getElem?_cons_succ, List.set_cons_zero, List.set_cons_succ, List.length_cons, List.length_nil, id, Bool.not_true, Bool.not_false, List.length_map, decide_true, decide_false, eq_self, if_true, if_false, Bool.false_eq_true, decide_eq_true_eq, not_true_eq_false, not_false_eq_true, bindT, wipeE, backE, hfree]
        exact ⟨d1, f, _, _, _, hd1, hf, rfl⟩
    · simp only [W_bind, W_map, W_pC, W_pVar, W_iP, W_p1, W_p2, W_i1, W_i2, W_psN, W_psC, W_isN, W_isC, W_pN, W_iN, W_bP, W_bI, W_liftB, W_bAndP, W_bOrP, W_bNotP, W_bAndI, W_bOrI, W_bNotI, W_pAnd, W_pOr, W_pNot, W_pIf, W_pChain, W_iCall, W_iMod, W_ivSeq, W_itSeq, W_ivN, W_itN, W_sNx, W_sBk, W_sCt, W_sIf, W_sAsg, W_sEx, W_sRt, W_sRtN, W_sRtO, W_sAug, W_sTg, W_sFor, W_asB, W_lstOf, W_sSet, W_setK, W_if_t, W_if_f, pO_none, pO_some, pO_int, W_pSl, nLen_lst, nLen_tup, nInt_int, nList_lst, nList_tup, nList_scr, nTuple_lst, nTuple_tup, nIx_lst, nIx_tup, seqOf_lst, seqOf_tup, gRev_eq, gPop_eq, nI2_i, nIc_ok, nCmp_i, nAdd_i, W_some, Option.bind_some, List.getElem?_cons_zero, List.getElem?_cons_succ, List.set_cons_zero, List.set_cons_succ, List.length_cons, List.length_nil, id, Bool.not_true, Bool.not_false, List.length_map, decide_true, decide_false, eq_self, if_true, if_false, Bool.false_eq_true, decide_eq_true_eq, not_true_eq_false, not_false_eq_true, bindT, wipeE, backE, hlen]
      exact ⟨d, f, _, _, _, hd, hf, rfl⟩
  · rintro env ⟨d, f, a, b, c, hd, hf, rfl⟩
    subst hK
    refine K_nx ?_
    simp only [W_bind, W_map, W_pC, W_pVar, W_iP, W_p1, W_p2, W_i1, W_i2, W_psN, W_psC, W_isN, W_isC, W_pN, W_iN, W_bP, W_bI, W_liftB, W_bAndP, W_bOrP, W_bNotP, W_bAndI, W_bOrI, W_bNotI, W_pAnd, W_pOr, W_pNot, W_pIf, W_pChain, W_iCall, W_iMod, W_ivSeq, W_itSeq, W_ivN, W_itN, W_sNx, W_sBk, W_sCt, W_sIf, W_sAsg, W_sEx, W_sRt, W_sRtN, W_sRtO, W_sAug, W_sTg, W_sFor, W_asB, W_lstOf, W_sSet, W_setK, W_if_t, W_if_f, pO_none, pO_some, pO_int, W_pSl, nLen_lst, nLen_tup, nInt_int, nList_lst, nList_tup, nList_scr, nTuple_lst, nTuple_tup, nIx_lst, nIx_tup, seqOf_lst, seqOf_tup, gRev_eq, gPop_eq, nI2_i, nIc_ok, nCmp_i, nAdd_i, W_some, Option.bind_some, List.getElem?_cons_zero, List.getElem?_cons_succ, List.set_cons_zero, List.set_cons_succ, List.length_cons, List.length_nil, id, Bool.not_true, Bool.not_false, List.length_map, decide_true, decide_false, eq_self, if_true, if_false, Bool.false_eq_true, decide_eq_true_eq, not_true_eq_false, not_false_eq_true, bindT, wipeE, backE]
    exact ⟨f, rfl, hd, hf⟩

def fldK (s c j : Nat) (x : D × T3.Env) (d0 : D) : Option (Fl × T3.Env) := match d0 with
  | .obj c' fs => if c' = c ∧ fs.length = j then some (.nx, x.2.set s (some (.obj c (fs ++ [x.1])))) else none
  | _ => none
theorem W_sFldN {s c j : Nat} {g : IF} {env : T3.Env} {QS : Fl × T3.Env → Prop} : W (sFldN s c j g env) QS ↔ W (g env) fun x => W (pVar s x.2) fun d0 => W (fldK s c j x d0) QS := by
  unfold sFldN
  simp only [W_bind]
  rfl
theorem W_fldK {s c : Nat} {x : D} {e : T3.Env} {fs : List D} {QS : Fl × T3.Env → Prop} (q : QS (.nx, e.set s (some (.obj c (fs ++ [x]))))) {j : Nat} (hj : fs.length = j) : W (fldK s c j (x, e) (.obj c fs)) QS :=
  ⟨_, if_pos ⟨rfl, hj⟩, q⟩
theorem fits_spec {c : Int} {l : List Int} (h : GL c l) : C_fits [TI l, .int c] = some (.bl true) := by
  obtain ⟨hne, hs, hl, hr⟩ := h
  refine run0_of (W_run0 rfl ?_)
  show W (sSeq _ _ [some (TI l), some (.int c), none]) _
  have hz : ¬ ((l.length : Nat) : Int) = 0 := by
    cases l with
    | nil => exact absurd rfl hne
    | cons a b => simp; omega
  refine W_seq ?_
  generalize hK : nxK _ _ = K
  simp only [W_bind, W_map, W_pC, W_pVar, W_iP, W_p1, W_p2, W_i1, W_i2, W_psN, W_psC, W_isN, W_isC, W_pN, W_iN, W_bP, W_bI, W_liftB, W_bAndP, W_bOrP, W_bNotP, W_bAndI, W_bOrI, W_bNotI, W_pAnd, W_pOr, W_pNot, W_pIf, W_pChain, W_iCall, W_iMod, W_ivSeq, W_itSeq, W_ivN, W_itN, W_sNx, W_sBk, W_sCt, W_sIf, W_sAsg, W_sEx, W_sRt, W_sRtN, W_sRtO, W_sAug, W_sTg, W_sFor, W_asB, W_lstOf, W_sSet, W_setK, W_if_t, W_if_f, pO_none, pO_some, pO_int, W_pSl, nLen_lst, nLen_tup, nInt_int, nList_lst, nList_tup, nList_scr, nTuple_lst, nTuple_tup, nIx_lst, nIx_tup, seqOf_lst, seqOf_tup, gRev_eq, gPop_eq, nI2_i, nIc_ok, nCmp_i, nAdd_i, W_some, Option.bind_some, List.getElem?_cons_zero, List.getElem?_cons_succ, List.set_cons_zero, List.set_cons_succ, List.length_cons, List.length_nil, id, Bool.not_true, Bool.not_false, List.length_map, decide_true, decide_false, eq_self, if_true, if_false, Bool.false_eq_true, decide_eq_true_eq, not_true_eq_false, not_false_eq_true, bindT, wipeE, backE, nEq_int, hz]
  subst hK
  refine K_nx (W_seq ?_)
  generalize hK : nxK _ _ = K
  simp only [W_bind, W_map, W_pC, W_pVar, W_iP, W_p1, W_p2, W_i1, W_i2, W_psN, W_psC, W_isN, W_isC, W_pN, W_iN, W_bP, W_bI, W_liftB, W_bAndP, W_bOrP, W_bNotP, W_bAndI, W_bOrI, W_bNotI, W_pAnd, W_pOr, W_pNot, W_pIf, W_pChain, W_iCall, W_iMod, W_ivSeq, W_itSeq, W_ivN, W_itN, W_sNx, W_sBk, W_sCt, W_sIf, W_sAsg, W_sEx, W_sRt, W_sRtN, W_sRtO, W_sAug, W_sTg, W_sFor, W_asB, W_lstOf, W_sSet, W_setK, W_if_t, W_if_f, pO_none, pO_some, pO_int, W_pSl, nLen_lst, nLen_tup, nInt_int, nList_lst, nList_tup, nList_scr, nTuple_lst, nTuple_tup, nIx_lst, nIx_tup, seqOf_lst, seqOf_tup, gRev_eq, gPop_eq, nI2_i, nIc_ok, nCmp_i, nAdd_i, W_some, Option.bind_some, List.getElem?_cons_zero, List.getElem?_cons_succ, List.set_cons_zero, List.set_cons_succ, List.length_cons, List.length_nil, id, Bool.not_true, Bool.not_false, List.length_map, decide_true, decide_false, eq_self, if_true, if_false, Bool.false_eq_true, decide_eq_true_eq, not_true_eq_false, not_false_eq_true, bindT, wipeE, backE, rng1_nat (show (0 : Int) ≤ (l.length : Nat) by omega)]
  refine W_forL (fun _ env => ∃ v, env = [some (TI l), some (.int c), v]) _ 0 _ ⟨_, rfl⟩ ?_ ?_
  · rintro k x env hi ⟨v, rfl⟩
    obtain ⟨hi2, rfl⟩ := get_range hi
    clear hi hK
    have hk : k < l.length := by omega
    have e0 : atI (LI l) (k : Int) = some (.int l[k]) := LI_get (List.getElem?_eq_getElem hk)
    obtain ⟨x0, x1⟩ := hr l[k] (List.getElem_mem hk)
    have n0 : ¬ l[k] < 0 := by omega
    have n1 : ¬ c ≤ l[k] := by omega
    simp only [W_bind, W_map, W_pC, W_pVar, W_iP, W_p1, W_p2, W_i1, W_i2, W_psN, W_psC, W_isN, W_isC, W_pN, W_iN, W_bP, W_bI, W_liftB, W_bAndP, W_bOrP, W_bNotP, W_bAndI, W_bOrI, W_bNotI, W_pAnd, W_pOr, W_pNot, W_pIf, W_pChain, W_iCall, W_iMod, W_ivSeq, W_itSeq, W_ivN, W_itN, W_sNx, W_sBk, W_sCt, W_sIf, W_sAsg, W_sEx, W_sRt, W_sRtN, W_sRtO, W_sAug, W_sTg, W_sFor, W_asB, W_lstOf, W_sSet, W_setK, W_if_t, W_if_f, pO_none, pO_some, pO_int, W_pSl, nLen_lst, nLen_tup, nInt_int, nList_lst, nList_tup, nList_scr, nTuple_lst, nTuple_tup, nIx_lst, nIx_tup, seqOf_lst, seqOf_tup, gRev_eq, gPop_eq, nI2_i, nIc_ok, nCmp_i, nAdd_i, W_some, Option.bind_some, List.getElem?_cons_zero, List.getElem?_cons_succ, List.set_cons_zero, List.set_cons_succ, List.length_cons, List.length_nil, id, Bool.not_true, Bool.not_false, List.length_map, decide_true, decide_false, eq_self, if_true, if_false, Bool.false_eq_true, decide_eq_true_eq, not_true_eq_false, not_false_eq_true, bindT, wipeE, backE, e0, n0, n1]
    by_cases hk0 : (0 : Int) < (k : Int)
    · have e1 : atI (LI l) ((k : Int) - 1) = some (.int l[k - 1]) := by
        have := LI_get (w := l) (k := k - 1) (List.getElem?_eq_getElem (by omega))
        rwa [show ((k - 1 : Nat) : Int) = (k : Int) - 1 by omega] at this
      have n2 : ¬ l[k] ≤ l[k - 1] := by
        have := List.pairwise_iff_getElem.mp hs (k - 1) k (by omega) hk (by omega)
        omega
      simp only [W_bind, W_map, W_pC, W_pVar, W_iP, W_p1, W_p2, W_i1, W_i2, W_psN, W_psC, W_isN, W_isC, W_pN, W_iN, W_bP, W_bI, W_liftB, W_bAndP, W_bOrP, W_bNotP, W_bAndI, W_bOrI, W_bNotI, W_pAnd, W_pOr, W_pNot, W_pIf, W_pChain, W_iCall, W_iMod, W_ivSeq, W_itSeq, W_ivN, W_itN, W_sNx, W_sBk, W_sCt, W_sIf, W_sAsg, W_sEx, W_sRt, W_sRtN, W_sRtO, W_sAug, W_sTg, W_sFor, W_asB, W_lstOf, W_sSet, W_setK, W_if_t, W_if_f, pO_none, pO_some, pO_int, W_pSl, nLen_lst, nLen_tup, nInt_int, nList_lst, nList_tup, nList_scr, nTuple_lst, nTuple_tup, nIx_lst, nIx_tup, seqOf_lst, seqOf_tup, gRev_eq, gPop_eq, nI2_i, nIc_ok, nCmp_i, nAdd_i, W_some, Option.bind_some, List.getElem?_cons_zero, List.getElem?_cons_succ, List.set_cons_zero, List.set_cons_succ, List.length_cons, List.length_nil, id, Bool.not_true, Bool.not_false, List.length_map, decide_true, decide_false, eq_self, if_true, if_false, Bool.false_eq_true, decide_eq_true_eq, not_true_eq_false, not_false_eq_true, bindT, wipeE, backE, e0, e1, hk0, n2]
      exact ⟨_, rfl⟩
    · simp only [W_bind, W_map, W_pC, W_pVar, W_iP, W_p1, W_p2, W_i1, W_i2, W_psN, W_psC, W_isN, W_isC, W_pN, W_iN, W_bP, W_bI, W_liftB, W_bAndP, W_bOrP, W_bNotP, W_bAndI, W_bOrI, W_bNotI, W_pAnd, W_pOr, W_pNot, W_pIf, W_pChain, W_iCall, W_iMod, W_ivSeq, W_itSeq, W_ivN, W_itN, W_sNx, W_sBk, W_sCt, W_sIf, W_sAsg, W_sEx, W_sRt, W_sRtN, W_sRtO, W_sAug, W_sTg, W_sFor, W_asB, W_lstOf, W_sSet, W_setK, W_if_t, W_if_f, pO_none, pO_some, pO_int, W_pSl, nLen_lst, nLen_tup, nInt_int, nList_lst, nList_tup, nList_scr, nTuple_lst, nTuple_tup, nIx_lst, nIx_tup, seqOf_lst, seqOf_tup, gRev_eq, gPop_eq, nI2_i, nIc_ok, nCmp_i, nAdd_i, W_some, Option.bind_some, List.getElem?_cons_zero, List.getElem?_cons_succ, List.set_cons_zero, List.set_cons_succ, List.length_cons, List.length_nil, id, Bool.not_true, Bool.not_false, List.length_map, decide_true, decide_false, eq_self, if_true, if_false, Bool.false_eq_true, decide_eq_true_eq, not_true_eq_false, not_false_eq_true, bindT, wipeE, backE, hk0]
      exact ⟨_, rfl⟩
  · rintro env ⟨v, rfl⟩
    subst hK
    refine K_nx ?_
    simp only [W_bind, W_map, W_pC, W_pVar, W_iP, W_p1, W_p2, W_i1, W_i2, W_psN, W_psC, W_isN, W_isC, W_pN, W_iN, W_bP, W_bI, W_liftB, W_bAndP, W_bOrP, W_bNotP, W_bAndI, W_bOrI, W_bNotI, W_pAnd, W_pOr, W_pNot, W_pIf, W_pChain, W_iCall, W_iMod, W_ivSeq, W_itSeq, W_ivN, W_itN, W_sNx, W_sBk, W_sCt, W_sIf, W_sAsg, W_sEx, W_sRt, W_sRtN, W_sRtO, W_sAug, W_sTg, W_sFor, W_asB, W_lstOf, W_sSet, W_setK, W_if_t, W_if_f, pO_none, pO_some, pO_int, W_pSl, nLen_lst, nLen_tup, nInt_int, nList_lst, nList_tup, nList_scr, nTuple_lst, nTuple_tup, nIx_lst, nIx_tup, seqOf_lst, seqOf_tup, gRev_eq, gPop_eq, nI2_i, nIc_ok, nCmp_i, nAdd_i, W_some, Option.bind_some, List.getElem?_cons_zero, List.getElem?_cons_succ, List.set_cons_zero, List.set_cons_succ, List.length_cons, List.length_nil, id, Bool.not_true, Bool.not_false, List.length_map, decide_true, decide_false, eq_self, if_true, if_false, Bool.false_eq_true, decide_eq_true_eq, not_true_eq_false, not_false_eq_true, bindT, wipeE, backE]
/-- the letters of a whole alphabet -/
def AL (c : Int) (L : List (List Int)) : Prop := 1 ≤ c ∧ c ≤ 4 ∧ 1 ≤ L.length ∧ L.length ≤ 6 ∧ ∀ l ∈ L, GL c l
theorem alphabet_init {c : Int} {L : List (List Int)} (h : AL c L) : C_Alphabet___init__ (.obj 0 []) [.int c, .lst (LT L)] = some (.non, .obj 0 [.int c, .tup (LT L)]) := by
  obtain ⟨c1, c4, l1, l6, hL⟩ := h
  refine of_W (W_run1 rfl ?_)
  show W (sSeq _ _ [some (.obj 0 []), some (.int c), some (.lst (LT L)), none, none]) _
  have m1 : (1 : Int) ≤ (L.length : Nat) := by omega
  have m6 : ((L.length : Nat) : Int) ≤ 6 := by omega
  have ev : ∀ x y z : Int, x ≤ y → y ≤ z → True := fun _ _ _ _ _ => trivial
  refine W_seq ?_
  generalize hK : nxK _ _ = K
  simp only [W_bind, W_map, W_pC, W_pVar, W_iP, W_p1, W_p2, W_i1, W_i2, W_psN, W_psC, W_isN, W_isC, W_pN, W_iN, W_bP, W_bI, W_liftB, W_bAndP, W_bOrP, W_bNotP, W_bAndI, W_bOrI, W_bNotI, W_pAnd, W_pOr, W_pNot, W_pIf, W_pChain, W_iCall, W_iMod, W_ivSeq, W_itSeq, W_ivN, W_itN, W_sNx, W_sBk, W_sCt, W_sIf, W_sAsg, W_sEx, W_sRt, W_sRtN, W_sRtO, W_sAug, W_sTg, W_sFor, W_asB, W_lstOf, W_sSet, W_setK, W_if_t, W_if_f, pO_none, pO_some, pO_int, W_pSl, nLen_lst, nLen_tup, nInt_int, nList_lst, nList_tup, nList_scr, nTuple_lst, nTuple_tup, nIx_lst, nIx_tup, seqOf_lst, seqOf_tup, gRev_eq, gPop_eq, nI2_i, nIc_ok, nCmp_i, nAdd_i, W_some, Option.bind_some, List.getElem?_cons_zero, List.getElem?_cons_succ, List.set_cons_zero, List.set_cons_succ, List.length_cons, List.length_nil, id, Bool.not_true, Bool.not_false, List.length_map, decide_true, decide_false, eq_self, if_true, if_false, Bool.false_eq_true, decide_eq_true_eq, not_true_eq_false, not_false_eq_true, bindT, wipeE, backE, c1, c4, m1, m6]
  subst hK
  refine K_nx (W_seq ?_)
  generalize hK : nxK _ _ = K
  simp only [W_bind, W_map, W_pC, W_pVar, W_iP, W_p1, W_p2, W_i1, W_i2, W_psN, W_psC, W_isN, W_isC, W_pN, W_iN, W_bP, W_bI, W_liftB, W_bAndP, W_bOrP, W_bNotP, W_bAndI, W_bOrI, W_bNotI, W_pAnd, W_pOr, W_pNot, W_pIf, W_pChain, W_iCall, W_iMod, W_ivSeq, W_itSeq, W_ivN, W_itN, W_sNx, W_sBk, W_sCt, W_sIf, W_sAsg, W_sEx, W_sRt, W_sRtN, W_sRtO, W_sAug, W_sTg, W_sFor, W_asB, W_lstOf, W_sSet, W_setK, W_if_t, W_if_f, pO_none, pO_some, pO_int, W_pSl, nLen_lst, nLen_tup, nInt_int, nList_lst, nList_tup, nList_scr, nTuple_lst, nTuple_tup, nIx_lst, nIx_tup, seqOf_lst, seqOf_tup, gRev_eq, gPop_eq, nI2_i, nIc_ok, nCmp_i, nAdd_i, W_some, Option.bind_some, List.getElem?_cons_zero, List.getElem?_cons_succ, List.set_cons_zero, List.set_cons_succ, List.length_cons, List.length_nil, id, Bool.not_true, Bool.not_false, List.length_map, decide_true, decide_false, eq_self, if_true, if_false, Bool.false_eq_true, decide_eq_true_eq, not_true_eq_false, not_false_eq_true, bindT, wipeE, backE]
  refine W_forL (fun _ env => ∃ v, env = [some (.obj 0 []), some (.int c), some (.lst (LT L)), some (.bl true), v]) _ 0 _ ⟨_, rfl⟩ ?_ ?_
  · rintro k x env hi ⟨v, rfl⟩
    obtain ⟨l, hl, rfl⟩ := List.mem_map.mp (List.mem_of_getElem? hi)
    clear hi hK
    simp only [W_bind, W_map, W_pC, W_pVar, W_iP, W_p1, W_p2, W_i1, W_i2, W_psN, W_psC, W_isN, W_isC, W_pN, W_iN, W_bP, W_bI, W_liftB, W_bAndP, W_bOrP, W_bNotP, W_bAndI, W_bOrI, W_bNotI, W_pAnd, W_pOr, W_pNot, W_pIf, W_pChain, W_iCall, W_iMod, W_ivSeq, W_itSeq, W_ivN, W_itN, W_sNx, W_sBk, W_sCt, W_sIf, W_sAsg, W_sEx, W_sRt, W_sRtN, W_sRtO, W_sAug, W_sTg, W_sFor, W_asB, W_lstOf, W_sSet, W_setK, W_if_t, W_if_f, pO_none, pO_some, pO_int, W_pSl, nLen_lst, nLen_tup, nInt_int, nList_lst, nList_tup, nList_scr, nTuple_lst, nTuple_tup, nIx_lst, nIx_tup, seqOf_lst, seqOf_tup, gRev_eq, gPop_eq, nI2_i, nIc_ok, nCmp_i, nAdd_i, W_some, Option.bind_some, List.getElem?_cons_zero, List.getElem?_cons_succ, List.set_cons_zero, List.set_cons_succ, List.length_cons, List.length_nil, id, Bool.not_true, Bool.not_false, List.length_map, decide_true, decide_false, eq_self, if_true, if_false, Bool.false_eq_true, decide_eq_true_eq, not_true_eq_false, not_false_eq_true, bindT, wipeE, backE, fits_spec (hL l hl)]
    exact ⟨_, rfl⟩
  · rintro env ⟨v, rfl⟩
    subst hK
    refine K_nx (W_seq ?_)
    generalize hK : nxK _ _ = K
    simp only [W_bind, W_map, W_pC, W_pVar, W_iP, W_p1, W_p2, W_i1, W_i2, W_psN, W_psC, W_isN, W_isC, W_pN, W_iN, W_bP, W_bI, W_liftB, W_bAndP, W_bOrP, W_bNotP, W_bAndI, W_bOrI, W_bNotI, W_pAnd, W_pOr, W_pNot, W_pIf, W_pChain, W_iCall, W_iMod, W_ivSeq, W_itSeq, W_ivN, W_itN, W_sNx, W_sBk, W_sCt, W_sIf, W_sAsg, W_sEx, W_sRt, W_sRtN, W_sRtO, W_sAug, W_sTg, W_sFor, W_asB, W_lstOf, W_sSet, W_setK, W_if_t, W_if_f, pO_none, pO_some, pO_int, W_pSl, nLen_lst, nLen_tup, nInt_int, nList_lst, nList_tup, nList_scr, nTuple_lst, nTuple_tup, nIx_lst, nIx_tup, seqOf_lst, seqOf_tup, gRev_eq, gPop_eq, nI2_i, nIc_ok, nCmp_i, nAdd_i, W_some, Option.bind_some, List.getElem?_cons_zero, List.getElem?_cons_succ, List.set_cons_zero, List.set_cons_succ, List.length_cons, List.length_nil, id, Bool.not_true, Bool.not_false, List.length_map, decide_true, decide_false, eq_self, if_true, if_false, Bool.false_eq_true, decide_eq_true_eq, not_true_eq_false, not_false_eq_true, bindT, wipeE, backE]
    subst hK
    refine K_nx (W_seq ?_)
    generalize hK : nxK _ _ = K
    simp only [W_bind, W_map, W_pC, W_pVar, W_iP, W_p1, W_p2, W_i1, W_i2, W_psN, W_psC, W_isN, W_isC, W_pN, W_iN, W_bP, W_bI, W_liftB, W_bAndP, W_bOrP, W_bNotP, W_bAndI, W_bOrI, W_bNotI, W_pAnd, W_pOr, W_pNot, W_pIf, W_pChain, W_iCall, W_iMod, W_ivSeq, W_itSeq, W_ivN, W_itN, W_sNx, W_sBk, W_sCt, W_sIf, W_sAsg, W_sEx, W_sRt, W_sRtN, W_sRtO, W_sAug, W_sTg, W_sFor, W_asB, W_lstOf, W_sSet, W_setK, W_if_t, W_if_f, pO_none, pO_some, pO_int, W_pSl, nLen_lst, nLen_tup, nInt_int, nList_lst, nList_tup, nList_scr, nTuple_lst, nTuple_tup, nIx_lst, nIx_tup, seqOf_lst, seqOf_tup, gRev_eq, gPop_eq, nI2_i, nIc_ok, nCmp_i, nAdd_i, W_some, Option.bind_some, List.getElem?_cons_zero, List.getElem?_cons_succ, List.set_cons_zero, List.set_cons_succ, List.length_cons, List.length_nil, id, Bool.not_true, Bool.not_false, List.length_map, decide_true, decide_false, eq_self, if_true, if_false, Bool.false_eq_true, decide_eq_true_eq, not_true_eq_false, not_false_eq_true, bindT, wipeE, backE, W_sFldN]
    refine W_fldK ?_ rfl
    subst hK
    refine K_nx ?_
    simp only [W_bind, W_map, W_pC, W_pVar, W_iP, W_p1, W_p2, W_i1, W_i2, W_psN, W_psC, W_isN, W_isC, W_pN, W_iN, W_bP, W_bI, W_liftB, W_bAndP, W_bOrP, W_bNotP, W_bAndI, W_bOrI, W_bNotI, W_pAnd, W_pOr, W_pNot, W_pIf, W_pChain, W_iCall, W_iMod, W_ivSeq, W_itSeq, W_ivN, W_itN, W_sNx, W_sBk, W_sCt, W_sIf, W_sAsg, W_sEx, W_sRt, W_sRtN, W_sRtO, W_sAug, W_sTg, W_sFor, W_asB, W_lstOf, W_sSet, W_setK, W_if_t, W_if_f, pO_none, pO_some, pO_int, W_pSl, nLen_lst, nLen_tup, nInt_int, nList_lst, nList_tup, nList_scr, nTuple_lst, nTuple_tup, nIx_lst, nIx_tup, seqOf_lst, seqOf_tup, gRev_eq, gPop_eq, nI2_i, nIc_ok, nCmp_i, nAdd_i, W_some, Option.bind_some, List.getElem?_cons_zero, List.getElem?_cons_succ, List.set_cons_zero, List.set_cons_succ, List.length_cons, List.length_nil, id, Bool.not_true, Bool.not_false, List.length_map, decide_true, decide_false, eq_self, if_true, if_false, Bool.false_eq_true, decide_eq_true_eq, not_true_eq_false, not_false_eq_true, bindT, wipeE, backE, W_sFldN, W_pComp]
    refine ⟨size_lt (by omega), W_eq (compP_eq (fun l : List Int => D.tup (LI l)) (fun _ => true) (fun l : List Int => D.tup (LI l)) L fun l hl => ⟨_, rfl, rfl, fun _ => rfl⟩) ?_⟩
    rw [List.filter_eq_self.mpr fun _ _ => rfl]
    refine W_fldK ?_ rfl
    exact ⟨_, rfl, ⟨_, rfl, ⟨_, rfl, rfl⟩⟩⟩
theorem alphabet_mk {c : Int} {L : List (List Int)} (h : AL c L) : mkObj 0 C_Alphabet___init__ [.int c, .lst (LT L)] = some (.obj 0 [.int c, .tup (LT L)]) := by
  unfold mkObj
  rw [alphabet_init h]
  rfl
end Com

set_option maxHeartbeats 4100000
/-! Sh5: slices, repetition, small tools. -/
namespace Com
open PySem L2 T3

abbrev rep (k : Nat) (w : List Int) : List Int := (List.replicate k w).flatten
theorem cut_hi {α : Type} (xs : List α) (n : Nat) : cutL xs none (some (n : Int)) = xs.take n := by
  unfold cutL
  rw [HT.sIx_none, HT.sIx_nat, List.drop_zero, Nat.sub_zero]
  rcases Nat.le_total n xs.length with h | h
  · rw [Nat.min_eq_left h]
  · rw [Nat.min_eq_right h, List.take_length, List.take_of_length_le h]
theorem cut_lo {α : Type} (xs : List α) (n : Nat) : cutL xs (some (n : Int)) none = xs.drop n := by
  unfold cutL
  rw [HT.sIx_none, HT.sIx_nat]
  rcases Nat.le_total n xs.length with h | h
  · rw [Nat.min_eq_left h]
    exact List.take_of_length_le (by rw [List.length_drop]; omega)
  · rw [Nat.min_eq_right h, List.drop_length, List.take_nil, List.drop_of_length_le h]
theorem sl_hi (w : List Int) {n : Int} (h : 0 ≤ n) : nSl (TI w) none (some n) = some (TI (w.take n.toNat)) := by
  have e : n = (n.toNat : Int) := by omega
  show some (D.tup (cutL (LI w) none (some n))) = _
  rw [e, cut_hi]
  show some (D.tup ((List.map D.int w).take _)) = _
  rw [← List.map_take]
  rfl
theorem sl_lo (w : List Int) {n : Int} (h : 0 ≤ n) : nSl (TI w) (some n) none = some (TI (w.drop n.toNat)) := by
  have e : n = (n.toNat : Int) := by omega
  show some (D.tup (cutL (LI w) (some n) none)) = _
  rw [e, cut_lo]
  show some (D.tup ((List.map D.int w).drop _)) = _
  rw [← List.map_drop]
  rfl
theorem LI_flat (k : Nat) (w : List Int) : (List.replicate k (LI w)).flatten = LI (rep k w) := by
  induction k with
  | zero => rfl
  | succ k ih =>
    rw [List.replicate_succ, List.flatten_cons, ih]
    show LI w ++ LI (rep k w) = List.map D.int (List.flatten (List.replicate (k + 1) w))
    rw [List.replicate_succ, List.flatten_cons, List.map_append]
theorem rep_tup (w : List Int) {k : Int} (h0 : -(2 ^ 63) ≤ k) (h1 : k ≤ 1000) (hl : w.length ≤ 1000) : nRepT (TI w) (.int k) = some (TI (rep k.toNat w)) := by
  have : nRepT (TI w) (.int k) = some (.tup (List.replicate k.toNat (LI w)).flatten) := if_pos ⟨h0, h1, by rw [List.length_map]; exact hl⟩
  rw [this, LI_flat]
theorem rep_length (k : Nat) (w : List Int) : (rep k w).length = k * w.length := by
  induction k with
  | zero => simp [rep]
  | succ k ih =>
    show (List.flatten (List.replicate (k + 1) w)).length = _
    rw [List.replicate_succ, List.flatten_cons, List.length_append]
    have : (List.flatten (List.replicate k w)).length = k * w.length := ih
    rw [this, Nat.succ_mul, Nat.add_comm]
theorem rep_mem {k : Nat} {w : List Int} {x : Int} (h : x ∈ rep k w) : x ∈ w := by
  obtain ⟨l, hl, hx⟩ := List.mem_flatten.mp h
  rw [(List.mem_replicate.mp hl).2] at hx
  exact hx
theorem rep_succ (k : Nat) (w : List Int) : rep (k + 1) w = w ++ rep k w := by
  show List.flatten (List.replicate (k + 1) w) = _
  rw [List.replicate_succ, List.flatten_cons]
theorem rep_succ' (k : Nat) (w : List Int) : rep (k + 1) w = rep k w ++ w := by
  induction k with
  | zero => simp [rep]
  | succ k ih => rw [rep_succ, ih, ← List.append_assoc, ← rep_succ, ih]
theorem rep_nil (k : Nat) : rep k [] = [] := by
  induction k with
  | zero => rfl
  | succ k ih => rw [rep_succ, ih]; rfl
theorem cat_TI (a b : List Int) (h : a.length + b.length < 100000) : nAdd (TI a) (TI b) = some (TI (a ++ b)) := by
  rw [show (TI (a ++ b)) = D.tup (LI a ++ LI b) from congrArg D.tup List.map_append]
  exact nCat_tup (by rw [List.length_map, List.length_map]; exact h)
theorem rep_get {t : List Int} : ∀ (m i : Nat), i < m * t.length → (rep m t)[i]? = t[i % t.length]?
  | 0, i, h => by omega
  | m + 1, i, h => by
    rw [rep_succ, List.getElem?_append]
    split
    · rename_i h1
      rw [Nat.mod_eq_of_lt h1]
    · rename_i h1
      rw [Nat.succ_mul] at h
      rw [rep_get m (i - t.length) (by omega), ← Nat.mod_eq_sub_mod (by omega)]
/-- the letter at i of a head and a turn that goes round -/
def lp (h t : List Int) (i : Nat) : Option Int := if i < h.length then h[i]? else t[(i - h.length) % t.length]?
def pre (h t : List Int) (n : Nat) : List (Option Int) := (List.range n).map (lp h t)
theorem lp_per {h t : List Int} {i : Nat} (hi : h.length ≤ i) : lp h t (i + t.length) = lp h t i := by
  unfold lp
  rw [if_neg (by omega), if_neg (by omega), show i + t.length - h.length = i - h.length + t.length by omega, Nat.add_mod_right]
theorem lp_get {h t : List Int} {k i : Nat} (hi : i < (h ++ rep k t).length) : (h ++ rep k t)[i]? = lp h t i := by
  unfold lp
  rw [List.getElem?_append]
  split
  · rfl
  · rw [List.length_append, rep_length] at hi
    exact rep_get k _ (by omega)
theorem take_eq {h0 t0 h1 t1 : List Int} {k0 k1 n : Nat} (l0 : n ≤ (h0 ++ rep k0 t0).length) (l1 : n ≤ (h1 ++ rep k1 t1).length) :
    ((h0 ++ rep k0 t0).take n = (h1 ++ rep k1 t1).take n) ↔ ∀ i, i < n → lp h0 t0 i = lp h1 t1 i := by
  constructor
  · intro e i hi
    have := congrArg (fun l => l[i]?) e
    simp only [List.getElem?_take, if_pos hi] at this
    rwa [lp_get (by omega), lp_get (by omega)] at this
  · intro e
    apply List.ext_getElem?
    intro i
    rw [List.getElem?_take, List.getElem?_take]
    by_cases hi : i < n
    · rw [if_pos hi, if_pos hi, lp_get (by omega), lp_get (by omega)]
      exact e i hi
    · rw [if_neg hi, if_neg hi]
/-- two words that go round agree for ever as soon as they agree for long -/
theorem lp_all {h0 t0 h1 t1 : List Int} (p0 : t0 ≠ []) (p1 : t1 ≠ []) (n : Nat) (hn : max h0.length h1.length + t0.length + t1.length ≤ n) (h : ∀ i, i < n → lp h0 t0 i = lp h1 t1 i) : ∀ i, lp h0 t0 i = lp h1 t1 i := by
  have q0 : 0 < t0.length := List.length_pos_iff.mpr p0
  have q1 : 0 < t1.length := List.length_pos_iff.mpr p1
  intro i
  induction i using Nat.strongRecOn with
  | _ i ih =>
    by_cases hi : i < n
    · exact h i hi
    · have m0 : h0.length ≤ max h0.length h1.length := Nat.le_max_left _ _
      have m1 : h1.length ≤ max h0.length h1.length := Nat.le_max_right _ _
      have a1 : lp h0 t0 i = lp h0 t0 (i - t0.length) := by
        have := lp_per (h := h0) (t := t0) (i := i - t0.length) (by omega)
        rwa [show i - t0.length + t0.length = i by omega] at this
      have a2 : lp h1 t1 i = lp h1 t1 (i - t1.length) := by
        have := lp_per (h := h1) (t := t1) (i := i - t1.length) (by omega)
        rwa [show i - t1.length + t1.length = i by omega] at this
      have a3 : lp h0 t0 (i - t1.length) = lp h0 t0 (i - t1.length - t0.length) := by
        have := lp_per (h := h0) (t := t0) (i := i - t1.length - t0.length) (by omega)
        rwa [show i - t1.length - t0.length + t0.length = i - t1.length by omega] at this
      have a4 : lp h1 t1 (i - t0.length) = lp h1 t1 (i - t0.length - t1.length) := by
        have := lp_per (h := h1) (t := t1) (i := i - t0.length - t1.length) (by omega)
        rwa [show i - t0.length - t1.length + t1.length = i - t0.length by omega] at this
      rw [a1, ih _ (by omega), a4, show i - t0.length - t1.length = i - t1.length - t0.length by omega, ← ih _ (by omega), ← a3, ih _ (by omega), ← a2]
theorem W_compP_nil {t : PB} {e : PF} {bnd : D → T3.Env → Option T3.Env} {env0 : T3.Env} {QL : List D → Prop} : W (compP t e bnd env0 []) QL ↔ QL [] := W_some
theorem W_compP_yes {e : PF} {bnd : D → T3.Env → Option T3.Env} {env0 : T3.Env} {x : D} {xs : List D} {QL : List D → Prop} : W (compP bYes e bnd env0 (x :: xs)) QL ↔ W (bnd x env0) fun e1 => W (e e1) fun y => W (compP bYes e bnd env0 xs) fun ys => QL (y :: ys) := by
  show W ((bnd x env0).bind _) _ ↔ _
  rw [W_bind]
  have : ∀ e1 : T3.Env, ((bYes e1).bind fun b => if b = true then (e e1).bind fun y => (compP bYes e bnd env0 xs).map fun ys => y :: ys else compP bYes e bnd env0 xs) = (e e1).bind fun y => (compP bYes e bnd env0 xs).map fun ys => y :: ys := fun e1 => rfl
  simp only [this, W_bind, W_map]
theorem W_bTup {n : Nat} {bs : List D → T3.Env → Option T3.Env} {ds : List D} {env : T3.Env} {Q : T3.Env → Prop} (h : ds.length = n) : W (bTup n bs (.tup ds) env) Q ↔ W (bs ds env) Q := by
  show W (if ds.length = n then bs ds env else none) Q ↔ _
  rw [if_pos h]
theorem W_bsC {b : D → T3.Env → Option T3.Env} {bs : List D → T3.Env → Option T3.Env} {d : D} {ds : List D} {env : T3.Env} {Q : T3.Env → Prop} : W (bsC b bs (d :: ds) env) Q ↔ W (b d env) fun e => W (bs ds e) Q := W_bind
theorem W_bsN {env : T3.Env} {Q : T3.Env → Prop} : W (bsN [] env) Q ↔ Q env := W_some
theorem W_bNm {i : Nat} {d : D} {env : T3.Env} {Q : T3.Env → Prop} : W (bNm i d env) Q ↔ Q (env.set i (some d)) := W_some
end Com

/-! ShX: running a def's meaning by one simp call. -/
namespace Com
open PySem L2 T3
inductive TQP (_ _ : Prop) : Type | mk
def wIf (b : Bool) (P Q : Prop) (_ : TQP P Q := .mk) : Prop := if b = true then P else Q
def rtK (rk : OT) (Q : D → Prop) (p : Fl × T3.Env) : Prop := match p.1 with | .rt d => Q d | .nx => W (nonOf rk) Q | _ => False
def rtK1 (rk : OT) (Q : D × D → Prop) (p : Fl × T3.Env) : Prop := W (pVar 0 p.2) fun d1 => match p.1 with | .rt d => Q (d, d1) | .nx => W (nonOf rk) (fun d => Q (d, d1)) | _ => False
section
variable {Q : D → Prop} {QI : D × T3.Env → Prop} {QL : List D → Prop} {QLI : List D × T3.Env → Prop} {QB : Bool → Prop} {QBI : Bool × T3.Env → Prop} {QS : Fl × T3.Env → Prop} {Q2 : D × D → Prop} {env : T3.Env} {Inv : T3.Env → Prop}
  {i j n s c : Nat} {d : D} {f fa fb fc : PF} {g ga gb : IF} {fs : PFs} {gs : IFs} {p q : PB} {u v : IB} {op op2 : D → D → Option D} {A B : SS} {P1 P2 : Prop} {b : Bool} {rk : OT}
theorem wIf_t : wIf true P1 P2 ↔ P1 := by unfold wIf; rw [if_pos rfl]
theorem wIf_f : wIf false P1 P2 ↔ P2 := by unfold wIf; rw [if_neg (by decide)]
theorem wIf_not : wIf (!b) P1 P2 ↔ wIf b P2 P1 := by cases b <;> simp [wIf]
theorem wIf_of (h1 : b = true → P1) (h2 : b = false → P2) : wIf b P1 P2 := by
  cases b with
  | true => exact wIf_t.mpr (h1 rfl)
  | false => exact wIf_f.mpr (h2 rfl)
theorem wIf_dec {p : Prop} [Decidable p] (h1 : p → P1) (h2 : ¬ p → P2) : wIf (decide p) P1 P2 := wIf_of (fun h => h1 (of_decide_eq_true h)) (fun h => h2 (of_decide_eq_false h))
theorem W_ite' {α : Type} {x y : Option α} {R : α → Prop} : W (if b = true then x else y) R ↔ wIf b (W x R) (W y R) := by cases b <;> simp [wIf]
theorem x_nx : nxK A QS (.nx, env) ↔ W (A env) QS := Iff.rfl
theorem x_rt : nxK A QS (.rt d, env) ↔ QS (.rt d, env) := Iff.rfl
theorem x_bk : nxK A QS (.bk, env) ↔ QS (.bk, env) := Iff.rfl
theorem x_ct : nxK A QS (.ct, env) ↔ QS (.ct, env) := Iff.rfl
theorem f_nx : flK Inv QS (.nx, env) ↔ Inv env := Iff.rfl
theorem f_ct : flK Inv QS (.ct, env) ↔ Inv env := Iff.rfl
theorem f_bk : flK Inv QS (.bk, env) ↔ QS (.nx, env) := Iff.rfl
theorem f_rt : flK Inv QS (.rt d, env) ↔ QS (.rt d, env) := Iff.rfl
theorem r_rt : rtK rk Q (.rt d, env) ↔ Q d := Iff.rfl
theorem r_nx : rtK .fz Q (.nx, env) ↔ Q .non := W_some
theorem r1_rt : rtK1 rk Q2 (.rt d, env) ↔ W (pVar 0 env) fun d1 => Q2 (d, d1) := Iff.rfl
theorem r1_nx : rtK1 .fz Q2 (.nx, env) ↔ W (pVar 0 env) fun d1 => Q2 (.non, d1) := by
  unfold rtK1
  constructor
  · exact fun h => h.mono fun d1 h => (by obtain ⟨_, e, q⟩ := h; cases e; exact q)
  · exact fun h => h.mono fun d1 h => ⟨_, rfl, h⟩
theorem X_seq : W (sSeq A B env) QS ↔ W (A env) (nxK B QS) := by
  constructor
  · rintro ⟨r, e, q⟩
    unfold sSeq at e
    cases h : A env with
    | none => rw [h] at e; cases e
    | some p =>
      obtain ⟨fl, e1⟩ := p
      rw [h] at e
      refine ⟨_, rfl, ?_⟩
      cases fl with
      | nx => exact ⟨r, e, q⟩
      | _ => cases e; exact q
  · exact W_seq
theorem X_run0 {na : Nat} {ds : List D} (hl : ds.length = na) (h : W (A (startE n ds)) (rtK rk Q)) : W (run0 n na rk A ds) Q := W_run0 hl h
theorem X_run1 {na : Nat} {d0 : D} {ds : List D} (hl : ds.length + 1 = na) (h : W (A (startE n (d0 :: ds))) (rtK1 rk Q2)) : W (run1 n na rk A d0 ds) Q2 := W_run1 hl h
theorem X_v0 {e : T3.Env} : W (pVar 0 (some d :: e)) Q ↔ Q d := W_some
theorem X_vS {o : Option D} {e : T3.Env} : W (pVar (n + 1) (o :: e)) Q ↔ W (pVar n e) Q := Iff.rfl
theorem X_if : W (sIf u A B env) QS ↔ W (u env) fun c => wIf c.1 (W (A c.2) QS) (W (B c.2) QS) := by
  rw [W_sIf]
  constructor
  · exact fun h => h.mono fun c h => W_ite'.mp h
  · exact fun h => h.mono fun c h => W_ite'.mpr h
theorem X_andP : W (bAndP p q env) QB ↔ W (p env) fun c => wIf c (W (q env) QB) (QB false) := by
  rw [W_bAndP]
  constructor
  · exact fun h => h.mono fun c h => by cases c <;> simpa [wIf, W_some] using h
  · exact fun h => h.mono fun c h => by cases c <;> simpa [wIf, W_some] using h
theorem X_orP : W (bOrP p q env) QB ↔ W (p env) fun c => wIf c (QB true) (W (q env) QB) := by
  rw [W_bOrP]
  constructor
  · exact fun h => h.mono fun c h => by cases c <;> simpa [wIf, W_some] using h
  · exact fun h => h.mono fun c h => by cases c <;> simpa [wIf, W_some] using h
theorem X_andI : W (bAndI u v env) QBI ↔ W (u env) fun c => wIf c.1 (W (v c.2) QBI) (QBI (false, c.2)) := by
  rw [W_bAndI]
  constructor
  · exact fun h => h.mono fun c h => by obtain ⟨c, e⟩ := c; cases c <;> simpa [wIf, W_some] using h
  · exact fun h => h.mono fun c h => by obtain ⟨c, e⟩ := c; cases c <;> simpa [wIf, W_some] using h
theorem X_orI : W (bOrI u v env) QBI ↔ W (u env) fun c => wIf c.1 (QBI (true, c.2)) (W (v c.2) QBI) := by
  rw [W_bOrI]
  constructor
  · exact fun h => h.mono fun c h => by obtain ⟨c, e⟩ := c; cases c <;> simpa [wIf, W_some] using h
  · exact fun h => h.mono fun c h => by obtain ⟨c, e⟩ := c; cases c <;> simpa [wIf, W_some] using h
theorem X_pAnd : W (pAnd fa fb env) Q ↔ W (fa env) fun d => W (asB d) fun c => wIf c (W (fb env) Q) (Q (.bl false)) := by
  rw [W_pAnd]
  constructor
  · exact fun h => h.mono fun d h => h.mono fun c h => by cases c <;> simpa [wIf, W_some] using h
  · exact fun h => h.mono fun d h => h.mono fun c h => by cases c <;> simpa [wIf, W_some] using h
theorem X_pOr : W (pOr fa fb env) Q ↔ W (fa env) fun d => W (asB d) fun c => wIf c (Q (.bl true)) (W (fb env) Q) := by
  rw [W_pOr]
  constructor
  · exact fun h => h.mono fun d h => h.mono fun c h => by cases c <;> simpa [wIf, W_some] using h
  · exact fun h => h.mono fun d h => h.mono fun c h => by cases c <;> simpa [wIf, W_some] using h
theorem X_iAnd : W (iAnd ga gb env) QI ↔ W (ga env) fun d => W (asB d.1) fun c => wIf c (W (gb d.2) QI) (QI (.bl false, d.2)) := by
  unfold iAnd
  simp only [W_bind]
  constructor
  · exact fun h => h.mono fun d h => h.mono fun c h => by cases c <;> simpa [wIf, W_some] using h
  · exact fun h => h.mono fun d h => h.mono fun c h => by cases c <;> simpa [wIf, W_some] using h
theorem X_iOr : W (iOr ga gb env) QI ↔ W (ga env) fun d => W (asB d.1) fun c => wIf c (QI (.bl true, d.2)) (W (gb d.2) QI) := by
  unfold iOr
  simp only [W_bind]
  constructor
  · exact fun h => h.mono fun d h => h.mono fun c h => by cases c <;> simpa [wIf, W_some] using h
  · exact fun h => h.mono fun d h => h.mono fun c h => by cases c <;> simpa [wIf, W_some] using h
theorem X_iNot : W (iNot ga env) QI ↔ W (ga env) fun d => W (asB d.1) fun c => QI (.bl (!c), d.2) := by
  unfold iNot
  simp only [W_bind, W_map]
theorem X_pIf : W (pIf p fa fb env) Q ↔ W (p env) fun c => wIf c (W (fa env) Q) (W (fb env) Q) := by
  rw [W_pIf]
  constructor
  · exact fun h => h.mono fun c h => W_ite'.mp h
  · exact fun h => h.mono fun c h => W_ite'.mpr h
theorem X_iIf : W (iIf u ga gb env) QI ↔ W (u env) fun c => wIf c.1 (W (ga c.2) QI) (W (gb c.2) QI) := by
  unfold iIf
  simp only [W_bind]
  constructor
  · exact fun h => h.mono fun c h => W_ite'.mp h
  · exact fun h => h.mono fun c h => W_ite'.mpr h
theorem X_pChain : W (pChain op op2 fa fb fc env) Q ↔ W (fa env) fun x => W (fb env) fun y => W (op x y) fun z => W (asB z) fun c => wIf c (W (fc env) fun w => W (op2 y w) Q) (Q (.bl false)) := by
  rw [W_pChain]
  constructor
  · exact fun h => h.mono fun x h => h.mono fun y h => h.mono fun z h => h.mono fun c h => by cases c <;> simpa [wIf, W_some, W_bind] using h
  · exact fun h => h.mono fun x h => h.mono fun y h => h.mono fun z h => h.mono fun c h => by cases c <;> simpa [wIf, W_some, W_bind] using h
theorem X_sPar : W (sPar i j gs env) QS ↔ W (gs env) fun x => ∃ a b, x.1 = [a, b] ∧ QS (.nx, (x.2.set i (some a)).set j (some b)) := by
  unfold sPar
  rw [W_bind]
  constructor
  · refine fun h => h.mono fun x h => ?_
    obtain ⟨r, e, q⟩ := h
    split at e
    · rename_i x1 a b hx
      cases e
      exact ⟨a, b, hx, q⟩
    · cases e
  · refine fun h => h.mono fun x h => ?_
    obtain ⟨a, b, hx, q⟩ := h
    obtain ⟨x1, x2⟩ := x
    cases hx
    exact W_some.mpr q
theorem X_ex2 {R : D → D → Prop} {a b : D} : (∃ x y, [a, b] = [x, y] ∧ R x y) ↔ R a b := ⟨fun ⟨x, y, e, h⟩ => by cases e; exact h, fun h => ⟨a, b, rfl, h⟩⟩
theorem X_no : W (sNo env) QS ↔ False := W_none
theorem nTupD0 : nTupD [] = some (.tup []) := nTupD_eq (by decide)
theorem nTupD1 {a : D} : nTupD [a] = some (.tup [a]) := nTupD_eq (by simp)
theorem nTupD2 {a b : D} : nTupD [a, b] = some (.tup [a, b]) := nTupD_eq (by simp)
theorem nTupD3 {a b c : D} : nTupD [a, b, c] = some (.tup [a, b, c]) := nTupD_eq (by simp)
theorem nTupD4 {a b c d : D} : nTupD [a, b, c, d] = some (.tup [a, b, c, d]) := nTupD_eq (by simp)
theorem nLstD0 : nLstD [] = some (.lst []) := nLstD_eq (by decide)
theorem nLstD1 {a : D} : nLstD [a] = some (.lst [a]) := nLstD_eq (by simp)
theorem nLstD2 {a b : D} : nLstD [a, b] = some (.lst [a, b]) := nLstD_eq (by simp)
theorem nLstD3 {a b c : D} : nLstD [a, b, c] = some (.lst [a, b, c]) := nLstD_eq (by simp)
theorem nLstD4 {a b c d : D} : nLstD [a, b, c, d] = some (.lst [a, b, c, d]) := nLstD_eq (by simp)
theorem sE {ds : List D} : startE n ds = ds.map some ++ List.replicate (n - ds.length) none := rfl
/-! loops and comprehensions over ints -/
theorem get_LI {l : List Int} {k : Nat} {x : D} (h : (LI l)[k]? = some x) : ∃ a, l[k]? = some a ∧ x = .int a := by
  have h' : (List.map D.int l)[k]? = some x := h
  rw [List.getElem?_map] at h'
  cases e : l[k]? with
  | none => rw [e] at h'; cases h'
  | some a => rw [e] at h'; cases h'; exact ⟨a, rfl, rfl⟩
/-- for k in range(n) -/
theorem W_forR {i : Nat} {n : Nat} {b : SS} (Inv : Nat → T3.Env → Prop) (env : T3.Env) (h0 : Inv 0 env) (hs : ∀ k env, k < n → Inv k env → W (b (env.set i (some (.int (k : Int))))) (flK (Inv (k + 1)) QS)) (hE : ∀ env, Inv n env → QS (.nx, env)) :
    W (forL (bindT (.nm i)) b (LI ((List.range n).map fun (i : Nat) => (i : Int))) env) QS := by
  refine W_forL Inv _ 0 env h0 (fun k x env hx hI => ?_) (fun env hI => hE env ?_)
  · obtain ⟨hk, rfl⟩ := get_range hx
    rw [Nat.zero_add] at hI ⊢
    exact W_some.mpr (hs k env hk hI)
  · rwa [len_range, Nat.zero_add] at hI
/-- for x in l -/
theorem W_forA {α : Type} {i : Nat} {b : SS} (f : α → D) (l : List α) (Inv : Nat → T3.Env → Prop) (env : T3.Env) (h0 : Inv 0 env) (hs : ∀ k a env, l[k]? = some a → Inv k env → W (b (env.set i (some (f a)))) (flK (Inv (k + 1)) QS)) (hE : ∀ env, Inv l.length env → QS (.nx, env)) :
    W (forL (bindT (.nm i)) b (l.map f) env) QS := by
  refine W_forL Inv _ 0 env h0 (fun k x env hx hI => ?_) (fun env hI => hE env ?_)
  · rw [List.getElem?_map] at hx
    cases e : l[k]? with
    | none => rw [e] at hx; cases hx
    | some a =>
      rw [e] at hx
      cases hx
      rw [Nat.zero_add] at hI ⊢
      exact W_some.mpr (hs k a env e hI)
  · rwa [List.length_map, Nat.zero_add] at hI
/-- [g(x) for x in l if p(x)] -/
theorem W_cmp {α : Type} {i : Nat} {t : PB} {e : PF} (f : α → D) (p : α → Bool) (g : α → D) {xs : List α} (h : ∀ x ∈ xs, W (t (env.set i (some (f x)))) (fun c => c = p x) ∧ (p x = true → W (e (env.set i (some (f x)))) (fun d => d = g x))) (q : QL ((xs.filter p).map g)) :
    W (compP t e (bindT (.nm i)) env (xs.map f)) QL :=
  W_eq (compP_eq f p g xs fun x hx => W_some.mpr ⟨of_W (h x hx).1, fun hp => of_W ((h x hx).2 hp)⟩) q
theorem W_cmpM {α : Type} {i : Nat} {e : PF} (f : α → D) (g : α → D) {xs : List α} (h : ∀ x ∈ xs, W (e (env.set i (some (f x)))) (fun d => d = g x)) (q : QL (xs.map g)) :
    W (compP bYes e (bindT (.nm i)) env (xs.map f)) QL :=
  W_cmp f (fun _ => true) g (fun x hx => ⟨W_some.mpr rfl, fun _ => h x hx⟩) (by rwa [List.filter_eq_self.mpr fun _ _ => rfl])
end

/-! more rules -/
section
variable {Q : D → Prop} {QI : D × T3.Env → Prop} {QS : Fl × T3.Env → Prop} {env : T3.Env} {i s : Nat} {g gi gj : IF} {fi fa : PF}
def setD (d0 k y : D) : Option D := match k with
  | .int k => (lstOf d0).bind fun xs => (ixN xs.length k).map fun j => .lst (xs.set j y)
  | _ => none
theorem X_set : W (sSet s g gi env) QS ↔ W (g env) fun p => W (pVar s p.2) fun _ => W (gi p.2) fun q => W (pVar s q.2) fun d0 => W (setD d0 q.1 p.1) fun y => QS (.nx, q.2.set s (some y)) := by
  rw [W_sSet]
  have key : ∀ (p q : D × T3.Env), W (setK s p.1 q) QS ↔ W (pVar s q.2) fun d0 => W (setD d0 q.1 p.1) fun y => QS (.nx, q.2.set s (some y)) := by
    intro p q
    obtain ⟨d, e⟩ := q
    cases d <;> simp only [setK, setD, W_bind, W_map] <;> (try rfl) <;> exact ⟨fun h => (W_none.mp h).elim, fun ⟨_, _, h⟩ => (W_none.mp h).elim⟩
  exact ⟨fun h => h.mono fun p h => h.mono fun _ h => h.mono fun q h => (key p q).mp h, fun h => h.mono fun p h => h.mono fun _ h => h.mono fun q h => (key p q).mpr h⟩
def app2 (d0 a x : D) : Option D := match a with
  | .int k => (lstOf d0).bind fun xs => (ixN xs.length k).bind fun i => (xs[i]?).bind fun row => (lstOf row).bind fun ys => if ys.length < sizeLine then some (.lst (xs.set i (.lst (ys ++ [x])))) else none
  | _ => none
theorem X_app2 : W (sApp2 s fi fa env) QS ↔ W (pVar s env) fun d0 => W (fi env) fun a => W (fa env) fun x => W (app2 d0 a x) fun y => QS (.nx, env.set s (some y)) := by
  unfold sApp2
  simp only [W_bind]
  have key : ∀ (d0 a x : D), W (match a with
  | .int k => (lstOf d0).bind fun xs => (ixN xs.length k).bind fun i => (xs[i]?).bind fun row => (lstOf row).bind fun ys => if ys.length < sizeLine then some (Fl.nx, env.set s (some (.lst (xs.set i (.lst (ys ++ [x])))))) else none
  | _ => none) QS ↔ W (app2 d0 a x) fun y => QS (.nx, env.set s (some y)) := by
    intro d0 a x
    cases a <;> simp only [app2, W_bind] <;> (try exact ⟨fun h => (W_none.mp h).elim, fun h => (W_none.mp h).elim⟩)
    constructor
    · exact fun h => h.mono fun xs h => h.mono fun i h => h.mono fun row h => h.mono fun ys h => by
        split at h
        · rename_i hs; rw [if_pos hs]; exact W_some.mpr (by obtain ⟨_, e, q⟩ := h; cases e; exact q)
        · exact (W_none.mp h).elim
    · exact fun h => h.mono fun xs h => h.mono fun i h => h.mono fun row h => h.mono fun ys h => by
        split at h
        · rename_i hs; rw [if_pos hs]; exact W_some.mpr (by obtain ⟨_, e, q⟩ := h; cases e; exact q)
        · exact (W_none.mp h).elim
  exact ⟨fun h => h.mono fun d0 h => h.mono fun a h => h.mono fun x h => (key d0 a x).mp h, fun h => h.mono fun d0 h => h.mono fun a h => h.mono fun x h => (key d0 a x).mpr h⟩
def appD (d0 y : D) : Option D := (lstOf d0).bind fun xs => if xs.length < sizeLine then some (.lst (xs ++ [y])) else none
theorem X_appK : W (iAppK i g env) QI ↔ W (pVar i env) fun _ => W (g env) fun p => W (pVar i p.2) fun d0 => W (appD d0 p.1) fun y => QI (.non, p.2.set i (some y)) := by
  unfold iAppK appD
  simp only [W_bind]
  constructor
  · exact fun h => h.mono fun _ h => h.mono fun p h => h.mono fun d0 h => h.mono fun xs h => by
      split at h
      · rename_i hs; rw [if_pos hs]; exact W_some.mpr (by obtain ⟨_, e, q⟩ := h; cases e; exact q)
      · exact (W_none.mp h).elim
  · exact fun h => h.mono fun _ h => h.mono fun p h => h.mono fun d0 h => h.mono fun xs h => by
      split at h
      · rename_i hs; rw [if_pos hs]; exact W_some.mpr (by obtain ⟨_, e, q⟩ := h; cases e; exact q)
      · exact (W_none.mp h).elim
theorem X_whl {c : IB} {b : SS} : W (sWh c b env) QS ↔ W (whL c b fuel env) QS := Iff.rfl
theorem appD_eq {xs : List D} {y : D} (h : xs.length < sizeLine) : appD (.lst xs) y = some (.lst (xs ++ [y])) := if_pos h
theorem ixN_nat {n k : Nat} (h : k < n) : ixN n (k : Int) = some k := by
  unfold ixN
  rw [if_pos (by omega), if_pos (by omega)]
  rfl
theorem setD_LI {l : List Int} {k : Nat} {v : Int} (h : k < l.length) : setD (.lst (LI l)) (.int (k : Int)) (.int v) = some (.lst (LI (l.set k v))) := by
  have e : (ixN (LI l).length (k : Int)) = some k := ixN_nat (by rwa [List.length_map])
  show ((ixN (LI l).length (k : Int)).map _) = _
  rw [e]
  show some (D.lst ((LI l).set k (.int v))) = _
  rw [LI_set]
theorem X_fld {c j : Nat} {fs : List D} : nFld c j (.obj c fs) = fs[j]? := if_pos rfl
theorem rngN {n : Nat} (h : n < 1000000) : rng1 [.int (n : Int)] = some (LI ((List.range n).map fun (i : Nat) => (i : Int))) := by
  have := rng1_nat (k := (n : Int)) (by omega) (by omega)
  rwa [Int.toNat_natCast] at this
theorem rep_flat (v : Int) : ∀ n : Nat, (List.replicate n [D.int v]).flatten = LI (List.replicate n v)
  | 0 => rfl
  | n + 1 => by
    rw [List.replicate_succ, List.flatten_cons, rep_flat v n]
    show _ = List.map D.int (List.replicate (n + 1) v)
    rw [List.replicate_succ, List.map_cons]
    rfl
theorem repL0 (c v : Int) (h0 : 0 ≤ c) (h1 : c < 100000) : nRepL (.lst [.int v]) (.int c) = some (.lst (LI (List.replicate c.toNat v))) := by
  have : nRepL (.lst [.int v]) (.int c) = some (.lst (List.replicate c.toNat [D.int v]).flatten) := if_pos ⟨by omega, by omega, size_le (by simp; omega)⟩
  rw [this, rep_flat]
theorem repL1 {n : Nat} {v : Int} (h : n < 100000) : nRepL (.lst [.int v]) (.int (n : Int)) = some (.lst (LI (List.replicate n v))) := by
  have := repL0 (n : Int) v (by omega) (by omega)
  rwa [Int.toNat_natCast] at this
theorem max2 {i j : Int} : nMax2 [.int i, .int j] = some (.int (max i j)) := by
  show some (D.int (if j > i then j else i)) = _
  congr 2
  by_cases h : j > i
  · rw [if_pos h]; omega
  · rw [if_neg h]; omega
theorem min2 {i j : Int} : nMin2 [.int i, .int j] = some (.int (min i j)) := by
  show some (D.int (if j < i then j else i)) = _
  congr 2
  by_cases h : j < i
  · rw [if_pos h]; omega
  · rw [if_neg h]; omega
end
theorem isi_int_int (i : Int) : nIsi .int (D.int i) = some (.bl true) := rfl
theorem isi_int_bl (b : Bool) : nIsi .int (D.bl b) = some (.bl true) := rfl
theorem isi_int_tup (xs : List D) : nIsi .int (D.tup xs) = some (.bl false) := rfl
theorem isi_int_lst (xs : List D) : nIsi .int (D.lst xs) = some (.bl false) := rfl
theorem isi_int_non : nIsi .int (D.non ) = some (.bl false) := rfl
theorem isi_int_str (x : Str) : nIsi .int (D.str x) = some (.bl false) := rfl
theorem isi_bool_int (i : Int) : nIsi .bool (D.int i) = some (.bl false) := rfl
theorem isi_bool_bl (b : Bool) : nIsi .bool (D.bl b) = some (.bl true) := rfl
theorem isi_bool_tup (xs : List D) : nIsi .bool (D.tup xs) = some (.bl false) := rfl
theorem isi_bool_lst (xs : List D) : nIsi .bool (D.lst xs) = some (.bl false) := rfl
theorem isi_bool_non : nIsi .bool (D.non ) = some (.bl false) := rfl
theorem isi_bool_str (x : Str) : nIsi .bool (D.str x) = some (.bl false) := rfl
theorem isi_tuple_int (i : Int) : nIsi .tuple (D.int i) = some (.bl false) := rfl
theorem isi_tuple_bl (b : Bool) : nIsi .tuple (D.bl b) = some (.bl false) := rfl
theorem isi_tuple_tup (xs : List D) : nIsi .tuple (D.tup xs) = some (.bl true) := rfl
theorem isi_tuple_lst (xs : List D) : nIsi .tuple (D.lst xs) = some (.bl false) := rfl
theorem isi_tuple_non : nIsi .tuple (D.non ) = some (.bl false) := rfl
theorem isi_tuple_str (x : Str) : nIsi .tuple (D.str x) = some (.bl false) := rfl
theorem isi_list_int (i : Int) : nIsi .list (D.int i) = some (.bl false) := rfl
theorem isi_list_bl (b : Bool) : nIsi .list (D.bl b) = some (.bl false) := rfl
theorem isi_list_tup (xs : List D) : nIsi .list (D.tup xs) = some (.bl false) := rfl
theorem isi_list_lst (xs : List D) : nIsi .list (D.lst xs) = some (.bl true) := rfl
theorem isi_list_non : nIsi .list (D.non ) = some (.bl false) := rfl
theorem isi_list_str (x : Str) : nIsi .list (D.str x) = some (.bl false) := rfl
theorem isi_str_int (i : Int) : nIsi .str (D.int i) = some (.bl false) := rfl
theorem isi_str_bl (b : Bool) : nIsi .str (D.bl b) = some (.bl false) := rfl
theorem isi_str_tup (xs : List D) : nIsi .str (D.tup xs) = some (.bl false) := rfl
theorem isi_str_lst (xs : List D) : nIsi .str (D.lst xs) = some (.bl false) := rfl
theorem isi_str_non : nIsi .str (D.non ) = some (.bl false) := rfl
theorem isi_str_str (x : Str) : nIsi .str (D.str x) = some (.bl true) := rfl
theorem isN_non {x : D} : nIsN x .non = some (.bl (isNonD x)) := rfl
theorem notN_non {x : D} : nNotN x .non = some (.bl (!isNonD x)) := rfl
theorem nonD_non : isNonD .non = true := rfl
theorem nonD_int (i : Int) : isNonD (.int i) = false := rfl
theorem nonD_bl (i : Bool) : isNonD (.bl i) = false := rfl
theorem nonD_tup (i : List D) : isNonD (.tup i) = false := rfl
theorem nonD_lst (i : List D) : isNonD (.lst i) = false := rfl
theorem nonD_str (i : Str) : isNonD (.str i) = false := rfl
end Com

/-! ShZ: the same laws over Z: simp leaves what comes after alone. -/
namespace Com
open PySem L2 T3
inductive TQ {α : Type} (_ : α → Prop) : Type | mk
inductive TQn (_ : SS) (_ : Fl × T3.Env → Prop) : Type | mk
inductive TQl (_ : T3.Env → Prop) (_ : Fl × T3.Env → Prop) : Type | mk
def Z {α : Type} (x : Option α) (Q : α → Prop) (_ : TQ Q := .mk) : Prop := W x Q
def nxZ (g : SS) (Q : Fl × T3.Env → Prop) (p : Fl × T3.Env) (_ : TQn g Q := .mk) : Prop := nxK g Q p
def flZ (I : T3.Env → Prop) (Q : Fl × T3.Env → Prop) (p : Fl × T3.Env) (_ : TQl I Q := .mk) : Prop := flK I Q p
def rtZ (rk : OT) (Q : D → Prop) (p : Fl × T3.Env) (_ : TQ Q := .mk) : Prop := rtK rk Q p
def rtZ1 (rk : OT) (Q : D × D → Prop) (p : Fl × T3.Env) (_ : TQ Q := .mk) : Prop := rtK1 rk Q p
section
variable {Q : D → Prop} {QI : D × T3.Env → Prop} {QL : List D → Prop} {QLI : List D × T3.Env → Prop} {QB : Bool → Prop} {QBI : Bool × T3.Env → Prop} {QS : Fl × T3.Env → Prop} {Q2 : D × D → Prop} {env : T3.Env} {Inv : T3.Env → Prop}
  {i j n s c : Nat} {d : D} {f fa fb fc : PF} {g ga gb : IF} {fs : PFs} {gs : IFs} {p q : PB} {u v : IB} {op op2 : D → D → Option D} {A B : SS} {P1 P2 : Prop} {b : Bool} {rk : OT}
theorem Z_seq : Z (sSeq A B env) QS ↔ Z (A env) (nxZ B QS) := X_seq
theorem Z_v0 {e : T3.Env} : Z (pVar 0 (some d :: e)) Q ↔ Q d := X_v0
theorem Z_vS {o : Option D} {e : T3.Env} : Z (pVar (n + 1) (o :: e)) Q ↔ Z (pVar n e) Q := X_vS
theorem Z_andP : Z (bAndP p q env) QB ↔ Z (p env) fun c => wIf c (Z (q env) QB) (QB false) := X_andP
theorem Z_orP : Z (bOrP p q env) QB ↔ Z (p env) fun c => wIf c (QB true) (Z (q env) QB) := X_orP
theorem Z_andI : Z (bAndI u v env) QBI ↔ Z (u env) fun c => wIf c.1 (Z (v c.2) QBI) (QBI (false, c.2)) := X_andI
theorem Z_orI : Z (bOrI u v env) QBI ↔ Z (u env) fun c => wIf c.1 (QBI (true, c.2)) (Z (v c.2) QBI) := X_orI
theorem Z_pAnd : Z (pAnd fa fb env) Q ↔ Z (fa env) fun d => Z (asB d) fun c => wIf c (Z (fb env) Q) (Q (.bl false)) := X_pAnd
theorem Z_pOr : Z (pOr fa fb env) Q ↔ Z (fa env) fun d => Z (asB d) fun c => wIf c (Q (.bl true)) (Z (fb env) Q) := X_pOr
theorem Z_iAnd : Z (iAnd ga gb env) QI ↔ Z (ga env) fun d => Z (asB d.1) fun c => wIf c (Z (gb d.2) QI) (QI (.bl false, d.2)) := X_iAnd
theorem Z_iOr : Z (iOr ga gb env) QI ↔ Z (ga env) fun d => Z (asB d.1) fun c => wIf c (QI (.bl true, d.2)) (Z (gb d.2) QI) := X_iOr
theorem Z_iNot : Z (iNot ga env) QI ↔ Z (ga env) fun d => Z (asB d.1) fun c => QI (.bl (!c), d.2) := X_iNot
theorem Z_pIf : Z (pIf p fa fb env) Q ↔ Z (p env) fun c => wIf c (Z (fa env) Q) (Z (fb env) Q) := X_pIf
theorem Z_iIf : Z (iIf u ga gb env) QI ↔ Z (u env) fun c => wIf c.1 (Z (ga c.2) QI) (Z (gb c.2) QI) := X_iIf
theorem Z_pChain : Z (pChain op op2 fa fb fc env) Q ↔ Z (fa env) fun x => Z (fb env) fun y => Z (op x y) fun z => Z (asB z) fun c => wIf c (Z (fc env) fun w => Z (op2 y w) Q) (Q (.bl false)) := X_pChain
theorem Z_if : Z (sIf u A B env) QS ↔ Z (u env) fun c => wIf c.1 (Z (A c.2) QS) (Z (B c.2) QS) := X_if
theorem Z_sPar : Z (sPar i j gs env) QS ↔ Z (gs env) fun x => ∃ a b, x.1 = [a, b] ∧ QS (.nx, (x.2.set i (some a)).set j (some b)) := X_sPar
theorem Z_no : Z (sNo env) QS ↔ False := X_no
theorem Z_ite' {α : Type} {x y : Option α} {R : α → Prop} : Z (if b = true then x else y) R ↔ wIf b (Z x R) (Z y R) := W_ite'
theorem Zx_nx : nxZ A QS (.nx, env) ↔ Z (A env) QS := x_nx
theorem Zx_rt : nxZ A QS (.rt d, env) ↔ QS (.rt d, env) := x_rt
theorem Zx_bk : nxZ A QS (.bk, env) ↔ QS (.bk, env) := x_bk
theorem Zx_ct : nxZ A QS (.ct, env) ↔ QS (.ct, env) := x_ct
theorem Zf_nx : flZ Inv QS (.nx, env) ↔ Inv env := f_nx
theorem Zf_ct : flZ Inv QS (.ct, env) ↔ Inv env := f_ct
theorem Zf_bk : flZ Inv QS (.bk, env) ↔ QS (.nx, env) := f_bk
theorem Zf_rt : flZ Inv QS (.rt d, env) ↔ QS (.rt d, env) := f_rt
theorem Zr_rt : rtZ rk Q (.rt d, env) ↔ Q d := r_rt
theorem Zr_nx : rtZ .fz Q (.nx, env) ↔ Q .non := r_nx
theorem Zr1_rt : rtZ1 rk Q2 (.rt d, env) ↔ Z (pVar 0 env) fun d1 => Q2 (d, d1) := r1_rt
theorem Zr1_nx : rtZ1 .fz Q2 (.nx, env) ↔ Z (pVar 0 env) fun d1 => Q2 (.non, d1) := r1_nx
end
section
variable {α : Type} {Q : D → Prop} {QI : D × T3.Env → Prop} {QL : List D → Prop} {QLI : List D × T3.Env → Prop} {QB : Bool → Prop} {QBI : Bool × T3.Env → Prop} {QS : Fl × T3.Env → Prop} {env : T3.Env}
  {i j n s c : Nat} {d : D} {f fa fb fc : PF} {g ga gb : IF} {fs : PFs} {gs : IFs} {p q : PB} {u v : IB} {op op2 : D → D → Option D} {o1 : D → Option D} {oN : List D → Option D} {G1 : D → List D → Option (D × D)} {gm : List D → List D → Option (D × List D)} {A B : SS} {bnd : D → T3.Env → Option T3.Env} {t : Tg} {rg : List D → Option (List D)}
theorem Z_pC : Z (pC d env) Q ↔ Q d := W_pC
theorem Z_iP : Z (iP f env) QI ↔ Z (f env) fun d => QI (d, env) := W_iP
theorem Z_p1 : Z (p1 o1 f env) Q ↔ Z (f env) fun x => Z (o1 x) Q := W_p1
theorem Z_p2 : Z (p2 op fa fb env) Q ↔ Z (fa env) fun x => Z (fb env) fun y => Z (op x y) Q := W_p2
theorem Z_i1 : Z (i1 o1 g env) QI ↔ Z (g env) fun x => Z (o1 x.1) fun d => QI (d, x.2) := W_i1
theorem Z_i2 : Z (i2 op ga gb env) QI ↔ Z (ga env) fun x => Z (gb x.2) fun y => Z (op x.1 y.1) fun d => QI (d, y.2) := W_i2
theorem Z_psN : Z (psN env) QL ↔ QL [] := W_psN
theorem Z_psC : Z (psC f fs env) QL ↔ Z (f env) fun d => Z (fs env) fun ds => QL (d :: ds) := W_psC
theorem Z_isN : Z (isN env) QLI ↔ QLI ([], env) := W_isN
theorem Z_isC : Z (isC g gs env) QLI ↔ Z (g env) fun x => Z (gs x.2) fun y => QLI (x.1 :: y.1, y.2) := W_isC
theorem Z_pN : Z (pN oN fs env) Q ↔ Z (fs env) fun ds => Z (oN ds) Q := W_pN
theorem Z_iN : Z (iN oN gs env) QI ↔ Z (gs env) fun x => Z (oN x.1) fun d => QI (d, x.2) := W_iN
theorem Z_bP : Z (bP f env) QB ↔ Z (f env) fun d => Z (asB d) QB := W_bP
theorem Z_bI : Z (bI g env) QBI ↔ Z (g env) fun x => Z (asB x.1) fun b => QBI (b, x.2) := W_bI
theorem Z_liftB : Z (liftB p env) QBI ↔ Z (p env) fun b => QBI (b, env) := W_liftB
theorem Z_bNotP : Z (bNotP p env) QB ↔ Z (p env) fun c => QB (!c) := W_bNotP
theorem Z_bNotI : Z (bNotI u env) QBI ↔ Z (u env) fun c => QBI (!c.1, c.2) := W_bNotI
theorem Z_pNot : Z (pNot fa env) Q ↔ Z (fa env) fun d => Z (asB d) fun c => Q (.bl (!c)) := W_pNot
theorem Z_iCall : Z (iCall i G1 gs env) QI ↔ Z (pVar i env) fun _ => Z (gs env) fun x => Z (pVar i x.2) fun d0 => Z (G1 d0 x.1) fun q => QI (q.1, x.2.set i (some q.2)) := W_iCall
theorem Z_iMod : Z (iMod i gm gs env) QI ↔ Z (pVar i env) fun _ => Z (gs env) fun x => Z (pVar i x.2) fun d0 => Z (lstOf d0) fun xs => Z (gm xs x.1) fun q => QI (q.1, x.2.set i (some (.lst q.2))) := W_iMod
theorem Z_ivSeq : Z (ivSeq f env) QL ↔ Z (f env) fun d => Z (seqOf d) QL := W_ivSeq
theorem Z_itSeq : Z (itSeq g env) QLI ↔ Z (g env) fun x => Z (seqOf x.1) fun xs => QLI (xs, x.2) := W_itSeq
theorem Z_ivN : Z (ivN rg fs env) QL ↔ Z (fs env) fun ds => Z (rg ds) QL := W_ivN
theorem Z_itN : Z (itN rg gs env) QLI ↔ Z (gs env) fun x => Z (rg x.1) fun xs => QLI (xs, x.2) := W_itN
theorem Z_sNx : Z (sNx env) QS ↔ QS (.nx, env) := W_sNx
theorem Z_sBk : Z (sBk env) QS ↔ QS (.bk, env) := W_sBk
theorem Z_sCt : Z (sCt env) QS ↔ QS (.ct, env) := W_sCt
theorem Z_sAsg : Z (sAsg i g env) QS ↔ Z (g env) fun x => QS (.nx, x.2.set i (some x.1)) := W_sAsg
theorem Z_sEx : Z (sEx g env) QS ↔ Z (g env) fun x => QS (.nx, x.2) := W_sEx
theorem Z_sRt : Z (sRt g env) QS ↔ Z (g env) fun x => QS (.rt x.1, x.2) := W_sRt
theorem Z_sRtN : Z (sRtN env) QS ↔ QS (.rt .non, env) := W_sRtN
theorem Z_sRtO : Z (sRtO i env) QS ↔ Z (pVar i env) fun d => QS (.rt d, env.set i none) := W_sRtO
theorem Z_sAug : Z (sAug op i g env) QS ↔ Z (pVar i env) fun x => Z (g env) fun y => Z (op x y.1) fun z => QS (.nx, y.2.set i (some z)) := W_sAug
theorem Z_sTg : Z (sTg bnd g env) QS ↔ Z (g env) fun x => Z (bnd x.1 x.2) fun e => QS (.nx, e) := W_sTg
theorem Z_sFor : Z (sFor gs t A env) QS ↔ Z (gs env) fun x => Z (forL (bindT t) A x.1 x.2) QS := W_sFor
theorem Z_asB {b : Bool} {QB : Bool → Prop} : Z (asB (.bl b)) QB ↔ QB b := W_asB
theorem Z_lstOf {xs : List D} {QL : List D → Prop} : Z (lstOf (.lst xs)) QL ↔ QL xs := W_lstOf
theorem Z_pComp {own : List Nat} {p : PB} {e : PF} : Z (pComp fs own t p e env) Q ↔ Z (fs env) fun xs => xs.length < sizeLine ∧ Z (compP p e (bindT t) (wipeE env own) xs) fun ys => Q (.lst ys) := W_pComp
theorem Z_iComp {own : List Nat} {p : IB} {e : IF} : Z (iComp gs own t p e env) QI ↔ Z (gs env) fun x => x.1.length < sizeLine ∧ Z (compI p e (bindT t) own x.1 x.2) fun q => QI (.lst q.1, backE q.2 env own) := W_iComp
theorem Z_pSl {op : D → Option Int → Option Int → Option D} {lo hi : Option PF} : Z (pSl op f lo hi env) Q ↔ Z (f env) fun x => Z (pO lo env) fun l => Z (pO hi env) fun h => Z (op x l h) Q := W_pSl
theorem ZpO_some {QO : Option Int → Prop} : Z (pO (some f) env) QO ↔ Z (f env) fun d => Z (asI d) QO := pO_some
theorem ZpO_int {i : Int} {QO : Option Int → Prop} : Z (asI (.int i)) QO ↔ QO (some i) := pO_int
end
section
variable {Q : D → Prop} {QI : D × T3.Env → Prop} {QS : Fl × T3.Env → Prop} {env : T3.Env} {i s : Nat} {g gi gj : IF} {fi fa : PF}
theorem Z_set : Z (sSet s g gi env) QS ↔ Z (g env) fun p => Z (pVar s p.2) fun _ => Z (gi p.2) fun q => Z (pVar s q.2) fun d0 => Z (setD d0 q.1 p.1) fun y => QS (.nx, q.2.set s (some y)) := X_set
theorem Z_app2 : Z (sApp2 s fi fa env) QS ↔ Z (pVar s env) fun d0 => Z (fi env) fun a => Z (fa env) fun x => Z (app2 d0 a x) fun y => QS (.nx, env.set s (some y)) := X_app2
theorem Z_appK : Z (iAppK i g env) QI ↔ Z (pVar i env) fun _ => Z (g env) fun p => Z (pVar i p.2) fun d0 => Z (appD d0 p.1) fun y => QI (.non, p.2.set i (some y)) := X_appK
theorem Z_whl {c : IB} {b : SS} : Z (sWh c b env) QS ↔ Z (whL c b fuel env) QS := X_whl
end
section
variable {α β : Type} {Q : α → Prop}
theorem Z_some {a : α} : Z (some a) Q ↔ Q a := W_some
theorem Z_map {x : Option β} {f : β → α} : Z (x.map f) Q ↔ Z x fun r => Q (f r) := W_map
end
section

theorem Z_bTup {n : Nat} {bs : List D → T3.Env → Option T3.Env} {ds : List D} {env : T3.Env} {Q : T3.Env → Prop} (h : ds.length = n) : Z (bTup n bs (.tup ds) env) Q ↔ Z (bs ds env) Q := W_bTup h
theorem Z_bsC {b : D → T3.Env → Option T3.Env} {bs : List D → T3.Env → Option T3.Env} {d : D} {ds : List D} {env : T3.Env} {Q : T3.Env → Prop} : Z (bsC b bs (d :: ds) env) Q ↔ Z (b d env) fun e => Z (bs ds e) Q := W_bsC
theorem Z_bsN {env : T3.Env} {Q : T3.Env → Prop} : Z (bsN [] env) Q ↔ Q env := W_bsN
theorem Z_bNm {i : Nat} {d : D} {env : T3.Env} {Q : T3.Env → Prop} : Z (bNm i d env) Q ↔ Q (env.set i (some d)) := W_bNm
end
section
variable {α : Type} {Q : D → Prop} {QI : D × T3.Env → Prop} {QL : List D → Prop} {QS : Fl × T3.Env → Prop} {Q2 : D × D → Prop} {env : T3.Env} {n na i : Nat} {rk : OT} {A b : SS} {t : PB} {e : PF} {ds : List D} {d0 : D}
theorem Z.mono {x : Option α} {Q Q' : α → Prop} (h : Z x Q) (i : ∀ r, Q r → Q' r) : Z x Q' := W.mono h i
theorem Z_eq {x : Option α} {Q : α → Prop} {r : α} (e : x = some r) (q : Q r) : Z x Q := ⟨r, e, q⟩
theorem Z_ofW {x : Option α} {Q : α → Prop} (h : W x Q) : Z x Q := h
theorem of_Z {x : Option α} {r : α} (h : Z x fun z => z = r) : x = some r := of_W h
theorem Z_run0 (hl : ds.length = na) (h : Z (A (startE n ds)) (rtZ rk Q)) : Z (run0 n na rk A ds) Q := X_run0 hl h
theorem Z_run1 (hl : ds.length + 1 = na) (h : Z (A (startE n (d0 :: ds))) (rtZ1 rk Q2)) : Z (run1 n na rk A d0 ds) Q2 := X_run1 hl h
theorem Z_run0W {Q : D → Prop} (hl : ds.length = na) (h : Z (A (startE n ds)) (rtZ rk Q)) : W (run0 n na rk A ds) Q := X_run0 hl h
theorem Z_run1W {Q2 : D × D → Prop} (hl : ds.length + 1 = na) (h : Z (A (startE n (d0 :: ds))) (rtZ1 rk Q2)) : W (run1 n na rk A d0 ds) Q2 := X_run1 hl h
theorem Z_run {d : D} (hl : ds.length = na) (h : Z (A (startE n ds)) (rtZ rk fun r => r = d)) : run0 n na rk A ds = some d := run0_of (X_run0 hl h)
theorem Z_forL {bnd : D → T3.Env → Option T3.Env} (Inv : Nat → T3.Env → Prop) (xs : List D) (env : T3.Env) (h0 : Inv 0 env) (hs : ∀ i x env, xs[i]? = some x → Inv i env → Z (bnd x env) fun env1 => Z (b env1) (flZ (Inv (i + 1)) QS)) (hE : ∀ env, Inv xs.length env → QS (.nx, env)) : Z (forL bnd b xs env) QS :=
  W_forL Inv xs 0 env h0 (fun i x env h hI => by rw [Nat.zero_add] at hI ⊢; exact hs i x env h hI) fun env hI => hE env (by rwa [Nat.zero_add] at hI)
theorem Z_forR {n : Nat} (Inv : Nat → T3.Env → Prop) (env : T3.Env) (h0 : Inv 0 env) (hs : ∀ k env, k < n → Inv k env → Z (b (env.set i (some (.int (k : Int))))) (flZ (Inv (k + 1)) QS)) (hE : ∀ env, Inv n env → QS (.nx, env)) :
    Z (forL (bindT (.nm i)) b (LI ((List.range n).map fun (i : Nat) => (i : Int))) env) QS := W_forR Inv env h0 hs hE
theorem Z_forA (f : α → D) (l : List α) (Inv : Nat → T3.Env → Prop) (env : T3.Env) (h0 : Inv 0 env) (hs : ∀ k a env, l[k]? = some a → Inv k env → Z (b (env.set i (some (f a)))) (flZ (Inv (k + 1)) QS)) (hE : ∀ env, Inv l.length env → QS (.nx, env)) :
    Z (forL (bindT (.nm i)) b (l.map f) env) QS := W_forA f l Inv env h0 hs hE
theorem Z_whL {c : IB} {fu : Nat} (Inv : Nat → T3.Env → Prop) (n : Nat) (env : T3.Env) (hn : n < fu) (h0 : Inv n env) (h : ∀ n env, Inv n env → Z (c env) fun t => wIf t.1 (Z (b t.2) (flZ (fun env' => ∃ n', n' < n ∧ Inv n' env') QS)) (QS (.nx, t.2))) : Z (whL c b fu env) QS :=
  W_whL Inv (fun n env hI => W.mono (h n env hI) fun t h => by
    by_cases e : t.1 = true
    · rw [if_pos e]; unfold wIf at h; rw [if_pos e] at h; exact h
    · rw [if_neg e]; unfold wIf at h; rw [if_neg e] at h; exact h) fu n env hn h0
theorem Z_cmp {i : Nat} (f : α → D) (p : α → Bool) (g : α → D) {xs : List α} (h : ∀ x ∈ xs, Z (t (env.set i (some (f x)))) (fun c => c = p x) ∧ (p x = true → Z (e (env.set i (some (f x)))) (fun d => d = g x))) (q : QL ((xs.filter p).map g)) :
    Z (compP t e (bindT (.nm i)) env (xs.map f)) QL := W_cmp f p g h q
theorem Z_cmpM {i : Nat} (f : α → D) (g : α → D) {xs : List α} (h : ∀ x ∈ xs, Z (e (env.set i (some (f x)))) (fun d => d = g x)) (q : QL (xs.map g)) :
    Z (compP bYes e (bindT (.nm i)) env (xs.map f)) QL := W_cmpM f g h q
section
variable {bnd : D → T3.Env → Option T3.Env} {own : List Nat} {x : D} {xs : List D} {QLI : List D × T3.Env → Prop} {ti : IB} {ei : IF}
theorem Z_forL_nil : Z (forL bnd b [] env) QS ↔ QS (.nx, env) := Z_some
theorem Z_forL_cons : Z (forL bnd b (x :: xs) env) QS ↔ Z (bnd x env) fun e1 => Z (b e1) (flZ (fun e => Z (forL bnd b xs e) QS) QS) := by
  show W (forL bnd b (x :: xs) env) QS ↔ W (bnd x env) fun e1 => W (b e1) (flK (fun e => W (forL bnd b xs e) QS) QS)
  rw [forL, W_bind]
  constructor
  · refine fun h => h.mono fun e1 h => ?_
    rw [W_bind] at h
    refine h.mono fun p h => ?_
    obtain ⟨fl, e2⟩ := p
    cases fl with
    | nx => exact h
    | ct => exact h
    | bk => obtain ⟨_, e, q⟩ := h; cases e; exact q
    | rt d => obtain ⟨_, e, q⟩ := h; cases e; exact q
  · refine fun h => h.mono fun e1 h => ?_
    rw [W_bind]
    refine h.mono fun p h => ?_
    obtain ⟨fl, e2⟩ := p
    cases fl with
    | nx => exact h
    | ct => exact h
    | bk => exact ⟨_, rfl, h⟩
    | rt d => exact ⟨_, rfl, h⟩
theorem Z_compP_nil {bnd : D → T3.Env → Option T3.Env} : Z (compP t e bnd env []) QL ↔ QL [] := Z_some
theorem Z_compP_cons : Z (compP t e bnd env (x :: xs)) QL ↔ Z (bnd x env) fun e1 => Z (t e1) fun c => wIf c (Z (e e1) fun y => Z (compP t e bnd env xs) fun ys => QL (y :: ys)) (Z (compP t e bnd env xs) QL) := by
  show W (compP t e bnd env (x :: xs)) QL ↔ W (bnd x env) fun e1 => W (t e1) fun c => wIf c (W (e e1) fun y => W (compP t e bnd env xs) fun ys => QL (y :: ys)) (W (compP t e bnd env xs) QL)
  rw [compP, W_bind]
  constructor
  · refine fun h => h.mono fun e1 h => ?_
    rw [W_bind] at h
    refine h.mono fun c h => ?_
    cases c with
    | true => rw [if_pos rfl, W_bind] at h; exact wIf_t.mpr (h.mono fun y h => W_map.mp h)
    | false => rw [if_neg (by decide)] at h; exact wIf_f.mpr h
  · refine fun h => h.mono fun e1 h => ?_
    rw [W_bind]
    refine h.mono fun c h => ?_
    cases c with
    | true => rw [if_pos rfl, W_bind]; exact (wIf_t.mp h).mono fun y h => W_map.mpr h
    | false => rw [if_neg (by decide)]; exact wIf_f.mp h
theorem Z_compI_nil : Z (compI ti ei bnd own [] env) QLI ↔ QLI ([], env) := Z_some
theorem Z_compI_cons : Z (compI ti ei bnd own (x :: xs) env) QLI ↔ Z (bnd x (wipeE env own)) fun e1 => Z (ti e1) fun c => wIf c.1 (Z (ei c.2) fun y => Z (compI ti ei bnd own xs y.2) fun q => QLI (y.1 :: q.1, q.2)) (Z (compI ti ei bnd own xs c.2) QLI) := by
  show W (compI ti ei bnd own (x :: xs) env) QLI ↔ W (bnd x (wipeE env own)) fun e1 => W (ti e1) fun c => wIf c.1 (W (ei c.2) fun y => W (compI ti ei bnd own xs y.2) fun q => QLI (y.1 :: q.1, q.2)) (W (compI ti ei bnd own xs c.2) QLI)
  rw [compI, W_bind]
  constructor
  · refine fun h => h.mono fun e1 h => ?_
    rw [W_bind] at h
    refine h.mono fun c h => ?_
    obtain ⟨c, e2⟩ := c
    cases c with
    | true => rw [if_pos rfl, W_bind] at h; exact wIf_t.mpr (h.mono fun y h => W_map.mp h)
    | false => rw [if_neg Bool.false_ne_true] at h; exact wIf_f.mpr h
  · refine fun h => h.mono fun e1 h => ?_
    rw [W_bind]
    refine h.mono fun c h => ?_
    obtain ⟨c, e2⟩ := c
    cases c with
    | true => rw [if_pos rfl, W_bind]; exact (wIf_t.mp h).mono fun y h => W_map.mpr h
    | false => rw [if_neg Bool.false_ne_true]; exact wIf_f.mp h
theorem wIf_join {c : Bool} {A B : SS} {e1 e2 : T3.Env} {K : Fl × T3.Env → Prop} (P : T3.Env → Prop) (h1 : c = true → Z (A e1) fun p => p.1 = .nx ∧ P p.2) (h2 : c = false → Z (B e2) fun p => p.1 = .nx ∧ P p.2) (h : ∀ e, P e → K (.nx, e)) : wIf c (Z (A e1) K) (Z (B e2) K) :=
  wIf_of (fun hc => (h1 hc).mono fun p hp => by obtain ⟨f, e⟩ := p; obtain ⟨rfl, hp⟩ := hp; exact h e hp) (fun hc => (h2 hc).mono fun p hp => by obtain ⟨f, e⟩ := p; obtain ⟨rfl, hp⟩ := hp; exact h e hp)
theorem Z_bYes {QB : Bool → Prop} : Z (bYes env) QB ↔ QB true := Z_some
theorem Z_iYes {QBI : Bool × T3.Env → Prop} : Z (iYes env) QBI ↔ QBI (true, env) := Z_some
end
end
end Com

set_option maxHeartbeats 4100000
/-! Sh6: plain laws of sorted lists, of dependence, of masks. -/
namespace Com
open PySem L2 T3
def mx (l : List Int) : Int := l.foldr max 0
theorem mx_le {l : List Int} {c : Int} : mx l ≤ c ↔ 0 ≤ c ∧ ∀ x ∈ l, x ≤ c := by
  induction l with
  | nil => simp [mx]
  | cons a l ih =>
    have : mx (a :: l) = max a (mx l) := rfl
    rw [this, Int.max_le, ih]
    constructor
    · rintro ⟨h1, h2, h3⟩
      refine ⟨h2, fun x hx => ?_⟩
      rcases List.mem_cons.mp hx with rfl | hx
      · exact h1
      · exact h3 x hx
    · rintro ⟨h1, h2⟩
      exact ⟨h2 a List.mem_cons_self, h1, fun x hx => h2 x (List.mem_cons_of_mem _ hx)⟩
theorem mx_nn (l : List Int) : 0 ≤ mx l := (mx_le.mp (Int.le_refl (mx l))).1
theorem le_mx {l : List Int} {x : Int} (h : x ∈ l) : x ≤ mx l := (mx_le.mp (Int.le_refl (mx l))).2 x h
theorem mx_mem (l : List Int) : mx l = 0 ∨ mx l ∈ l := by
  induction l with
  | nil => exact .inl rfl
  | cons a l ih =>
    have e : mx (a :: l) = max a (mx l) := rfl
    have : max a (mx l) = a ∨ max a (mx l) = mx l := by omega
    rcases this with h | h
    · rw [e, h]; exact .inr List.mem_cons_self
    · rw [e, h]
      rcases ih with h2 | h2
      · exact .inl h2
      · exact .inr (List.mem_cons_of_mem _ h2)
theorem mx_app (l : List Int) (x : Int) (hx : 0 ≤ x) : mx (l ++ [x]) = max (mx l) x := by
  apply Int.le_antisymm
  · rw [mx_le]
    have := mx_nn l
    refine ⟨by omega, fun y hy => ?_⟩
    rcases List.mem_append.mp hy with h | h
    · have := le_mx h; omega
    · rw [List.mem_singleton.mp h]; omega
  · have h1 : mx l ≤ mx (l ++ [x]) := mx_le.mpr ⟨mx_nn _, fun y hy => le_mx (List.mem_append_left _ hy)⟩
    have h2 : x ≤ mx (l ++ [x]) := le_mx (List.mem_append_right _ (List.mem_singleton.mpr rfl))
    omega
/-! ### sorted lists -/
theorem lt_ext : ∀ {a b : List Int}, a.Pairwise (· < ·) → b.Pairwise (· < ·) → (∀ x, x ∈ a ↔ x ∈ b) → a = b
  | [], [], _, _, _ => rfl
  | [], y :: b, _, _, h => by have := (h y).mpr List.mem_cons_self; cases this
  | x :: a, [], _, _, h => by have := (h x).mp List.mem_cons_self; cases this
  | x :: a, y :: b, ha, hb, h => by
    rw [List.pairwise_cons] at ha hb
    have e : x = y := by
      have h1 := (h x).mp List.mem_cons_self
      have h2 := (h y).mpr List.mem_cons_self
      rcases List.mem_cons.mp h1 with e | h1
      · exact e
      · rcases List.mem_cons.mp h2 with e | h2
        · exact e.symm
        · have := ha.1 y h2
          have := hb.1 x h1
          omega
    subst e
    rw [lt_ext ha.2 hb.2 fun z => ?_]
    constructor
    · intro hz
      rcases List.mem_cons.mp ((h z).mp (List.mem_cons_of_mem _ hz)) with e | h1
      · have := ha.1 z hz; omega
      · exact h1
    · intro hz
      rcases List.mem_cons.mp ((h z).mpr (List.mem_cons_of_mem _ hz)) with e | h1
      · have := hb.1 z hz; omega
      · exact h1
theorem isI_mem {l : List Int} {x : Int} : x ∈ isI l ↔ x ∈ l := (isI_perm l).mem_iff
theorem isI_lt {l : List Int} (h : l.Nodup) : (isI l).Pairwise (· < ·) := by
  have h1 := isI_sorted l
  have h2 : (isI l).Nodup := (isI_perm l).nodup_iff.mpr h
  exact (h1.and h2).imp fun ⟨a, b⟩ => by omega
theorem sortU_isI {l : List Int} (h : l.Nodup) : sortU (isI l) = isI l :=
  lt_ext (sortU_lt _) (isI_lt h) fun x => sortU_mem _ _
theorem isI_perm_eq {l l' : List Int} (h : l.Nodup) (p : l.Perm l') : isI l = isI l' :=
  lt_ext (isI_lt h) (isI_lt (p.nodup_iff.mp h)) fun x => by rw [isI_mem, isI_mem, p.mem_iff]
theorem perm_one {l l' : List Int} (p : l.Perm l') (h : l.length ≤ 1) : l = l' := by
  match l, h with
  | [], _ => exact (List.nil_perm.mp p).symm
  | [a], _ => exact List.singleton_perm.mp p
theorem indep_comm {L : List (List Int)} {a b : Int} (h : indep L a b = true) : indep L b a = true := by
  rw [indep_iff] at h ⊢
  exact fun p hp hq => h p hq hp
theorem indep_self {L : List (List Int)} {a : Int} (h : lt L a ≠ []) : indep L a a = false := by
  cases e : indep L a a with
  | false => rfl
  | true =>
    obtain ⟨p, hp⟩ := List.exists_mem_of_ne_nil _ h
    exact absurd hp (indep_iff.mp e p hp)
theorem dep_of {L : List (List Int)} {a b p : Int} (h1 : p ∈ lt L a) (h2 : p ∈ lt L b) : indep L a b = false := by
  cases e : indep L a b with
  | false => rfl
  | true => exact absurd h2 (indep_iff.mp e p h1)
theorem dep_place {L : List (List Int)} {a b : Int} (h : indep L a b = false) : ∃ p, p ∈ lt L a ∧ p ∈ lt L b := by
  apply Classical.byContradiction
  intro hne
  have : indep L a b = true := indep_iff.mpr fun p hp hq => hne ⟨p, hp, hq⟩
  rw [this] at h
  cases h
/-- all letters -/
def lets (n : Nat) : List Int := (List.range n).map fun (i : Nat) => (i : Int)
theorem mem_lets {n : Nat} {x : Int} : x ∈ lets n ↔ 0 ≤ x ∧ x < (n : Int) := by
  unfold lets
  rw [List.mem_map]
  constructor
  · rintro ⟨i, hi, rfl⟩
    have := List.mem_range.mp hi
    omega
  · rintro ⟨h0, h1⟩
    exact ⟨x.toNat, List.mem_range.mpr (by omega), by omega⟩
/-! ### masks -/
def maskN (p : Nat → Bool) : Nat → Nat
  | 0 => 0
  | k + 1 => if p k = true then maskN p k ||| 2 ^ k else maskN p k
theorem maskN_bit (p : Nat → Bool) (o : Nat) : ∀ k, (maskN p k).testBit o = (decide (o < k) && p o)
  | 0 => by simp [maskN]
  | k + 1 => by
    unfold maskN
    by_cases h : p k = true
    · rw [if_pos h, Nat.testBit_or, maskN_bit p o k, Nat.testBit_two_pow]
      by_cases e : o = k
      · subst e; simp [h]
      · have e' : ¬ k = o := fun x => e x.symm
        have : (o < k + 1) ↔ o < k := by omega
        simp [e', this]
    · rw [if_neg h, maskN_bit p o k]
      by_cases e : o = k
      · subst e; simp [h]
      · have : (o < k + 1) ↔ o < k := by omega
        simp [this]
theorem or_pow (M k : Nat) : Builtin.bitOr (M : Int) (1 * 2 ^ (k : Int).toNat) = ((M ||| 2 ^ k : Nat) : Int) := by
  have e : (1 : Int) * 2 ^ (k : Int).toNat = ((2 ^ k : Nat) : Int) := by
    rw [Int.one_mul, Int.toNat_natCast, PySem.W.kbt_cast]
  rw [e, bitOr_nn (Int.natCast_nonneg _) (Int.natCast_nonneg _), Int.toNat_natCast, Int.toNat_natCast]
theorem bit_test (M k : Nat) : decide (Builtin.bitAnd ((M : Int) / 2 ^ (k : Int).toNat) 1 = 1) = M.testBit k := by
  have e1 : ∀ x : Int, Builtin.bitAnd x 1 = x % 2 := fun x => PySem.W.kbt_mask x 1
  rw [Int.toNat_natCast, e1, ← PySem.W.kbt_cast, Nat.testBit_eq_decide_div_mod_eq]
  apply Bool.eq_iff_iff.mpr
  rw [decide_eq_true_iff, decide_eq_true_iff]
  have : (M : Int) / ((2 ^ k : Nat) : Int) % 2 = ((M / 2 ^ k % 2 : Nat) : Int) := by simp
  rw [this]
  omega
end Com

set_option maxHeartbeats 4100000
/-! Sh7: what more shared functions answer. -/
namespace Com
open PySem L2 T3
abbrev OB (c : Int) (L : List (List Int)) : D := .obj 0 [.int c, .tup (LT L)]
theorem lets_range {n k : Nat} (h : k < n) : 0 ≤ (k : Int) ∧ (k : Int) < (n : Nat) := by omega
theorem independent_spec {L : List (List Int)} {c a b : Int} (ha : 0 ≤ a ∧ a < (L.length : Nat)) (hb : 0 ≤ b ∧ b < (L.length : Nat)) : C_independent [OB c L, .int a, .int b] = some (.bl (indep L a b)) := by
  have g1 := atI_LT ha.1 ha.2
  have g2 := atI_LT hb.1 hb.2
  refine Z_run rfl ?_
  simp -dsimp only [↓Z_seq, ↓Z_pC, ↓Z_v0, ↓Z_vS, ↓Z_iP, ↓Z_p1, ↓Z_p2, ↓Z_i1, ↓Z_i2, ↓Z_psN, ↓Z_psC, ↓Z_isN, ↓Z_isC, ↓Z_pN, ↓Z_iN, ↓Z_bP, ↓Z_bI, ↓Z_liftB, ↓Z_andP, ↓Z_orP, ↓Z_bNotP, ↓Z_andI, ↓Z_orI, ↓Z_bNotI, ↓Z_pAnd, ↓Z_pOr, ↓Z_pNot, ↓Z_iAnd, ↓Z_iOr, ↓Z_iNot, ↓Z_pIf, ↓Z_iIf, ↓Z_pChain, ↓Z_iCall, ↓Z_iMod, ↓Z_ivSeq, ↓Z_itSeq, ↓Z_ivN, ↓Z_itN, ↓Z_sNx, ↓Z_sBk, ↓Z_sCt, ↓Z_if, ↓Z_sAsg, ↓Z_sEx, ↓Z_sRt, ↓Z_sRtN, ↓Z_sRtO, ↓Z_sAug, ↓Z_sTg, ↓Z_sFor, ↓Z_asB, ↓Z_lstOf, ↓Z_set, ↓Z_app2, ↓Z_appK, ↓Z_sPar, X_ex2, ↓Z_whl, ↓Z_no, ↓Z_ite', ↓Z_some, Z_map, ↓Z_pComp, ↓Z_iComp, ↓Z_pSl, pO_none, ↓ZpO_some, ZpO_int, Zx_nx, Zx_rt, Zx_bk, Zx_ct, Zf_nx, Zf_ct, Zf_bk, Zf_rt, Zr_rt, Zr_nx, Zr1_rt, Zr1_nx, wIf_t, wIf_f, wIf_not, sE, List.map_cons, List.map_nil, List.replicate_succ, List.replicate_zero, List.cons_append, List.nil_append, Nat.reduceSub, Nat.reduceAdd, nLen_lst, nLen_tup, nInt_int, nList_lst, nList_tup, nList_scr, nTuple_lst, nTuple_tup, nIx_lst, nIx_tup, seqOf_lst, seqOf_tup, gRev_eq, gPop_eq, nI2_i, nIc_ok, nCmp_i, nAdd_i, nEq_int, nNe_int, nEq_bl, nNe_bl, nEq_TI, nNe_TI, nEq_LI, nNe_LI, nIn_TI, nIn_LI, X_fld, max2, min2, nTupD0, nTupD1, nTupD2, nTupD3, nTupD4, nLstD0, nLstD1, nLstD2, nLstD3, nLstD4, isi_int_int, isi_int_bl, isi_int_tup, isi_int_lst, isi_int_non, isi_int_str, isi_bool_int, isi_bool_bl, isi_bool_tup, isi_bool_lst, isi_bool_non, isi_bool_str, isi_tuple_int, isi_tuple_bl, isi_tuple_tup, isi_tuple_lst, isi_tuple_non, isi_tuple_str, isi_list_int, isi_list_bl, isi_list_tup, isi_list_lst, isi_list_non, isi_list_str, isi_str_int, isi_str_bl, isi_str_tup, isi_str_lst, isi_str_non, isi_str_str, isN_non, notN_non, nonD_non, nonD_int, nonD_bl, nonD_tup, nonD_lst, nonD_str, Z_bTup, Z_bsC, Z_bsN, Z_bNm, Option.bind_some, Option.map_some, List.getElem?_cons_zero, List.getElem?_cons_succ, List.set_cons_zero, List.set_cons_succ, List.length_cons, List.length_nil, id, Bool.not_true, Bool.not_false, List.length_map, List.length_set, decide_true, decide_false, eq_self, if_true, if_false, Bool.false_eq_true, decide_eq_true_eq, not_true_eq_false, not_false_eq_true, true_and, and_true, Int.cast_ofNat_Int, Int.reduceLT, Int.reduceLE, Int.reduceEq, bindT, wipeE, backE, Z_seq, Z_pC, Z_v0, Z_vS, Z_iP, Z_p1, Z_p2, Z_i1, Z_i2, Z_psN, Z_psC, Z_isN, Z_isC, Z_pN, Z_iN, Z_bP, Z_bI, Z_liftB, Z_andP, Z_orP, Z_bNotP, Z_andI, Z_orI, Z_bNotI, Z_pAnd, Z_pOr, Z_pNot, Z_iAnd, Z_iOr, Z_iNot, Z_pIf, Z_iIf, Z_pChain, Z_iCall, Z_iMod, Z_ivSeq, Z_itSeq, Z_ivN, Z_itN, Z_sNx, Z_sBk, Z_sCt, Z_if, Z_sAsg, Z_sEx, Z_sRt, Z_sRtN, Z_sRtO, Z_sAug, Z_sTg, Z_sFor, Z_asB, Z_lstOf, Z_set, Z_app2, Z_appK, Z_sPar, Z_whl, Z_no, Z_ite', Z_some, Z_pComp, Z_iComp, Z_pSl, ZpO_some, ↓Z_forL_nil, ↓Z_forL_cons, ↓Z_compP_nil, ↓Z_compP_cons, ↓Z_compI_nil, ↓Z_compI_cons, ↓Z_bYes, ↓Z_iYes, Z_forL_nil, Z_forL_cons, Z_compP_nil, Z_compP_cons, Z_compI_nil, Z_compI_cons, s_independent, g1]
  refine Z_forA D.int (lt L a) (fun i env => (∀ p ∈ (lt L a).take i, p ∉ lt L b) ∧ ∃ v, env = [some (OB c L), some (.int a), some (.int b), v]) _ ⟨by simp, _, rfl⟩ ?_ ?_
  · rintro k p env hp ⟨hall, v, rfl⟩
    simp -dsimp only [↓Z_seq, ↓Z_pC, ↓Z_v0, ↓Z_vS, ↓Z_iP, ↓Z_p1, ↓Z_p2, ↓Z_i1, ↓Z_i2, ↓Z_psN, ↓Z_psC, ↓Z_isN, ↓Z_isC, ↓Z_pN, ↓Z_iN, ↓Z_bP, ↓Z_bI, ↓Z_liftB, ↓Z_andP, ↓Z_orP, ↓Z_bNotP, ↓Z_andI, ↓Z_orI, ↓Z_bNotI, ↓Z_pAnd, ↓Z_pOr, ↓Z_pNot, ↓Z_iAnd, ↓Z_iOr, ↓Z_iNot, ↓Z_pIf, ↓Z_iIf, ↓Z_pChain, ↓Z_iCall, ↓Z_iMod, ↓Z_ivSeq, ↓Z_itSeq, ↓Z_ivN, ↓Z_itN, ↓Z_sNx, ↓Z_sBk, ↓Z_sCt, ↓Z_if, ↓Z_sAsg, ↓Z_sEx, ↓Z_sRt, ↓Z_sRtN, ↓Z_sRtO, ↓Z_sAug, ↓Z_sTg, ↓Z_sFor, ↓Z_asB, ↓Z_lstOf, ↓Z_set, ↓Z_app2, ↓Z_appK, ↓Z_sPar, X_ex2, ↓Z_whl, ↓Z_no, ↓Z_ite', ↓Z_some, Z_map, ↓Z_pComp, ↓Z_iComp, ↓Z_pSl, pO_none, ↓ZpO_some, ZpO_int, Zx_nx, Zx_rt, Zx_bk, Zx_ct, Zf_nx, Zf_ct, Zf_bk, Zf_rt, Zr_rt, Zr_nx, Zr1_rt, Zr1_nx, wIf_t, wIf_f, wIf_not, sE, List.map_cons, List.map_nil, List.replicate_succ, List.replicate_zero, List.cons_append, List.nil_append, Nat.reduceSub, Nat.reduceAdd, nLen_lst, nLen_tup, nInt_int, nList_lst, nList_tup, nList_scr, nTuple_lst, nTuple_tup, nIx_lst, nIx_tup, seqOf_lst, seqOf_tup, gRev_eq, gPop_eq, nI2_i, nIc_ok, nCmp_i, nAdd_i, nEq_int, nNe_int, nEq_bl, nNe_bl, nEq_TI, nNe_TI, nEq_LI, nNe_LI, nIn_TI, nIn_LI, X_fld, max2, min2, nTupD0, nTupD1, nTupD2, nTupD3, nTupD4, nLstD0, nLstD1, nLstD2, nLstD3, nLstD4, isi_int_int, isi_int_bl, isi_int_tup, isi_int_lst, isi_int_non, isi_int_str, isi_bool_int, isi_bool_bl, isi_bool_tup, isi_bool_lst, isi_bool_non, isi_bool_str, isi_tuple_int, isi_tuple_bl, isi_tuple_tup, isi_tuple_lst, isi_tuple_non, isi_tuple_str, isi_list_int, isi_list_bl, isi_list_tup, isi_list_lst, isi_list_non, isi_list_str, isi_str_int, isi_str_bl, isi_str_tup, isi_str_lst, isi_str_non, isi_str_str, isN_non, notN_non, nonD_non, nonD_int, nonD_bl, nonD_tup, nonD_lst, nonD_str, Z_bTup, Z_bsC, Z_bsN, Z_bNm, Option.bind_some, Option.map_some, List.getElem?_cons_zero, List.getElem?_cons_succ, List.set_cons_zero, List.set_cons_succ, List.length_cons, List.length_nil, id, Bool.not_true, Bool.not_false, List.length_map, List.length_set, decide_true, decide_false, eq_self, if_true, if_false, Bool.false_eq_true, decide_eq_true_eq, not_true_eq_false, not_false_eq_true, true_and, and_true, Int.cast_ofNat_Int, Int.reduceLT, Int.reduceLE, Int.reduceEq, bindT, wipeE, backE, Z_seq, Z_pC, Z_v0, Z_vS, Z_iP, Z_p1, Z_p2, Z_i1, Z_i2, Z_psN, Z_psC, Z_isN, Z_isC, Z_pN, Z_iN, Z_bP, Z_bI, Z_liftB, Z_andP, Z_orP, Z_bNotP, Z_andI, Z_orI, Z_bNotI, Z_pAnd, Z_pOr, Z_pNot, Z_iAnd, Z_iOr, Z_iNot, Z_pIf, Z_iIf, Z_pChain, Z_iCall, Z_iMod, Z_ivSeq, Z_itSeq, Z_ivN, Z_itN, Z_sNx, Z_sBk, Z_sCt, Z_if, Z_sAsg, Z_sEx, Z_sRt, Z_sRtN, Z_sRtO, Z_sAug, Z_sTg, Z_sFor, Z_asB, Z_lstOf, Z_set, Z_app2, Z_appK, Z_sPar, Z_whl, Z_no, Z_ite', Z_some, Z_pComp, Z_iComp, Z_pSl, ZpO_some, ↓Z_forL_nil, ↓Z_forL_cons, ↓Z_compP_nil, ↓Z_compP_cons, ↓Z_compI_nil, ↓Z_compI_cons, ↓Z_bYes, ↓Z_iYes, Z_forL_nil, Z_forL_cons, Z_compP_nil, Z_compP_cons, Z_compI_nil, Z_compI_cons, g2]
    refine wIf_dec (fun h => ?_) (fun h => ?_)
    · simp -dsimp only [↓Z_seq, ↓Z_pC, ↓Z_v0, ↓Z_vS, ↓Z_iP, ↓Z_p1, ↓Z_p2, ↓Z_i1, ↓Z_i2, ↓Z_psN, ↓Z_psC, ↓Z_isN, ↓Z_isC, ↓Z_pN, ↓Z_iN, ↓Z_bP, ↓Z_bI, ↓Z_liftB, ↓Z_andP, ↓Z_orP, ↓Z_bNotP, ↓Z_andI, ↓Z_orI, ↓Z_bNotI, ↓Z_pAnd, ↓Z_pOr, ↓Z_pNot, ↓Z_iAnd, ↓Z_iOr, ↓Z_iNot, ↓Z_pIf, ↓Z_iIf, ↓Z_pChain, ↓Z_iCall, ↓Z_iMod, ↓Z_ivSeq, ↓Z_itSeq, ↓Z_ivN, ↓Z_itN, ↓Z_sNx, ↓Z_sBk, ↓Z_sCt, ↓Z_if, ↓Z_sAsg, ↓Z_sEx, ↓Z_sRt, ↓Z_sRtN, ↓Z_sRtO, ↓Z_sAug, ↓Z_sTg, ↓Z_sFor, ↓Z_asB, ↓Z_lstOf, ↓Z_set, ↓Z_app2, ↓Z_appK, ↓Z_sPar, X_ex2, ↓Z_whl, ↓Z_no, ↓Z_ite', ↓Z_some, Z_map, ↓Z_pComp, ↓Z_iComp, ↓Z_pSl, pO_none, ↓ZpO_some, ZpO_int, Zx_nx, Zx_rt, Zx_bk, Zx_ct, Zf_nx, Zf_ct, Zf_bk, Zf_rt, Zr_rt, Zr_nx, Zr1_rt, Zr1_nx, wIf_t, wIf_f, wIf_not, sE, List.map_cons, List.map_nil, List.replicate_succ, List.replicate_zero, List.cons_append, List.nil_append, Nat.reduceSub, Nat.reduceAdd, nLen_lst, nLen_tup, nInt_int, nList_lst, nList_tup, nList_scr, nTuple_lst, nTuple_tup, nIx_lst, nIx_tup, seqOf_lst, seqOf_tup, gRev_eq, gPop_eq, nI2_i, nIc_ok, nCmp_i, nAdd_i, nEq_int, nNe_int, nEq_bl, nNe_bl, nEq_TI, nNe_TI, nEq_LI, nNe_LI, nIn_TI, nIn_LI, X_fld, max2, min2, nTupD0, nTupD1, nTupD2, nTupD3, nTupD4, nLstD0, nLstD1, nLstD2, nLstD3, nLstD4, isi_int_int, isi_int_bl, isi_int_tup, isi_int_lst, isi_int_non, isi_int_str, isi_bool_int, isi_bool_bl, isi_bool_tup, isi_bool_lst, isi_bool_non, isi_bool_str, isi_tuple_int, isi_tuple_bl, isi_tuple_tup, isi_tuple_lst, isi_tuple_non, isi_tuple_str, isi_list_int, isi_list_bl, isi_list_tup, isi_list_lst, isi_list_non, isi_list_str, isi_str_int, isi_str_bl, isi_str_tup, isi_str_lst, isi_str_non, isi_str_str, isN_non, notN_non, nonD_non, nonD_int, nonD_bl, nonD_tup, nonD_lst, nonD_str, Z_bTup, Z_bsC, Z_bsN, Z_bNm, Option.bind_some, Option.map_some, List.getElem?_cons_zero, List.getElem?_cons_succ, List.set_cons_zero, List.set_cons_succ, List.length_cons, List.length_nil, id, Bool.not_true, Bool.not_false, List.length_map, List.length_set, decide_true, decide_false, eq_self, if_true, if_false, Bool.false_eq_true, decide_eq_true_eq, not_true_eq_false, not_false_eq_true, true_and, and_true, Int.cast_ofNat_Int, Int.reduceLT, Int.reduceLE, Int.reduceEq, bindT, wipeE, backE, Z_seq, Z_pC, Z_v0, Z_vS, Z_iP, Z_p1, Z_p2, Z_i1, Z_i2, Z_psN, Z_psC, Z_isN, Z_isC, Z_pN, Z_iN, Z_bP, Z_bI, Z_liftB, Z_andP, Z_orP, Z_bNotP, Z_andI, Z_orI, Z_bNotI, Z_pAnd, Z_pOr, Z_pNot, Z_iAnd, Z_iOr, Z_iNot, Z_pIf, Z_iIf, Z_pChain, Z_iCall, Z_iMod, Z_ivSeq, Z_itSeq, Z_ivN, Z_itN, Z_sNx, Z_sBk, Z_sCt, Z_if, Z_sAsg, Z_sEx, Z_sRt, Z_sRtN, Z_sRtO, Z_sAug, Z_sTg, Z_sFor, Z_asB, Z_lstOf, Z_set, Z_app2, Z_appK, Z_sPar, Z_whl, Z_no, Z_ite', Z_some, Z_pComp, Z_iComp, Z_pSl, ZpO_some, ↓Z_forL_nil, ↓Z_forL_cons, ↓Z_compP_nil, ↓Z_compP_cons, ↓Z_compI_nil, ↓Z_compI_cons, ↓Z_bYes, ↓Z_iYes, Z_forL_nil, Z_forL_cons, Z_compP_nil, Z_compP_cons, Z_compI_nil, Z_compI_cons]
      rw [dep_of (List.mem_of_getElem? hp) h]
    · simp -dsimp only [↓Z_seq, ↓Z_pC, ↓Z_v0, ↓Z_vS, ↓Z_iP, ↓Z_p1, ↓Z_p2, ↓Z_i1, ↓Z_i2, ↓Z_psN, ↓Z_psC, ↓Z_isN, ↓Z_isC, ↓Z_pN, ↓Z_iN, ↓Z_bP, ↓Z_bI, ↓Z_liftB, ↓Z_andP, ↓Z_orP, ↓Z_bNotP, ↓Z_andI, ↓Z_orI, ↓Z_bNotI, ↓Z_pAnd, ↓Z_pOr, ↓Z_pNot, ↓Z_iAnd, ↓Z_iOr, ↓Z_iNot, ↓Z_pIf, ↓Z_iIf, ↓Z_pChain, ↓Z_iCall, ↓Z_iMod, ↓Z_ivSeq, ↓Z_itSeq, ↓Z_ivN, ↓Z_itN, ↓Z_sNx, ↓Z_sBk, ↓Z_sCt, ↓Z_if, ↓Z_sAsg, ↓Z_sEx, ↓Z_sRt, ↓Z_sRtN, ↓Z_sRtO, ↓Z_sAug, ↓Z_sTg, ↓Z_sFor, ↓Z_asB, ↓Z_lstOf, ↓Z_set, ↓Z_app2, ↓Z_appK, ↓Z_sPar, X_ex2, ↓Z_whl, ↓Z_no, ↓Z_ite', ↓Z_some, Z_map, ↓Z_pComp, ↓Z_iComp, ↓Z_pSl, pO_none, ↓ZpO_some, ZpO_int, Zx_nx, Zx_rt, Zx_bk, Zx_ct, Zf_nx, Zf_ct, Zf_bk, Zf_rt, Zr_rt, Zr_nx, Zr1_rt, Zr1_nx, wIf_t, wIf_f, wIf_not, sE, List.map_cons, List.map_nil, List.replicate_succ, List.replicate_zero, List.cons_append, List.nil_append, Nat.reduceSub, Nat.reduceAdd, nLen_lst, nLen_tup, nInt_int, nList_lst, nList_tup, nList_scr, nTuple_lst, nTuple_tup, nIx_lst, nIx_tup, seqOf_lst, seqOf_tup, gRev_eq, gPop_eq, nI2_i, nIc_ok, nCmp_i, nAdd_i, nEq_int, nNe_int, nEq_bl, nNe_bl, nEq_TI, nNe_TI, nEq_LI, nNe_LI, nIn_TI, nIn_LI, X_fld, max2, min2, nTupD0, nTupD1, nTupD2, nTupD3, nTupD4, nLstD0, nLstD1, nLstD2, nLstD3, nLstD4, isi_int_int, isi_int_bl, isi_int_tup, isi_int_lst, isi_int_non, isi_int_str, isi_bool_int, isi_bool_bl, isi_bool_tup, isi_bool_lst, isi_bool_non, isi_bool_str, isi_tuple_int, isi_tuple_bl, isi_tuple_tup, isi_tuple_lst, isi_tuple_non, isi_tuple_str, isi_list_int, isi_list_bl, isi_list_tup, isi_list_lst, isi_list_non, isi_list_str, isi_str_int, isi_str_bl, isi_str_tup, isi_str_lst, isi_str_non, isi_str_str, isN_non, notN_non, nonD_non, nonD_int, nonD_bl, nonD_tup, nonD_lst, nonD_str, Z_bTup, Z_bsC, Z_bsN, Z_bNm, Option.bind_some, Option.map_some, List.getElem?_cons_zero, List.getElem?_cons_succ, List.set_cons_zero, List.set_cons_succ, List.length_cons, List.length_nil, id, Bool.not_true, Bool.not_false, List.length_map, List.length_set, decide_true, decide_false, eq_self, if_true, if_false, Bool.false_eq_true, decide_eq_true_eq, not_true_eq_false, not_false_eq_true, true_and, and_true, Int.cast_ofNat_Int, Int.reduceLT, Int.reduceLE, Int.reduceEq, bindT, wipeE, backE, Z_seq, Z_pC, Z_v0, Z_vS, Z_iP, Z_p1, Z_p2, Z_i1, Z_i2, Z_psN, Z_psC, Z_isN, Z_isC, Z_pN, Z_iN, Z_bP, Z_bI, Z_liftB, Z_andP, Z_orP, Z_bNotP, Z_andI, Z_orI, Z_bNotI, Z_pAnd, Z_pOr, Z_pNot, Z_iAnd, Z_iOr, Z_iNot, Z_pIf, Z_iIf, Z_pChain, Z_iCall, Z_iMod, Z_ivSeq, Z_itSeq, Z_ivN, Z_itN, Z_sNx, Z_sBk, Z_sCt, Z_if, Z_sAsg, Z_sEx, Z_sRt, Z_sRtN, Z_sRtO, Z_sAug, Z_sTg, Z_sFor, Z_asB, Z_lstOf, Z_set, Z_app2, Z_appK, Z_sPar, Z_whl, Z_no, Z_ite', Z_some, Z_pComp, Z_iComp, Z_pSl, ZpO_some, ↓Z_forL_nil, ↓Z_forL_cons, ↓Z_compP_nil, ↓Z_compP_cons, ↓Z_compI_nil, ↓Z_compI_cons, ↓Z_bYes, ↓Z_iYes, Z_forL_nil, Z_forL_cons, Z_compP_nil, Z_compP_cons, Z_compI_nil, Z_compI_cons]
      refine ⟨fun q hq => ?_, _, rfl⟩
      rw [List.take_succ, hp] at hq
      rcases List.mem_append.mp hq with hq | hq
      · exact hall q hq
      · rw [List.mem_singleton.mp hq]
        exact h
  · rintro env ⟨hall, v, rfl⟩
    rw [List.take_length] at hall
    simp -dsimp only [↓Z_seq, ↓Z_pC, ↓Z_v0, ↓Z_vS, ↓Z_iP, ↓Z_p1, ↓Z_p2, ↓Z_i1, ↓Z_i2, ↓Z_psN, ↓Z_psC, ↓Z_isN, ↓Z_isC, ↓Z_pN, ↓Z_iN, ↓Z_bP, ↓Z_bI, ↓Z_liftB, ↓Z_andP, ↓Z_orP, ↓Z_bNotP, ↓Z_andI, ↓Z_orI, ↓Z_bNotI, ↓Z_pAnd, ↓Z_pOr, ↓Z_pNot, ↓Z_iAnd, ↓Z_iOr, ↓Z_iNot, ↓Z_pIf, ↓Z_iIf, ↓Z_pChain, ↓Z_iCall, ↓Z_iMod, ↓Z_ivSeq, ↓Z_itSeq, ↓Z_ivN, ↓Z_itN, ↓Z_sNx, ↓Z_sBk, ↓Z_sCt, ↓Z_if, ↓Z_sAsg, ↓Z_sEx, ↓Z_sRt, ↓Z_sRtN, ↓Z_sRtO, ↓Z_sAug, ↓Z_sTg, ↓Z_sFor, ↓Z_asB, ↓Z_lstOf, ↓Z_set, ↓Z_app2, ↓Z_appK, ↓Z_sPar, X_ex2, ↓Z_whl, ↓Z_no, ↓Z_ite', ↓Z_some, Z_map, ↓Z_pComp, ↓Z_iComp, ↓Z_pSl, pO_none, ↓ZpO_some, ZpO_int, Zx_nx, Zx_rt, Zx_bk, Zx_ct, Zf_nx, Zf_ct, Zf_bk, Zf_rt, Zr_rt, Zr_nx, Zr1_rt, Zr1_nx, wIf_t, wIf_f, wIf_not, sE, List.map_cons, List.map_nil, List.replicate_succ, List.replicate_zero, List.cons_append, List.nil_append, Nat.reduceSub, Nat.reduceAdd, nLen_lst, nLen_tup, nInt_int, nList_lst, nList_tup, nList_scr, nTuple_lst, nTuple_tup, nIx_lst, nIx_tup, seqOf_lst, seqOf_tup, gRev_eq, gPop_eq, nI2_i, nIc_ok, nCmp_i, nAdd_i, nEq_int, nNe_int, nEq_bl, nNe_bl, nEq_TI, nNe_TI, nEq_LI, nNe_LI, nIn_TI, nIn_LI, X_fld, max2, min2, nTupD0, nTupD1, nTupD2, nTupD3, nTupD4, nLstD0, nLstD1, nLstD2, nLstD3, nLstD4, isi_int_int, isi_int_bl, isi_int_tup, isi_int_lst, isi_int_non, isi_int_str, isi_bool_int, isi_bool_bl, isi_bool_tup, isi_bool_lst, isi_bool_non, isi_bool_str, isi_tuple_int, isi_tuple_bl, isi_tuple_tup, isi_tuple_lst, isi_tuple_non, isi_tuple_str, isi_list_int, isi_list_bl, isi_list_tup, isi_list_lst, isi_list_non, isi_list_str, isi_str_int, isi_str_bl, isi_str_tup, isi_str_lst, isi_str_non, isi_str_str, isN_non, notN_non, nonD_non, nonD_int, nonD_bl, nonD_tup, nonD_lst, nonD_str, Z_bTup, Z_bsC, Z_bsN, Z_bNm, Option.bind_some, Option.map_some, List.getElem?_cons_zero, List.getElem?_cons_succ, List.set_cons_zero, List.set_cons_succ, List.length_cons, List.length_nil, id, Bool.not_true, Bool.not_false, List.length_map, List.length_set, decide_true, decide_false, eq_self, if_true, if_false, Bool.false_eq_true, decide_eq_true_eq, not_true_eq_false, not_false_eq_true, true_and, and_true, Int.cast_ofNat_Int, Int.reduceLT, Int.reduceLE, Int.reduceEq, bindT, wipeE, backE, Z_seq, Z_pC, Z_v0, Z_vS, Z_iP, Z_p1, Z_p2, Z_i1, Z_i2, Z_psN, Z_psC, Z_isN, Z_isC, Z_pN, Z_iN, Z_bP, Z_bI, Z_liftB, Z_andP, Z_orP, Z_bNotP, Z_andI, Z_orI, Z_bNotI, Z_pAnd, Z_pOr, Z_pNot, Z_iAnd, Z_iOr, Z_iNot, Z_pIf, Z_iIf, Z_pChain, Z_iCall, Z_iMod, Z_ivSeq, Z_itSeq, Z_ivN, Z_itN, Z_sNx, Z_sBk, Z_sCt, Z_if, Z_sAsg, Z_sEx, Z_sRt, Z_sRtN, Z_sRtO, Z_sAug, Z_sTg, Z_sFor, Z_asB, Z_lstOf, Z_set, Z_app2, Z_appK, Z_sPar, Z_whl, Z_no, Z_ite', Z_some, Z_pComp, Z_iComp, Z_pSl, ZpO_some, ↓Z_forL_nil, ↓Z_forL_cons, ↓Z_compP_nil, ↓Z_compP_cons, ↓Z_compI_nil, ↓Z_compI_cons, ↓Z_bYes, ↓Z_iYes, Z_forL_nil, Z_forL_cons, Z_compP_nil, Z_compP_cons, Z_compI_nil, Z_compI_cons]
    rw [indep_iff.mpr hall]
/-- the masks -/
def MK (L : List (List Int)) : List Int := (List.range L.length).map fun (a : Nat) => ((maskN (fun b => !indep L (a : Int) (b : Int)) L.length : Nat) : Int)
theorem cpow1 (k : Nat) (h : k < 1000) : cPow 1 (k : Int) = true := by
  unfold cPow
  rw [decide_eq_true (by omega), decide_eq_true (by omega), decide_eq_true (by decide)]
  rfl
theorem masks_spec {L : List (List Int)} {c : Int} (hL : L.length < 100) : C_masks [OB c L] = some (.lst (LI (MK L))) := by
  refine Z_run rfl ?_
  simp -dsimp only [↓Z_seq, ↓Z_pC, ↓Z_v0, ↓Z_vS, ↓Z_iP, ↓Z_p1, ↓Z_p2, ↓Z_i1, ↓Z_i2, ↓Z_psN, ↓Z_psC, ↓Z_isN, ↓Z_isC, ↓Z_pN, ↓Z_iN, ↓Z_bP, ↓Z_bI, ↓Z_liftB, ↓Z_andP, ↓Z_orP, ↓Z_bNotP, ↓Z_andI, ↓Z_orI, ↓Z_bNotI, ↓Z_pAnd, ↓Z_pOr, ↓Z_pNot, ↓Z_iAnd, ↓Z_iOr, ↓Z_iNot, ↓Z_pIf, ↓Z_iIf, ↓Z_pChain, ↓Z_iCall, ↓Z_iMod, ↓Z_ivSeq, ↓Z_itSeq, ↓Z_ivN, ↓Z_itN, ↓Z_sNx, ↓Z_sBk, ↓Z_sCt, ↓Z_if, ↓Z_sAsg, ↓Z_sEx, ↓Z_sRt, ↓Z_sRtN, ↓Z_sRtO, ↓Z_sAug, ↓Z_sTg, ↓Z_sFor, ↓Z_asB, ↓Z_lstOf, ↓Z_set, ↓Z_app2, ↓Z_appK, ↓Z_sPar, X_ex2, ↓Z_whl, ↓Z_no, ↓Z_ite', ↓Z_some, Z_map, ↓Z_pComp, ↓Z_iComp, ↓Z_pSl, pO_none, ↓ZpO_some, ZpO_int, Zx_nx, Zx_rt, Zx_bk, Zx_ct, Zf_nx, Zf_ct, Zf_bk, Zf_rt, Zr_rt, Zr_nx, Zr1_rt, Zr1_nx, wIf_t, wIf_f, wIf_not, sE, List.map_cons, List.map_nil, List.replicate_succ, List.replicate_zero, List.cons_append, List.nil_append, Nat.reduceSub, Nat.reduceAdd, nLen_lst, nLen_tup, nInt_int, nList_lst, nList_tup, nList_scr, nTuple_lst, nTuple_tup, nIx_lst, nIx_tup, seqOf_lst, seqOf_tup, gRev_eq, gPop_eq, nI2_i, nIc_ok, nCmp_i, nAdd_i, nEq_int, nNe_int, nEq_bl, nNe_bl, nEq_TI, nNe_TI, nEq_LI, nNe_LI, nIn_TI, nIn_LI, X_fld, max2, min2, nTupD0, nTupD1, nTupD2, nTupD3, nTupD4, nLstD0, nLstD1, nLstD2, nLstD3, nLstD4, isi_int_int, isi_int_bl, isi_int_tup, isi_int_lst, isi_int_non, isi_int_str, isi_bool_int, isi_bool_bl, isi_bool_tup, isi_bool_lst, isi_bool_non, isi_bool_str, isi_tuple_int, isi_tuple_bl, isi_tuple_tup, isi_tuple_lst, isi_tuple_non, isi_tuple_str, isi_list_int, isi_list_bl, isi_list_tup, isi_list_lst, isi_list_non, isi_list_str, isi_str_int, isi_str_bl, isi_str_tup, isi_str_lst, isi_str_non, isi_str_str, isN_non, notN_non, nonD_non, nonD_int, nonD_bl, nonD_tup, nonD_lst, nonD_str, Z_bTup, Z_bsC, Z_bsN, Z_bNm, Option.bind_some, Option.map_some, List.getElem?_cons_zero, List.getElem?_cons_succ, List.set_cons_zero, List.set_cons_succ, List.length_cons, List.length_nil, id, Bool.not_true, Bool.not_false, List.length_map, List.length_set, decide_true, decide_false, eq_self, if_true, if_false, Bool.false_eq_true, decide_eq_true_eq, not_true_eq_false, not_false_eq_true, true_and, and_true, Int.cast_ofNat_Int, Int.reduceLT, Int.reduceLE, Int.reduceEq, bindT, wipeE, backE, Z_seq, Z_pC, Z_v0, Z_vS, Z_iP, Z_p1, Z_p2, Z_i1, Z_i2, Z_psN, Z_psC, Z_isN, Z_isC, Z_pN, Z_iN, Z_bP, Z_bI, Z_liftB, Z_andP, Z_orP, Z_bNotP, Z_andI, Z_orI, Z_bNotI, Z_pAnd, Z_pOr, Z_pNot, Z_iAnd, Z_iOr, Z_iNot, Z_pIf, Z_iIf, Z_pChain, Z_iCall, Z_iMod, Z_ivSeq, Z_itSeq, Z_ivN, Z_itN, Z_sNx, Z_sBk, Z_sCt, Z_if, Z_sAsg, Z_sEx, Z_sRt, Z_sRtN, Z_sRtO, Z_sAug, Z_sTg, Z_sFor, Z_asB, Z_lstOf, Z_set, Z_app2, Z_appK, Z_sPar, Z_whl, Z_no, Z_ite', Z_some, Z_pComp, Z_iComp, Z_pSl, ZpO_some, ↓Z_forL_nil, ↓Z_forL_cons, ↓Z_compP_nil, ↓Z_compP_cons, ↓Z_compI_nil, ↓Z_compI_cons, ↓Z_bYes, ↓Z_iYes, Z_forL_nil, Z_forL_cons, Z_compP_nil, Z_compP_cons, Z_compI_nil, Z_compI_cons, s_masks, rngN (show L.length < 1000000 by omega)]
  refine Z_forR (fun k env => ∃ a b v, env = [some (OB c L), some (.lst (LI ((MK L).take k))), a, b, v]) _ ⟨_, _, _, rfl⟩ ?_ ?_
  · rintro k env hk ⟨a, b, v, rfl⟩
    simp -dsimp only [↓Z_seq, ↓Z_pC, ↓Z_v0, ↓Z_vS, ↓Z_iP, ↓Z_p1, ↓Z_p2, ↓Z_i1, ↓Z_i2, ↓Z_psN, ↓Z_psC, ↓Z_isN, ↓Z_isC, ↓Z_pN, ↓Z_iN, ↓Z_bP, ↓Z_bI, ↓Z_liftB, ↓Z_andP, ↓Z_orP, ↓Z_bNotP, ↓Z_andI, ↓Z_orI, ↓Z_bNotI, ↓Z_pAnd, ↓Z_pOr, ↓Z_pNot, ↓Z_iAnd, ↓Z_iOr, ↓Z_iNot, ↓Z_pIf, ↓Z_iIf, ↓Z_pChain, ↓Z_iCall, ↓Z_iMod, ↓Z_ivSeq, ↓Z_itSeq, ↓Z_ivN, ↓Z_itN, ↓Z_sNx, ↓Z_sBk, ↓Z_sCt, ↓Z_if, ↓Z_sAsg, ↓Z_sEx, ↓Z_sRt, ↓Z_sRtN, ↓Z_sRtO, ↓Z_sAug, ↓Z_sTg, ↓Z_sFor, ↓Z_asB, ↓Z_lstOf, ↓Z_set, ↓Z_app2, ↓Z_appK, ↓Z_sPar, X_ex2, ↓Z_whl, ↓Z_no, ↓Z_ite', ↓Z_some, Z_map, ↓Z_pComp, ↓Z_iComp, ↓Z_pSl, pO_none, ↓ZpO_some, ZpO_int, Zx_nx, Zx_rt, Zx_bk, Zx_ct, Zf_nx, Zf_ct, Zf_bk, Zf_rt, Zr_rt, Zr_nx, Zr1_rt, Zr1_nx, wIf_t, wIf_f, wIf_not, sE, List.map_cons, List.map_nil, List.replicate_succ, List.replicate_zero, List.cons_append, List.nil_append, Nat.reduceSub, Nat.reduceAdd, nLen_lst, nLen_tup, nInt_int, nList_lst, nList_tup, nList_scr, nTuple_lst, nTuple_tup, nIx_lst, nIx_tup, seqOf_lst, seqOf_tup, gRev_eq, gPop_eq, nI2_i, nIc_ok, nCmp_i, nAdd_i, nEq_int, nNe_int, nEq_bl, nNe_bl, nEq_TI, nNe_TI, nEq_LI, nNe_LI, nIn_TI, nIn_LI, X_fld, max2, min2, nTupD0, nTupD1, nTupD2, nTupD3, nTupD4, nLstD0, nLstD1, nLstD2, nLstD3, nLstD4, isi_int_int, isi_int_bl, isi_int_tup, isi_int_lst, isi_int_non, isi_int_str, isi_bool_int, isi_bool_bl, isi_bool_tup, isi_bool_lst, isi_bool_non, isi_bool_str, isi_tuple_int, isi_tuple_bl, isi_tuple_tup, isi_tuple_lst, isi_tuple_non, isi_tuple_str, isi_list_int, isi_list_bl, isi_list_tup, isi_list_lst, isi_list_non, isi_list_str, isi_str_int, isi_str_bl, isi_str_tup, isi_str_lst, isi_str_non, isi_str_str, isN_non, notN_non, nonD_non, nonD_int, nonD_bl, nonD_tup, nonD_lst, nonD_str, Z_bTup, Z_bsC, Z_bsN, Z_bNm, Option.bind_some, Option.map_some, List.getElem?_cons_zero, List.getElem?_cons_succ, List.set_cons_zero, List.set_cons_succ, List.length_cons, List.length_nil, id, Bool.not_true, Bool.not_false, List.length_map, List.length_set, decide_true, decide_false, eq_self, if_true, if_false, Bool.false_eq_true, decide_eq_true_eq, not_true_eq_false, not_false_eq_true, true_and, and_true, Int.cast_ofNat_Int, Int.reduceLT, Int.reduceLE, Int.reduceEq, bindT, wipeE, backE, Z_seq, Z_pC, Z_v0, Z_vS, Z_iP, Z_p1, Z_p2, Z_i1, Z_i2, Z_psN, Z_psC, Z_isN, Z_isC, Z_pN, Z_iN, Z_bP, Z_bI, Z_liftB, Z_andP, Z_orP, Z_bNotP, Z_andI, Z_orI, Z_bNotI, Z_pAnd, Z_pOr, Z_pNot, Z_iAnd, Z_iOr, Z_iNot, Z_pIf, Z_iIf, Z_pChain, Z_iCall, Z_iMod, Z_ivSeq, Z_itSeq, Z_ivN, Z_itN, Z_sNx, Z_sBk, Z_sCt, Z_if, Z_sAsg, Z_sEx, Z_sRt, Z_sRtN, Z_sRtO, Z_sAug, Z_sTg, Z_sFor, Z_asB, Z_lstOf, Z_set, Z_app2, Z_appK, Z_sPar, Z_whl, Z_no, Z_ite', Z_some, Z_pComp, Z_iComp, Z_pSl, ZpO_some, ↓Z_forL_nil, ↓Z_forL_cons, ↓Z_compP_nil, ↓Z_compP_cons, ↓Z_compI_nil, ↓Z_compI_cons, ↓Z_bYes, ↓Z_iYes, Z_forL_nil, Z_forL_cons, Z_compP_nil, Z_compP_cons, Z_compI_nil, Z_compI_cons, rngN (show L.length < 1000000 by omega)]
    refine Z_forR (fun j env => ∃ v, env = [some (OB c L), some (.lst (LI ((MK L).take k))), some (.int k), some (.int (maskN (fun b => !indep L (k : Int) (b : Int)) j : Nat)), v]) _ ⟨_, rfl⟩ ?_ ?_
    · rintro j env hj ⟨v, rfl⟩
      simp -dsimp only [↓Z_seq, ↓Z_pC, ↓Z_v0, ↓Z_vS, ↓Z_iP, ↓Z_p1, ↓Z_p2, ↓Z_i1, ↓Z_i2, ↓Z_psN, ↓Z_psC, ↓Z_isN, ↓Z_isC, ↓Z_pN, ↓Z_iN, ↓Z_bP, ↓Z_bI, ↓Z_liftB, ↓Z_andP, ↓Z_orP, ↓Z_bNotP, ↓Z_andI, ↓Z_orI, ↓Z_bNotI, ↓Z_pAnd, ↓Z_pOr, ↓Z_pNot, ↓Z_iAnd, ↓Z_iOr, ↓Z_iNot, ↓Z_pIf, ↓Z_iIf, ↓Z_pChain, ↓Z_iCall, ↓Z_iMod, ↓Z_ivSeq, ↓Z_itSeq, ↓Z_ivN, ↓Z_itN, ↓Z_sNx, ↓Z_sBk, ↓Z_sCt, ↓Z_if, ↓Z_sAsg, ↓Z_sEx, ↓Z_sRt, ↓Z_sRtN, ↓Z_sRtO, ↓Z_sAug, ↓Z_sTg, ↓Z_sFor, ↓Z_asB, ↓Z_lstOf, ↓Z_set, ↓Z_app2, ↓Z_appK, ↓Z_sPar, X_ex2, ↓Z_whl, ↓Z_no, ↓Z_ite', ↓Z_some, Z_map, ↓Z_pComp, ↓Z_iComp, ↓Z_pSl, pO_none, ↓ZpO_some, ZpO_int, Zx_nx, Zx_rt, Zx_bk, Zx_ct, Zf_nx, Zf_ct, Zf_bk, Zf_rt, Zr_rt, Zr_nx, Zr1_rt, Zr1_nx, wIf_t, wIf_f, wIf_not, sE, List.map_cons, List.map_nil, List.replicate_succ, List.replicate_zero, List.cons_append, List.nil_append, Nat.reduceSub, Nat.reduceAdd, nLen_lst, nLen_tup, nInt_int, nList_lst, nList_tup, nList_scr, nTuple_lst, nTuple_tup, nIx_lst, nIx_tup, seqOf_lst, seqOf_tup, gRev_eq, gPop_eq, nI2_i, nIc_ok, nCmp_i, nAdd_i, nEq_int, nNe_int, nEq_bl, nNe_bl, nEq_TI, nNe_TI, nEq_LI, nNe_LI, nIn_TI, nIn_LI, X_fld, max2, min2, nTupD0, nTupD1, nTupD2, nTupD3, nTupD4, nLstD0, nLstD1, nLstD2, nLstD3, nLstD4, isi_int_int, isi_int_bl, isi_int_tup, isi_int_lst, isi_int_non, isi_int_str, isi_bool_int, isi_bool_bl, isi_bool_tup, isi_bool_lst, isi_bool_non, isi_bool_str, isi_tuple_int, isi_tuple_bl, isi_tuple_tup, isi_tuple_lst, isi_tuple_non, isi_tuple_str, isi_list_int, isi_list_bl, isi_list_tup, isi_list_lst, isi_list_non, isi_list_str, isi_str_int, isi_str_bl, isi_str_tup, isi_str_lst, isi_str_non, isi_str_str, isN_non, notN_non, nonD_non, nonD_int, nonD_bl, nonD_tup, nonD_lst, nonD_str, Z_bTup, Z_bsC, Z_bsN, Z_bNm, Option.bind_some, Option.map_some, List.getElem?_cons_zero, List.getElem?_cons_succ, List.set_cons_zero, List.set_cons_succ, List.length_cons, List.length_nil, id, Bool.not_true, Bool.not_false, List.length_map, List.length_set, decide_true, decide_false, eq_self, if_true, if_false, Bool.false_eq_true, decide_eq_true_eq, not_true_eq_false, not_false_eq_true, true_and, and_true, Int.cast_ofNat_Int, Int.reduceLT, Int.reduceLE, Int.reduceEq, bindT, wipeE, backE, Z_seq, Z_pC, Z_v0, Z_vS, Z_iP, Z_p1, Z_p2, Z_i1, Z_i2, Z_psN, Z_psC, Z_isN, Z_isC, Z_pN, Z_iN, Z_bP, Z_bI, Z_liftB, Z_andP, Z_orP, Z_bNotP, Z_andI, Z_orI, Z_bNotI, Z_pAnd, Z_pOr, Z_pNot, Z_iAnd, Z_iOr, Z_iNot, Z_pIf, Z_iIf, Z_pChain, Z_iCall, Z_iMod, Z_ivSeq, Z_itSeq, Z_ivN, Z_itN, Z_sNx, Z_sBk, Z_sCt, Z_if, Z_sAsg, Z_sEx, Z_sRt, Z_sRtN, Z_sRtO, Z_sAug, Z_sTg, Z_sFor, Z_asB, Z_lstOf, Z_set, Z_app2, Z_appK, Z_sPar, Z_whl, Z_no, Z_ite', Z_some, Z_pComp, Z_iComp, Z_pSl, ZpO_some, ↓Z_forL_nil, ↓Z_forL_cons, ↓Z_compP_nil, ↓Z_compP_cons, ↓Z_compI_nil, ↓Z_compI_cons, ↓Z_bYes, ↓Z_iYes, Z_forL_nil, Z_forL_cons, Z_compP_nil, Z_compP_cons, Z_compI_nil, Z_compI_cons, independent_spec (c := c) (lets_range hk) (lets_range hj)]
      cases h : indep L (k : Int) (j : Int) with
      | true =>
        simp -dsimp only [↓Z_seq, ↓Z_pC, ↓Z_v0, ↓Z_vS, ↓Z_iP, ↓Z_p1, ↓Z_p2, ↓Z_i1, ↓Z_i2, ↓Z_psN, ↓Z_psC, ↓Z_isN, ↓Z_isC, ↓Z_pN, ↓Z_iN, ↓Z_bP, ↓Z_bI, ↓Z_liftB, ↓Z_andP, ↓Z_orP, ↓Z_bNotP, ↓Z_andI, ↓Z_orI, ↓Z_bNotI, ↓Z_pAnd, ↓Z_pOr, ↓Z_pNot, ↓Z_iAnd, ↓Z_iOr, ↓Z_iNot, ↓Z_pIf, ↓Z_iIf, ↓Z_pChain, ↓Z_iCall, ↓Z_iMod, ↓Z_ivSeq, ↓Z_itSeq, ↓Z_ivN, ↓Z_itN, ↓Z_sNx, ↓Z_sBk, ↓Z_sCt, ↓Z_if, ↓Z_sAsg, ↓Z_sEx, ↓Z_sRt, ↓Z_sRtN, ↓Z_sRtO, ↓Z_sAug, ↓Z_sTg, ↓Z_sFor, ↓Z_asB, ↓Z_lstOf, ↓Z_set, ↓Z_app2, ↓Z_appK, ↓Z_sPar, X_ex2, ↓Z_whl, ↓Z_no, ↓Z_ite', ↓Z_some, Z_map, ↓Z_pComp, ↓Z_iComp, ↓Z_pSl, pO_none, ↓ZpO_some, ZpO_int, Zx_nx, Zx_rt, Zx_bk, Zx_ct, Zf_nx, Zf_ct, Zf_bk, Zf_rt, Zr_rt, Zr_nx, Zr1_rt, Zr1_nx, wIf_t, wIf_f, wIf_not, sE, List.map_cons, List.map_nil, List.replicate_succ, List.replicate_zero, List.cons_append, List.nil_append, Nat.reduceSub, Nat.reduceAdd, nLen_lst, nLen_tup, nInt_int, nList_lst, nList_tup, nList_scr, nTuple_lst, nTuple_tup, nIx_lst, nIx_tup, seqOf_lst, seqOf_tup, gRev_eq, gPop_eq, nI2_i, nIc_ok, nCmp_i, nAdd_i, nEq_int, nNe_int, nEq_bl, nNe_bl, nEq_TI, nNe_TI, nEq_LI, nNe_LI, nIn_TI, nIn_LI, X_fld, max2, min2, nTupD0, nTupD1, nTupD2, nTupD3, nTupD4, nLstD0, nLstD1, nLstD2, nLstD3, nLstD4, isi_int_int, isi_int_bl, isi_int_tup, isi_int_lst, isi_int_non, isi_int_str, isi_bool_int, isi_bool_bl, isi_bool_tup, isi_bool_lst, isi_bool_non, isi_bool_str, isi_tuple_int, isi_tuple_bl, isi_tuple_tup, isi_tuple_lst, isi_tuple_non, isi_tuple_str, isi_list_int, isi_list_bl, isi_list_tup, isi_list_lst, isi_list_non, isi_list_str, isi_str_int, isi_str_bl, isi_str_tup, isi_str_lst, isi_str_non, isi_str_str, isN_non, notN_non, nonD_non, nonD_int, nonD_bl, nonD_tup, nonD_lst, nonD_str, Z_bTup, Z_bsC, Z_bsN, Z_bNm, Option.bind_some, Option.map_some, List.getElem?_cons_zero, List.getElem?_cons_succ, List.set_cons_zero, List.set_cons_succ, List.length_cons, List.length_nil, id, Bool.not_true, Bool.not_false, List.length_map, List.length_set, decide_true, decide_false, eq_self, if_true, if_false, Bool.false_eq_true, decide_eq_true_eq, not_true_eq_false, not_false_eq_true, true_and, and_true, Int.cast_ofNat_Int, Int.reduceLT, Int.reduceLE, Int.reduceEq, bindT, wipeE, backE, Z_seq, Z_pC, Z_v0, Z_vS, Z_iP, Z_p1, Z_p2, Z_i1, Z_i2, Z_psN, Z_psC, Z_isN, Z_isC, Z_pN, Z_iN, Z_bP, Z_bI, Z_liftB, Z_andP, Z_orP, Z_bNotP, Z_andI, Z_orI, Z_bNotI, Z_pAnd, Z_pOr, Z_pNot, Z_iAnd, Z_iOr, Z_iNot, Z_pIf, Z_iIf, Z_pChain, Z_iCall, Z_iMod, Z_ivSeq, Z_itSeq, Z_ivN, Z_itN, Z_sNx, Z_sBk, Z_sCt, Z_if, Z_sAsg, Z_sEx, Z_sRt, Z_sRtN, Z_sRtO, Z_sAug, Z_sTg, Z_sFor, Z_asB, Z_lstOf, Z_set, Z_app2, Z_appK, Z_sPar, Z_whl, Z_no, Z_ite', Z_some, Z_pComp, Z_iComp, Z_pSl, ZpO_some, ↓Z_forL_nil, ↓Z_forL_cons, ↓Z_compP_nil, ↓Z_compP_cons, ↓Z_compI_nil, ↓Z_compI_cons, ↓Z_bYes, ↓Z_iYes, Z_forL_nil, Z_forL_cons, Z_compP_nil, Z_compP_cons, Z_compI_nil, Z_compI_cons, maskN, h]
        exact ⟨_, rfl⟩
      | false =>
        simp -dsimp only [↓Z_seq, ↓Z_pC, ↓Z_v0, ↓Z_vS, ↓Z_iP, ↓Z_p1, ↓Z_p2, ↓Z_i1, ↓Z_i2, ↓Z_psN, ↓Z_psC, ↓Z_isN, ↓Z_isC, ↓Z_pN, ↓Z_iN, ↓Z_bP, ↓Z_bI, ↓Z_liftB, ↓Z_andP, ↓Z_orP, ↓Z_bNotP, ↓Z_andI, ↓Z_orI, ↓Z_bNotI, ↓Z_pAnd, ↓Z_pOr, ↓Z_pNot, ↓Z_iAnd, ↓Z_iOr, ↓Z_iNot, ↓Z_pIf, ↓Z_iIf, ↓Z_pChain, ↓Z_iCall, ↓Z_iMod, ↓Z_ivSeq, ↓Z_itSeq, ↓Z_ivN, ↓Z_itN, ↓Z_sNx, ↓Z_sBk, ↓Z_sCt, ↓Z_if, ↓Z_sAsg, ↓Z_sEx, ↓Z_sRt, ↓Z_sRtN, ↓Z_sRtO, ↓Z_sAug, ↓Z_sTg, ↓Z_sFor, ↓Z_asB, ↓Z_lstOf, ↓Z_set, ↓Z_app2, ↓Z_appK, ↓Z_sPar, X_ex2, ↓Z_whl, ↓Z_no, ↓Z_ite', ↓Z_some, Z_map, ↓Z_pComp, ↓Z_iComp, ↓Z_pSl, pO_none, ↓ZpO_some, ZpO_int, Zx_nx, Zx_rt, Zx_bk, Zx_ct, Zf_nx, Zf_ct, Zf_bk, Zf_rt, Zr_rt, Zr_nx, Zr1_rt, Zr1_nx, wIf_t, wIf_f, wIf_not, sE, List.map_cons, List.map_nil, List.replicate_succ, List.replicate_zero, List.cons_append, List.nil_append, Nat.reduceSub, Nat.reduceAdd, nLen_lst, nLen_tup, nInt_int, nList_lst, nList_tup, nList_scr, nTuple_lst, nTuple_tup, nIx_lst, nIx_tup, seqOf_lst, seqOf_tup, gRev_eq, gPop_eq, nI2_i, nIc_ok, nCmp_i, nAdd_i, nEq_int, nNe_int, nEq_bl, nNe_bl, nEq_TI, nNe_TI, nEq_LI, nNe_LI, nIn_TI, nIn_LI, X_fld, max2, min2, nTupD0, nTupD1, nTupD2, nTupD3, nTupD4, nLstD0, nLstD1, nLstD2, nLstD3, nLstD4, isi_int_int, isi_int_bl, isi_int_tup, isi_int_lst, isi_int_non, isi_int_str, isi_bool_int, isi_bool_bl, isi_bool_tup, isi_bool_lst, isi_bool_non, isi_bool_str, isi_tuple_int, isi_tuple_bl, isi_tuple_tup, isi_tuple_lst, isi_tuple_non, isi_tuple_str, isi_list_int, isi_list_bl, isi_list_tup, isi_list_lst, isi_list_non, isi_list_str, isi_str_int, isi_str_bl, isi_str_tup, isi_str_lst, isi_str_non, isi_str_str, isN_non, notN_non, nonD_non, nonD_int, nonD_bl, nonD_tup, nonD_lst, nonD_str, Z_bTup, Z_bsC, Z_bsN, Z_bNm, Option.bind_some, Option.map_some, List.getElem?_cons_zero, List.getElem?_cons_succ, List.set_cons_zero, List.set_cons_succ, List.length_cons, List.length_nil, id, Bool.not_true, Bool.not_false, List.length_map, List.length_set, decide_true, decide_false, eq_self, if_true, if_false, Bool.false_eq_true, decide_eq_true_eq, not_true_eq_false, not_false_eq_true, true_and, and_true, Int.cast_ofNat_Int, Int.reduceLT, Int.reduceLE, Int.reduceEq, bindT, wipeE, backE, Z_seq, Z_pC, Z_v0, Z_vS, Z_iP, Z_p1, Z_p2, Z_i1, Z_i2, Z_psN, Z_psC, Z_isN, Z_isC, Z_pN, Z_iN, Z_bP, Z_bI, Z_liftB, Z_andP, Z_orP, Z_bNotP, Z_andI, Z_orI, Z_bNotI, Z_pAnd, Z_pOr, Z_pNot, Z_iAnd, Z_iOr, Z_iNot, Z_pIf, Z_iIf, Z_pChain, Z_iCall, Z_iMod, Z_ivSeq, Z_itSeq, Z_ivN, Z_itN, Z_sNx, Z_sBk, Z_sCt, Z_if, Z_sAsg, Z_sEx, Z_sRt, Z_sRtN, Z_sRtO, Z_sAug, Z_sTg, Z_sFor, Z_asB, Z_lstOf, Z_set, Z_app2, Z_appK, Z_sPar, Z_whl, Z_no, Z_ite', Z_some, Z_pComp, Z_iComp, Z_pSl, ZpO_some, ↓Z_forL_nil, ↓Z_forL_cons, ↓Z_compP_nil, ↓Z_compP_cons, ↓Z_compI_nil, ↓Z_compI_cons, ↓Z_bYes, ↓Z_iYes, Z_forL_nil, Z_forL_cons, Z_compP_nil, Z_compP_cons, Z_compI_nil, Z_compI_cons, maskN, h, cpow1 j (by omega), or_pow]
        exact ⟨_, rfl⟩
    · rintro env ⟨v, rfl⟩
      have hml : (MK L).length = L.length := by simp [MK]
      have e : (MK L).take (k + 1) = (MK L).take k ++ [((maskN (fun b => !indep L (k : Int) (b : Int)) L.length : Nat) : Int)] := by
        rw [List.take_succ]
        congr 1
        unfold MK
        rw [List.getElem?_map, List.getElem?_range hk]
        rfl
      simp -dsimp only [↓Z_seq, ↓Z_pC, ↓Z_v0, ↓Z_vS, ↓Z_iP, ↓Z_p1, ↓Z_p2, ↓Z_i1, ↓Z_i2, ↓Z_psN, ↓Z_psC, ↓Z_isN, ↓Z_isC, ↓Z_pN, ↓Z_iN, ↓Z_bP, ↓Z_bI, ↓Z_liftB, ↓Z_andP, ↓Z_orP, ↓Z_bNotP, ↓Z_andI, ↓Z_orI, ↓Z_bNotI, ↓Z_pAnd, ↓Z_pOr, ↓Z_pNot, ↓Z_iAnd, ↓Z_iOr, ↓Z_iNot, ↓Z_pIf, ↓Z_iIf, ↓Z_pChain, ↓Z_iCall, ↓Z_iMod, ↓Z_ivSeq, ↓Z_itSeq, ↓Z_ivN, ↓Z_itN, ↓Z_sNx, ↓Z_sBk, ↓Z_sCt, ↓Z_if, ↓Z_sAsg, ↓Z_sEx, ↓Z_sRt, ↓Z_sRtN, ↓Z_sRtO, ↓Z_sAug, ↓Z_sTg, ↓Z_sFor, ↓Z_asB, ↓Z_lstOf, ↓Z_set, ↓Z_app2, ↓Z_appK, ↓Z_sPar, X_ex2, ↓Z_whl, ↓Z_no, ↓Z_ite', ↓Z_some, Z_map, ↓Z_pComp, ↓Z_iComp, ↓Z_pSl, pO_none, ↓ZpO_some, ZpO_int, Zx_nx, Zx_rt, Zx_bk, Zx_ct, Zf_nx, Zf_ct, Zf_bk, Zf_rt, Zr_rt, Zr_nx, Zr1_rt, Zr1_nx, wIf_t, wIf_f, wIf_not, sE, List.map_cons, List.map_nil, List.replicate_succ, List.replicate_zero, List.cons_append, List.nil_append, Nat.reduceSub, Nat.reduceAdd, nLen_lst, nLen_tup, nInt_int, nList_lst, nList_tup, nList_scr, nTuple_lst, nTuple_tup, nIx_lst, nIx_tup, seqOf_lst, seqOf_tup, gRev_eq, gPop_eq, nI2_i, nIc_ok, nCmp_i, nAdd_i, nEq_int, nNe_int, nEq_bl, nNe_bl, nEq_TI, nNe_TI, nEq_LI, nNe_LI, nIn_TI, nIn_LI, X_fld, max2, min2, nTupD0, nTupD1, nTupD2, nTupD3, nTupD4, nLstD0, nLstD1, nLstD2, nLstD3, nLstD4, isi_int_int, isi_int_bl, isi_int_tup, isi_int_lst, isi_int_non, isi_int_str, isi_bool_int, isi_bool_bl, isi_bool_tup, isi_bool_lst, isi_bool_non, isi_bool_str, isi_tuple_int, isi_tuple_bl, isi_tuple_tup, isi_tuple_lst, isi_tuple_non, isi_tuple_str, isi_list_int, isi_list_bl, isi_list_tup, isi_list_lst, isi_list_non, isi_list_str, isi_str_int, isi_str_bl, isi_str_tup, isi_str_lst, isi_str_non, isi_str_str, isN_non, notN_non, nonD_non, nonD_int, nonD_bl, nonD_tup, nonD_lst, nonD_str, Z_bTup, Z_bsC, Z_bsN, Z_bNm, Option.bind_some, Option.map_some, List.getElem?_cons_zero, List.getElem?_cons_succ, List.set_cons_zero, List.set_cons_succ, List.length_cons, List.length_nil, id, Bool.not_true, Bool.not_false, List.length_map, List.length_set, decide_true, decide_false, eq_self, if_true, if_false, Bool.false_eq_true, decide_eq_true_eq, not_true_eq_false, not_false_eq_true, true_and, and_true, Int.cast_ofNat_Int, Int.reduceLT, Int.reduceLE, Int.reduceEq, bindT, wipeE, backE, Z_seq, Z_pC, Z_v0, Z_vS, Z_iP, Z_p1, Z_p2, Z_i1, Z_i2, Z_psN, Z_psC, Z_isN, Z_isC, Z_pN, Z_iN, Z_bP, Z_bI, Z_liftB, Z_andP, Z_orP, Z_bNotP, Z_andI, Z_orI, Z_bNotI, Z_pAnd, Z_pOr, Z_pNot, Z_iAnd, Z_iOr, Z_iNot, Z_pIf, Z_iIf, Z_pChain, Z_iCall, Z_iMod, Z_ivSeq, Z_itSeq, Z_ivN, Z_itN, Z_sNx, Z_sBk, Z_sCt, Z_if, Z_sAsg, Z_sEx, Z_sRt, Z_sRtN, Z_sRtO, Z_sAug, Z_sTg, Z_sFor, Z_asB, Z_lstOf, Z_set, Z_app2, Z_appK, Z_sPar, Z_whl, Z_no, Z_ite', Z_some, Z_pComp, Z_iComp, Z_pSl, ZpO_some, ↓Z_forL_nil, ↓Z_forL_cons, ↓Z_compP_nil, ↓Z_compP_cons, ↓Z_compI_nil, ↓Z_compI_cons, ↓Z_bYes, ↓Z_iYes, Z_forL_nil, Z_forL_cons, Z_compP_nil, Z_compP_cons, Z_compI_nil, Z_compI_cons, gApp_eq (show (LI ((MK L).take k)).length < sizeLine from size_lt (by rw [List.length_map, List.length_take]; omega)), LI_app1]
      rw [e]
      exact ⟨_, _, _, rfl⟩
  · rintro env ⟨a, b, v, rfl⟩
    have e : (MK L).take L.length = MK L := List.take_of_length_le (by simp [MK])
    rw [e]
    simp -dsimp only [↓Z_seq, ↓Z_pC, ↓Z_v0, ↓Z_vS, ↓Z_iP, ↓Z_p1, ↓Z_p2, ↓Z_i1, ↓Z_i2, ↓Z_psN, ↓Z_psC, ↓Z_isN, ↓Z_isC, ↓Z_pN, ↓Z_iN, ↓Z_bP, ↓Z_bI, ↓Z_liftB, ↓Z_andP, ↓Z_orP, ↓Z_bNotP, ↓Z_andI, ↓Z_orI, ↓Z_bNotI, ↓Z_pAnd, ↓Z_pOr, ↓Z_pNot, ↓Z_iAnd, ↓Z_iOr, ↓Z_iNot, ↓Z_pIf, ↓Z_iIf, ↓Z_pChain, ↓Z_iCall, ↓Z_iMod, ↓Z_ivSeq, ↓Z_itSeq, ↓Z_ivN, ↓Z_itN, ↓Z_sNx, ↓Z_sBk, ↓Z_sCt, ↓Z_if, ↓Z_sAsg, ↓Z_sEx, ↓Z_sRt, ↓Z_sRtN, ↓Z_sRtO, ↓Z_sAug, ↓Z_sTg, ↓Z_sFor, ↓Z_asB, ↓Z_lstOf, ↓Z_set, ↓Z_app2, ↓Z_appK, ↓Z_sPar, X_ex2, ↓Z_whl, ↓Z_no, ↓Z_ite', ↓Z_some, Z_map, ↓Z_pComp, ↓Z_iComp, ↓Z_pSl, pO_none, ↓ZpO_some, ZpO_int, Zx_nx, Zx_rt, Zx_bk, Zx_ct, Zf_nx, Zf_ct, Zf_bk, Zf_rt, Zr_rt, Zr_nx, Zr1_rt, Zr1_nx, wIf_t, wIf_f, wIf_not, sE, List.map_cons, List.map_nil, List.replicate_succ, List.replicate_zero, List.cons_append, List.nil_append, Nat.reduceSub, Nat.reduceAdd, nLen_lst, nLen_tup, nInt_int, nList_lst, nList_tup, nList_scr, nTuple_lst, nTuple_tup, nIx_lst, nIx_tup, seqOf_lst, seqOf_tup, gRev_eq, gPop_eq, nI2_i, nIc_ok, nCmp_i, nAdd_i, nEq_int, nNe_int, nEq_bl, nNe_bl, nEq_TI, nNe_TI, nEq_LI, nNe_LI, nIn_TI, nIn_LI, X_fld, max2, min2, nTupD0, nTupD1, nTupD2, nTupD3, nTupD4, nLstD0, nLstD1, nLstD2, nLstD3, nLstD4, isi_int_int, isi_int_bl, isi_int_tup, isi_int_lst, isi_int_non, isi_int_str, isi_bool_int, isi_bool_bl, isi_bool_tup, isi_bool_lst, isi_bool_non, isi_bool_str, isi_tuple_int, isi_tuple_bl, isi_tuple_tup, isi_tuple_lst, isi_tuple_non, isi_tuple_str, isi_list_int, isi_list_bl, isi_list_tup, isi_list_lst, isi_list_non, isi_list_str, isi_str_int, isi_str_bl, isi_str_tup, isi_str_lst, isi_str_non, isi_str_str, isN_non, notN_non, nonD_non, nonD_int, nonD_bl, nonD_tup, nonD_lst, nonD_str, Z_bTup, Z_bsC, Z_bsN, Z_bNm, Option.bind_some, Option.map_some, List.getElem?_cons_zero, List.getElem?_cons_succ, List.set_cons_zero, List.set_cons_succ, List.length_cons, List.length_nil, id, Bool.not_true, Bool.not_false, List.length_map, List.length_set, decide_true, decide_false, eq_self, if_true, if_false, Bool.false_eq_true, decide_eq_true_eq, not_true_eq_false, not_false_eq_true, true_and, and_true, Int.cast_ofNat_Int, Int.reduceLT, Int.reduceLE, Int.reduceEq, bindT, wipeE, backE, Z_seq, Z_pC, Z_v0, Z_vS, Z_iP, Z_p1, Z_p2, Z_i1, Z_i2, Z_psN, Z_psC, Z_isN, Z_isC, Z_pN, Z_iN, Z_bP, Z_bI, Z_liftB, Z_andP, Z_orP, Z_bNotP, Z_andI, Z_orI, Z_bNotI, Z_pAnd, Z_pOr, Z_pNot, Z_iAnd, Z_iOr, Z_iNot, Z_pIf, Z_iIf, Z_pChain, Z_iCall, Z_iMod, Z_ivSeq, Z_itSeq, Z_ivN, Z_itN, Z_sNx, Z_sBk, Z_sCt, Z_if, Z_sAsg, Z_sEx, Z_sRt, Z_sRtN, Z_sRtO, Z_sAug, Z_sTg, Z_sFor, Z_asB, Z_lstOf, Z_set, Z_app2, Z_appK, Z_sPar, Z_whl, Z_no, Z_ite', Z_some, Z_pComp, Z_iComp, Z_pSl, ZpO_some, ↓Z_forL_nil, ↓Z_forL_cons, ↓Z_compP_nil, ↓Z_compP_cons, ↓Z_compI_nil, ↓Z_compI_cons, ↓Z_bYes, ↓Z_iYes, Z_forL_nil, Z_forL_cons, Z_compP_nil, Z_compP_cons, Z_compI_nil, Z_compI_cons]
theorem MK_at {L : List (List Int)} {a : Int} (ha : 0 ≤ a ∧ a < (L.length : Nat)) : atI (LI (MK L)) a = some (.int ((maskN (fun b => !indep L a (b : Int)) L.length : Nat) : Int)) := by
  obtain ⟨n, rfl⟩ : ∃ n : Nat, a = (n : Int) := ⟨a.toNat, by omega⟩
  refine LI_get ?_
  unfold MK
  rw [List.getElem?_map, List.getElem?_range (by omega)]
  rfl
theorem c_nn (x : Int) (k : Nat) : cNn x (k : Int) = true := decide_eq_true (by omega)
/-- the test of a mask's bit -/
theorem MK_bit {L : List (List Int)} {a : Int} {k : Nat} (hk : k < L.length) : decide (Builtin.bitAnd (((maskN (fun b => !indep L a (b : Int)) L.length : Nat) : Int) / 2 ^ (k : Int).toNat) 1 = 1) = !indep L a (k : Int) := by
  rw [bit_test, maskN_bit, decide_eq_true hk, Bool.true_and]
theorem is_integer_spec (i : Int) : C__law_is_integer [.int i] = some (.bl true) := by
  refine Z_run rfl ?_
  simp -dsimp only [↓Z_seq, ↓Z_pC, ↓Z_v0, ↓Z_vS, ↓Z_iP, ↓Z_p1, ↓Z_p2, ↓Z_i1, ↓Z_i2, ↓Z_psN, ↓Z_psC, ↓Z_isN, ↓Z_isC, ↓Z_pN, ↓Z_iN, ↓Z_bP, ↓Z_bI, ↓Z_liftB, ↓Z_andP, ↓Z_orP, ↓Z_bNotP, ↓Z_andI, ↓Z_orI, ↓Z_bNotI, ↓Z_pAnd, ↓Z_pOr, ↓Z_pNot, ↓Z_iAnd, ↓Z_iOr, ↓Z_iNot, ↓Z_pIf, ↓Z_iIf, ↓Z_pChain, ↓Z_iCall, ↓Z_iMod, ↓Z_ivSeq, ↓Z_itSeq, ↓Z_ivN, ↓Z_itN, ↓Z_sNx, ↓Z_sBk, ↓Z_sCt, ↓Z_if, ↓Z_sAsg, ↓Z_sEx, ↓Z_sRt, ↓Z_sRtN, ↓Z_sRtO, ↓Z_sAug, ↓Z_sTg, ↓Z_sFor, ↓Z_asB, ↓Z_lstOf, ↓Z_set, ↓Z_app2, ↓Z_appK, ↓Z_sPar, X_ex2, ↓Z_whl, ↓Z_no, ↓Z_ite', ↓Z_some, Z_map, ↓Z_pComp, ↓Z_iComp, ↓Z_pSl, pO_none, ↓ZpO_some, ZpO_int, Zx_nx, Zx_rt, Zx_bk, Zx_ct, Zf_nx, Zf_ct, Zf_bk, Zf_rt, Zr_rt, Zr_nx, Zr1_rt, Zr1_nx, wIf_t, wIf_f, wIf_not, sE, List.map_cons, List.map_nil, List.replicate_succ, List.replicate_zero, List.cons_append, List.nil_append, Nat.reduceSub, Nat.reduceAdd, nLen_lst, nLen_tup, nInt_int, nList_lst, nList_tup, nList_scr, nTuple_lst, nTuple_tup, nIx_lst, nIx_tup, seqOf_lst, seqOf_tup, gRev_eq, gPop_eq, nI2_i, nIc_ok, nCmp_i, nAdd_i, nEq_int, nNe_int, nEq_bl, nNe_bl, nEq_TI, nNe_TI, nEq_LI, nNe_LI, nIn_TI, nIn_LI, X_fld, max2, min2, nTupD0, nTupD1, nTupD2, nTupD3, nTupD4, nLstD0, nLstD1, nLstD2, nLstD3, nLstD4, isi_int_int, isi_int_bl, isi_int_tup, isi_int_lst, isi_int_non, isi_int_str, isi_bool_int, isi_bool_bl, isi_bool_tup, isi_bool_lst, isi_bool_non, isi_bool_str, isi_tuple_int, isi_tuple_bl, isi_tuple_tup, isi_tuple_lst, isi_tuple_non, isi_tuple_str, isi_list_int, isi_list_bl, isi_list_tup, isi_list_lst, isi_list_non, isi_list_str, isi_str_int, isi_str_bl, isi_str_tup, isi_str_lst, isi_str_non, isi_str_str, isN_non, notN_non, nonD_non, nonD_int, nonD_bl, nonD_tup, nonD_lst, nonD_str, Z_bTup, Z_bsC, Z_bsN, Z_bNm, Option.bind_some, Option.map_some, List.getElem?_cons_zero, List.getElem?_cons_succ, List.set_cons_zero, List.set_cons_succ, List.length_cons, List.length_nil, id, Bool.not_true, Bool.not_false, List.length_map, List.length_set, decide_true, decide_false, eq_self, if_true, if_false, Bool.false_eq_true, decide_eq_true_eq, not_true_eq_false, not_false_eq_true, true_and, and_true, Int.cast_ofNat_Int, Int.reduceLT, Int.reduceLE, Int.reduceEq, bindT, wipeE, backE, Z_seq, Z_pC, Z_v0, Z_vS, Z_iP, Z_p1, Z_p2, Z_i1, Z_i2, Z_psN, Z_psC, Z_isN, Z_isC, Z_pN, Z_iN, Z_bP, Z_bI, Z_liftB, Z_andP, Z_orP, Z_bNotP, Z_andI, Z_orI, Z_bNotI, Z_pAnd, Z_pOr, Z_pNot, Z_iAnd, Z_iOr, Z_iNot, Z_pIf, Z_iIf, Z_pChain, Z_iCall, Z_iMod, Z_ivSeq, Z_itSeq, Z_ivN, Z_itN, Z_sNx, Z_sBk, Z_sCt, Z_if, Z_sAsg, Z_sEx, Z_sRt, Z_sRtN, Z_sRtO, Z_sAug, Z_sTg, Z_sFor, Z_asB, Z_lstOf, Z_set, Z_app2, Z_appK, Z_sPar, Z_whl, Z_no, Z_ite', Z_some, Z_pComp, Z_iComp, Z_pSl, ZpO_some, ↓Z_forL_nil, ↓Z_forL_cons, ↓Z_compP_nil, ↓Z_compP_cons, ↓Z_compI_nil, ↓Z_compI_cons, ↓Z_bYes, ↓Z_iYes, Z_forL_nil, Z_forL_cons, Z_compP_nil, Z_compP_cons, Z_compI_nil, Z_compI_cons, s__law_is_integer]
theorem is_word_spec {w : List Int} {n : Nat} (hw : inR n w) : C__law_is_word [TI w, .int (n : Int)] = some (.bl true) := by
  refine Z_run rfl ?_
  simp -dsimp only [↓Z_seq, ↓Z_pC, ↓Z_v0, ↓Z_vS, ↓Z_iP, ↓Z_p1, ↓Z_p2, ↓Z_i1, ↓Z_i2, ↓Z_psN, ↓Z_psC, ↓Z_isN, ↓Z_isC, ↓Z_pN, ↓Z_iN, ↓Z_bP, ↓Z_bI, ↓Z_liftB, ↓Z_andP, ↓Z_orP, ↓Z_bNotP, ↓Z_andI, ↓Z_orI, ↓Z_bNotI, ↓Z_pAnd, ↓Z_pOr, ↓Z_pNot, ↓Z_iAnd, ↓Z_iOr, ↓Z_iNot, ↓Z_pIf, ↓Z_iIf, ↓Z_pChain, ↓Z_iCall, ↓Z_iMod, ↓Z_ivSeq, ↓Z_itSeq, ↓Z_ivN, ↓Z_itN, ↓Z_sNx, ↓Z_sBk, ↓Z_sCt, ↓Z_if, ↓Z_sAsg, ↓Z_sEx, ↓Z_sRt, ↓Z_sRtN, ↓Z_sRtO, ↓Z_sAug, ↓Z_sTg, ↓Z_sFor, ↓Z_asB, ↓Z_lstOf, ↓Z_set, ↓Z_app2, ↓Z_appK, ↓Z_sPar, X_ex2, ↓Z_whl, ↓Z_no, ↓Z_ite', ↓Z_some, Z_map, ↓Z_pComp, ↓Z_iComp, ↓Z_pSl, pO_none, ↓ZpO_some, ZpO_int, Zx_nx, Zx_rt, Zx_bk, Zx_ct, Zf_nx, Zf_ct, Zf_bk, Zf_rt, Zr_rt, Zr_nx, Zr1_rt, Zr1_nx, wIf_t, wIf_f, wIf_not, sE, List.map_cons, List.map_nil, List.replicate_succ, List.replicate_zero, List.cons_append, List.nil_append, Nat.reduceSub, Nat.reduceAdd, nLen_lst, nLen_tup, nInt_int, nList_lst, nList_tup, nList_scr, nTuple_lst, nTuple_tup, nIx_lst, nIx_tup, seqOf_lst, seqOf_tup, gRev_eq, gPop_eq, nI2_i, nIc_ok, nCmp_i, nAdd_i, nEq_int, nNe_int, nEq_bl, nNe_bl, nEq_TI, nNe_TI, nEq_LI, nNe_LI, nIn_TI, nIn_LI, X_fld, max2, min2, nTupD0, nTupD1, nTupD2, nTupD3, nTupD4, nLstD0, nLstD1, nLstD2, nLstD3, nLstD4, isi_int_int, isi_int_bl, isi_int_tup, isi_int_lst, isi_int_non, isi_int_str, isi_bool_int, isi_bool_bl, isi_bool_tup, isi_bool_lst, isi_bool_non, isi_bool_str, isi_tuple_int, isi_tuple_bl, isi_tuple_tup, isi_tuple_lst, isi_tuple_non, isi_tuple_str, isi_list_int, isi_list_bl, isi_list_tup, isi_list_lst, isi_list_non, isi_list_str, isi_str_int, isi_str_bl, isi_str_tup, isi_str_lst, isi_str_non, isi_str_str, isN_non, notN_non, nonD_non, nonD_int, nonD_bl, nonD_tup, nonD_lst, nonD_str, Z_bTup, Z_bsC, Z_bsN, Z_bNm, Option.bind_some, Option.map_some, List.getElem?_cons_zero, List.getElem?_cons_succ, List.set_cons_zero, List.set_cons_succ, List.length_cons, List.length_nil, id, Bool.not_true, Bool.not_false, List.length_map, List.length_set, decide_true, decide_false, eq_self, if_true, if_false, Bool.false_eq_true, decide_eq_true_eq, not_true_eq_false, not_false_eq_true, true_and, and_true, Int.cast_ofNat_Int, Int.reduceLT, Int.reduceLE, Int.reduceEq, bindT, wipeE, backE, Z_seq, Z_pC, Z_v0, Z_vS, Z_iP, Z_p1, Z_p2, Z_i1, Z_i2, Z_psN, Z_psC, Z_isN, Z_isC, Z_pN, Z_iN, Z_bP, Z_bI, Z_liftB, Z_andP, Z_orP, Z_bNotP, Z_andI, Z_orI, Z_bNotI, Z_pAnd, Z_pOr, Z_pNot, Z_iAnd, Z_iOr, Z_iNot, Z_pIf, Z_iIf, Z_pChain, Z_iCall, Z_iMod, Z_ivSeq, Z_itSeq, Z_ivN, Z_itN, Z_sNx, Z_sBk, Z_sCt, Z_if, Z_sAsg, Z_sEx, Z_sRt, Z_sRtN, Z_sRtO, Z_sAug, Z_sTg, Z_sFor, Z_asB, Z_lstOf, Z_set, Z_app2, Z_appK, Z_sPar, Z_whl, Z_no, Z_ite', Z_some, Z_pComp, Z_iComp, Z_pSl, ZpO_some, ↓Z_forL_nil, ↓Z_forL_cons, ↓Z_compP_nil, ↓Z_compP_cons, ↓Z_compI_nil, ↓Z_compI_cons, ↓Z_bYes, ↓Z_iYes, Z_forL_nil, Z_forL_cons, Z_compP_nil, Z_compP_cons, Z_compI_nil, Z_compI_cons, s__law_is_word]
  refine Z_forA D.int w (fun k env => ∃ v, env = [some (TI w), some (.int (n : Int)), v]) _ ⟨_, rfl⟩ ?_ ?_
  · rintro k a env hk ⟨v, rfl⟩
    have ha := hw a (List.mem_of_getElem? hk)
    have h1 : ¬ a < 0 := by omega
    have h2 : ¬ (n : Int) ≤ a := by omega
    simp -dsimp only [↓Z_seq, ↓Z_pC, ↓Z_v0, ↓Z_vS, ↓Z_iP, ↓Z_p1, ↓Z_p2, ↓Z_i1, ↓Z_i2, ↓Z_psN, ↓Z_psC, ↓Z_isN, ↓Z_isC, ↓Z_pN, ↓Z_iN, ↓Z_bP, ↓Z_bI, ↓Z_liftB, ↓Z_andP, ↓Z_orP, ↓Z_bNotP, ↓Z_andI, ↓Z_orI, ↓Z_bNotI, ↓Z_pAnd, ↓Z_pOr, ↓Z_pNot, ↓Z_iAnd, ↓Z_iOr, ↓Z_iNot, ↓Z_pIf, ↓Z_iIf, ↓Z_pChain, ↓Z_iCall, ↓Z_iMod, ↓Z_ivSeq, ↓Z_itSeq, ↓Z_ivN, ↓Z_itN, ↓Z_sNx, ↓Z_sBk, ↓Z_sCt, ↓Z_if, ↓Z_sAsg, ↓Z_sEx, ↓Z_sRt, ↓Z_sRtN, ↓Z_sRtO, ↓Z_sAug, ↓Z_sTg, ↓Z_sFor, ↓Z_asB, ↓Z_lstOf, ↓Z_set, ↓Z_app2, ↓Z_appK, ↓Z_sPar, X_ex2, ↓Z_whl, ↓Z_no, ↓Z_ite', ↓Z_some, Z_map, ↓Z_pComp, ↓Z_iComp, ↓Z_pSl, pO_none, ↓ZpO_some, ZpO_int, Zx_nx, Zx_rt, Zx_bk, Zx_ct, Zf_nx, Zf_ct, Zf_bk, Zf_rt, Zr_rt, Zr_nx, Zr1_rt, Zr1_nx, wIf_t, wIf_f, wIf_not, sE, List.map_cons, List.map_nil, List.replicate_succ, List.replicate_zero, List.cons_append, List.nil_append, Nat.reduceSub, Nat.reduceAdd, nLen_lst, nLen_tup, nInt_int, nList_lst, nList_tup, nList_scr, nTuple_lst, nTuple_tup, nIx_lst, nIx_tup, seqOf_lst, seqOf_tup, gRev_eq, gPop_eq, nI2_i, nIc_ok, nCmp_i, nAdd_i, nEq_int, nNe_int, nEq_bl, nNe_bl, nEq_TI, nNe_TI, nEq_LI, nNe_LI, nIn_TI, nIn_LI, X_fld, max2, min2, nTupD0, nTupD1, nTupD2, nTupD3, nTupD4, nLstD0, nLstD1, nLstD2, nLstD3, nLstD4, isi_int_int, isi_int_bl, isi_int_tup, isi_int_lst, isi_int_non, isi_int_str, isi_bool_int, isi_bool_bl, isi_bool_tup, isi_bool_lst, isi_bool_non, isi_bool_str, isi_tuple_int, isi_tuple_bl, isi_tuple_tup, isi_tuple_lst, isi_tuple_non, isi_tuple_str, isi_list_int, isi_list_bl, isi_list_tup, isi_list_lst, isi_list_non, isi_list_str, isi_str_int, isi_str_bl, isi_str_tup, isi_str_lst, isi_str_non, isi_str_str, isN_non, notN_non, nonD_non, nonD_int, nonD_bl, nonD_tup, nonD_lst, nonD_str, Z_bTup, Z_bsC, Z_bsN, Z_bNm, Option.bind_some, Option.map_some, List.getElem?_cons_zero, List.getElem?_cons_succ, List.set_cons_zero, List.set_cons_succ, List.length_cons, List.length_nil, id, Bool.not_true, Bool.not_false, List.length_map, List.length_set, decide_true, decide_false, eq_self, if_true, if_false, Bool.false_eq_true, decide_eq_true_eq, not_true_eq_false, not_false_eq_true, true_and, and_true, Int.cast_ofNat_Int, Int.reduceLT, Int.reduceLE, Int.reduceEq, bindT, wipeE, backE, Z_seq, Z_pC, Z_v0, Z_vS, Z_iP, Z_p1, Z_p2, Z_i1, Z_i2, Z_psN, Z_psC, Z_isN, Z_isC, Z_pN, Z_iN, Z_bP, Z_bI, Z_liftB, Z_andP, Z_orP, Z_bNotP, Z_andI, Z_orI, Z_bNotI, Z_pAnd, Z_pOr, Z_pNot, Z_iAnd, Z_iOr, Z_iNot, Z_pIf, Z_iIf, Z_pChain, Z_iCall, Z_iMod, Z_ivSeq, Z_itSeq, Z_ivN, Z_itN, Z_sNx, Z_sBk, Z_sCt, Z_if, Z_sAsg, Z_sEx, Z_sRt, Z_sRtN, Z_sRtO, Z_sAug, Z_sTg, Z_sFor, Z_asB, Z_lstOf, Z_set, Z_app2, Z_appK, Z_sPar, Z_whl, Z_no, Z_ite', Z_some, Z_pComp, Z_iComp, Z_pSl, ZpO_some, ↓Z_forL_nil, ↓Z_forL_cons, ↓Z_compP_nil, ↓Z_compP_cons, ↓Z_compI_nil, ↓Z_compI_cons, ↓Z_bYes, ↓Z_iYes, Z_forL_nil, Z_forL_cons, Z_compP_nil, Z_compP_cons, Z_compI_nil, Z_compI_cons, is_integer_spec, h1, h2]
    exact ⟨_, rfl⟩
  · rintro env ⟨v, rfl⟩
    simp -dsimp only [↓Z_seq, ↓Z_pC, ↓Z_v0, ↓Z_vS, ↓Z_iP, ↓Z_p1, ↓Z_p2, ↓Z_i1, ↓Z_i2, ↓Z_psN, ↓Z_psC, ↓Z_isN, ↓Z_isC, ↓Z_pN, ↓Z_iN, ↓Z_bP, ↓Z_bI, ↓Z_liftB, ↓Z_andP, ↓Z_orP, ↓Z_bNotP, ↓Z_andI, ↓Z_orI, ↓Z_bNotI, ↓Z_pAnd, ↓Z_pOr, ↓Z_pNot, ↓Z_iAnd, ↓Z_iOr, ↓Z_iNot, ↓Z_pIf, ↓Z_iIf, ↓Z_pChain, ↓Z_iCall, ↓Z_iMod, ↓Z_ivSeq, ↓Z_itSeq, ↓Z_ivN, ↓Z_itN, ↓Z_sNx, ↓Z_sBk, ↓Z_sCt, ↓Z_if, ↓Z_sAsg, ↓Z_sEx, ↓Z_sRt, ↓Z_sRtN, ↓Z_sRtO, ↓Z_sAug, ↓Z_sTg, ↓Z_sFor, ↓Z_asB, ↓Z_lstOf, ↓Z_set, ↓Z_app2, ↓Z_appK, ↓Z_sPar, X_ex2, ↓Z_whl, ↓Z_no, ↓Z_ite', ↓Z_some, Z_map, ↓Z_pComp, ↓Z_iComp, ↓Z_pSl, pO_none, ↓ZpO_some, ZpO_int, Zx_nx, Zx_rt, Zx_bk, Zx_ct, Zf_nx, Zf_ct, Zf_bk, Zf_rt, Zr_rt, Zr_nx, Zr1_rt, Zr1_nx, wIf_t, wIf_f, wIf_not, sE, List.map_cons, List.map_nil, List.replicate_succ, List.replicate_zero, List.cons_append, List.nil_append, Nat.reduceSub, Nat.reduceAdd, nLen_lst, nLen_tup, nInt_int, nList_lst, nList_tup, nList_scr, nTuple_lst, nTuple_tup, nIx_lst, nIx_tup, seqOf_lst, seqOf_tup, gRev_eq, gPop_eq, nI2_i, nIc_ok, nCmp_i, nAdd_i, nEq_int, nNe_int, nEq_bl, nNe_bl, nEq_TI, nNe_TI, nEq_LI, nNe_LI, nIn_TI, nIn_LI, X_fld, max2, min2, nTupD0, nTupD1, nTupD2, nTupD3, nTupD4, nLstD0, nLstD1, nLstD2, nLstD3, nLstD4, isi_int_int, isi_int_bl, isi_int_tup, isi_int_lst, isi_int_non, isi_int_str, isi_bool_int, isi_bool_bl, isi_bool_tup, isi_bool_lst, isi_bool_non, isi_bool_str, isi_tuple_int, isi_tuple_bl, isi_tuple_tup, isi_tuple_lst, isi_tuple_non, isi_tuple_str, isi_list_int, isi_list_bl, isi_list_tup, isi_list_lst, isi_list_non, isi_list_str, isi_str_int, isi_str_bl, isi_str_tup, isi_str_lst, isi_str_non, isi_str_str, isN_non, notN_non, nonD_non, nonD_int, nonD_bl, nonD_tup, nonD_lst, nonD_str, Z_bTup, Z_bsC, Z_bsN, Z_bNm, Option.bind_some, Option.map_some, List.getElem?_cons_zero, List.getElem?_cons_succ, List.set_cons_zero, List.set_cons_succ, List.length_cons, List.length_nil, id, Bool.not_true, Bool.not_false, List.length_map, List.length_set, decide_true, decide_false, eq_self, if_true, if_false, Bool.false_eq_true, decide_eq_true_eq, not_true_eq_false, not_false_eq_true, true_and, and_true, Int.cast_ofNat_Int, Int.reduceLT, Int.reduceLE, Int.reduceEq, bindT, wipeE, backE, Z_seq, Z_pC, Z_v0, Z_vS, Z_iP, Z_p1, Z_p2, Z_i1, Z_i2, Z_psN, Z_psC, Z_isN, Z_isC, Z_pN, Z_iN, Z_bP, Z_bI, Z_liftB, Z_andP, Z_orP, Z_bNotP, Z_andI, Z_orI, Z_bNotI, Z_pAnd, Z_pOr, Z_pNot, Z_iAnd, Z_iOr, Z_iNot, Z_pIf, Z_iIf, Z_pChain, Z_iCall, Z_iMod, Z_ivSeq, Z_itSeq, Z_ivN, Z_itN, Z_sNx, Z_sBk, Z_sCt, Z_if, Z_sAsg, Z_sEx, Z_sRt, Z_sRtN, Z_sRtO, Z_sAug, Z_sTg, Z_sFor, Z_asB, Z_lstOf, Z_set, Z_app2, Z_appK, Z_sPar, Z_whl, Z_no, Z_ite', Z_some, Z_pComp, Z_iComp, Z_pSl, ZpO_some, ↓Z_forL_nil, ↓Z_forL_cons, ↓Z_compP_nil, ↓Z_compP_cons, ↓Z_compI_nil, ↓Z_compI_cons, ↓Z_bYes, ↓Z_iYes, Z_forL_nil, Z_forL_cons, Z_compP_nil, Z_compP_cons, Z_compI_nil, Z_compI_cons]
theorem all_words_spec {ws : List (List Int)} {n : Nat} (hw : ∀ w ∈ ws, inR n w) : C__law_all_words [.lst (LT ws), .int (n : Int)] = some (.bl true) := by
  refine Z_run rfl ?_
  simp -dsimp only [↓Z_seq, ↓Z_pC, ↓Z_v0, ↓Z_vS, ↓Z_iP, ↓Z_p1, ↓Z_p2, ↓Z_i1, ↓Z_i2, ↓Z_psN, ↓Z_psC, ↓Z_isN, ↓Z_isC, ↓Z_pN, ↓Z_iN, ↓Z_bP, ↓Z_bI, ↓Z_liftB, ↓Z_andP, ↓Z_orP, ↓Z_bNotP, ↓Z_andI, ↓Z_orI, ↓Z_bNotI, ↓Z_pAnd, ↓Z_pOr, ↓Z_pNot, ↓Z_iAnd, ↓Z_iOr, ↓Z_iNot, ↓Z_pIf, ↓Z_iIf, ↓Z_pChain, ↓Z_iCall, ↓Z_iMod, ↓Z_ivSeq, ↓Z_itSeq, ↓Z_ivN, ↓Z_itN, ↓Z_sNx, ↓Z_sBk, ↓Z_sCt, ↓Z_if, ↓Z_sAsg, ↓Z_sEx, ↓Z_sRt, ↓Z_sRtN, ↓Z_sRtO, ↓Z_sAug, ↓Z_sTg, ↓Z_sFor, ↓Z_asB, ↓Z_lstOf, ↓Z_set, ↓Z_app2, ↓Z_appK, ↓Z_sPar, X_ex2, ↓Z_whl, ↓Z_no, ↓Z_ite', ↓Z_some, Z_map, ↓Z_pComp, ↓Z_iComp, ↓Z_pSl, pO_none, ↓ZpO_some, ZpO_int, Zx_nx, Zx_rt, Zx_bk, Zx_ct, Zf_nx, Zf_ct, Zf_bk, Zf_rt, Zr_rt, Zr_nx, Zr1_rt, Zr1_nx, wIf_t, wIf_f, wIf_not, sE, List.map_cons, List.map_nil, List.replicate_succ, List.replicate_zero, List.cons_append, List.nil_append, Nat.reduceSub, Nat.reduceAdd, nLen_lst, nLen_tup, nInt_int, nList_lst, nList_tup, nList_scr, nTuple_lst, nTuple_tup, nIx_lst, nIx_tup, seqOf_lst, seqOf_tup, gRev_eq, gPop_eq, nI2_i, nIc_ok, nCmp_i, nAdd_i, nEq_int, nNe_int, nEq_bl, nNe_bl, nEq_TI, nNe_TI, nEq_LI, nNe_LI, nIn_TI, nIn_LI, X_fld, max2, min2, nTupD0, nTupD1, nTupD2, nTupD3, nTupD4, nLstD0, nLstD1, nLstD2, nLstD3, nLstD4, isi_int_int, isi_int_bl, isi_int_tup, isi_int_lst, isi_int_non, isi_int_str, isi_bool_int, isi_bool_bl, isi_bool_tup, isi_bool_lst, isi_bool_non, isi_bool_str, isi_tuple_int, isi_tuple_bl, isi_tuple_tup, isi_tuple_lst, isi_tuple_non, isi_tuple_str, isi_list_int, isi_list_bl, isi_list_tup, isi_list_lst, isi_list_non, isi_list_str, isi_str_int, isi_str_bl, isi_str_tup, isi_str_lst, isi_str_non, isi_str_str, isN_non, notN_non, nonD_non, nonD_int, nonD_bl, nonD_tup, nonD_lst, nonD_str, Z_bTup, Z_bsC, Z_bsN, Z_bNm, Option.bind_some, Option.map_some, List.getElem?_cons_zero, List.getElem?_cons_succ, List.set_cons_zero, List.set_cons_succ, List.length_cons, List.length_nil, id, Bool.not_true, Bool.not_false, List.length_map, List.length_set, decide_true, decide_false, eq_self, if_true, if_false, Bool.false_eq_true, decide_eq_true_eq, not_true_eq_false, not_false_eq_true, true_and, and_true, Int.cast_ofNat_Int, Int.reduceLT, Int.reduceLE, Int.reduceEq, bindT, wipeE, backE, Z_seq, Z_pC, Z_v0, Z_vS, Z_iP, Z_p1, Z_p2, Z_i1, Z_i2, Z_psN, Z_psC, Z_isN, Z_isC, Z_pN, Z_iN, Z_bP, Z_bI, Z_liftB, Z_andP, Z_orP, Z_bNotP, Z_andI, Z_orI, Z_bNotI, Z_pAnd, Z_pOr, Z_pNot, Z_iAnd, Z_iOr, Z_iNot, Z_pIf, Z_iIf, Z_pChain, Z_iCall, Z_iMod, Z_ivSeq, Z_itSeq, Z_ivN, Z_itN, Z_sNx, Z_sBk, Z_sCt, Z_if, Z_sAsg, Z_sEx, Z_sRt, Z_sRtN, Z_sRtO, Z_sAug, Z_sTg, Z_sFor, Z_asB, Z_lstOf, Z_set, Z_app2, Z_appK, Z_sPar, Z_whl, Z_no, Z_ite', Z_some, Z_pComp, Z_iComp, Z_pSl, ZpO_some, ↓Z_forL_nil, ↓Z_forL_cons, ↓Z_compP_nil, ↓Z_compP_cons, ↓Z_compI_nil, ↓Z_compI_cons, ↓Z_bYes, ↓Z_iYes, Z_forL_nil, Z_forL_cons, Z_compP_nil, Z_compP_cons, Z_compI_nil, Z_compI_cons, s__law_all_words]
  refine Z_forA (fun l : List Int => D.tup (LI l)) ws (fun k env => ∃ v, env = [some (.lst (LT ws)), some (.int (n : Int)), v]) _ ⟨_, rfl⟩ ?_ ?_
  · rintro k a env hk ⟨v, rfl⟩
    simp -dsimp only [↓Z_seq, ↓Z_pC, ↓Z_v0, ↓Z_vS, ↓Z_iP, ↓Z_p1, ↓Z_p2, ↓Z_i1, ↓Z_i2, ↓Z_psN, ↓Z_psC, ↓Z_isN, ↓Z_isC, ↓Z_pN, ↓Z_iN, ↓Z_bP, ↓Z_bI, ↓Z_liftB, ↓Z_andP, ↓Z_orP, ↓Z_bNotP, ↓Z_andI, ↓Z_orI, ↓Z_bNotI, ↓Z_pAnd, ↓Z_pOr, ↓Z_pNot, ↓Z_iAnd, ↓Z_iOr, ↓Z_iNot, ↓Z_pIf, ↓Z_iIf, ↓Z_pChain, ↓Z_iCall, ↓Z_iMod, ↓Z_ivSeq, ↓Z_itSeq, ↓Z_ivN, ↓Z_itN, ↓Z_sNx, ↓Z_sBk, ↓Z_sCt, ↓Z_if, ↓Z_sAsg, ↓Z_sEx, ↓Z_sRt, ↓Z_sRtN, ↓Z_sRtO, ↓Z_sAug, ↓Z_sTg, ↓Z_sFor, ↓Z_asB, ↓Z_lstOf, ↓Z_set, ↓Z_app2, ↓Z_appK, ↓Z_sPar, X_ex2, ↓Z_whl, ↓Z_no, ↓Z_ite', ↓Z_some, Z_map, ↓Z_pComp, ↓Z_iComp, ↓Z_pSl, pO_none, ↓ZpO_some, ZpO_int, Zx_nx, Zx_rt, Zx_bk, Zx_ct, Zf_nx, Zf_ct, Zf_bk, Zf_rt, Zr_rt, Zr_nx, Zr1_rt, Zr1_nx, wIf_t, wIf_f, wIf_not, sE, List.map_cons, List.map_nil, List.replicate_succ, List.replicate_zero, List.cons_append, List.nil_append, Nat.reduceSub, Nat.reduceAdd, nLen_lst, nLen_tup, nInt_int, nList_lst, nList_tup, nList_scr, nTuple_lst, nTuple_tup, nIx_lst, nIx_tup, seqOf_lst, seqOf_tup, gRev_eq, gPop_eq, nI2_i, nIc_ok, nCmp_i, nAdd_i, nEq_int, nNe_int, nEq_bl, nNe_bl, nEq_TI, nNe_TI, nEq_LI, nNe_LI, nIn_TI, nIn_LI, X_fld, max2, min2, nTupD0, nTupD1, nTupD2, nTupD3, nTupD4, nLstD0, nLstD1, nLstD2, nLstD3, nLstD4, isi_int_int, isi_int_bl, isi_int_tup, isi_int_lst, isi_int_non, isi_int_str, isi_bool_int, isi_bool_bl, isi_bool_tup, isi_bool_lst, isi_bool_non, isi_bool_str, isi_tuple_int, isi_tuple_bl, isi_tuple_tup, isi_tuple_lst, isi_tuple_non, isi_tuple_str, isi_list_int, isi_list_bl, isi_list_tup, isi_list_lst, isi_list_non, isi_list_str, isi_str_int, isi_str_bl, isi_str_tup, isi_str_lst, isi_str_non, isi_str_str, isN_non, notN_non, nonD_non, nonD_int, nonD_bl, nonD_tup, nonD_lst, nonD_str, Z_bTup, Z_bsC, Z_bsN, Z_bNm, Option.bind_some, Option.map_some, List.getElem?_cons_zero, List.getElem?_cons_succ, List.set_cons_zero, List.set_cons_succ, List.length_cons, List.length_nil, id, Bool.not_true, Bool.not_false, List.length_map, List.length_set, decide_true, decide_false, eq_self, if_true, if_false, Bool.false_eq_true, decide_eq_true_eq, not_true_eq_false, not_false_eq_true, true_and, and_true, Int.cast_ofNat_Int, Int.reduceLT, Int.reduceLE, Int.reduceEq, bindT, wipeE, backE, Z_seq, Z_pC, Z_v0, Z_vS, Z_iP, Z_p1, Z_p2, Z_i1, Z_i2, Z_psN, Z_psC, Z_isN, Z_isC, Z_pN, Z_iN, Z_bP, Z_bI, Z_liftB, Z_andP, Z_orP, Z_bNotP, Z_andI, Z_orI, Z_bNotI, Z_pAnd, Z_pOr, Z_pNot, Z_iAnd, Z_iOr, Z_iNot, Z_pIf, Z_iIf, Z_pChain, Z_iCall, Z_iMod, Z_ivSeq, Z_itSeq, Z_ivN, Z_itN, Z_sNx, Z_sBk, Z_sCt, Z_if, Z_sAsg, Z_sEx, Z_sRt, Z_sRtN, Z_sRtO, Z_sAug, Z_sTg, Z_sFor, Z_asB, Z_lstOf, Z_set, Z_app2, Z_appK, Z_sPar, Z_whl, Z_no, Z_ite', Z_some, Z_pComp, Z_iComp, Z_pSl, ZpO_some, ↓Z_forL_nil, ↓Z_forL_cons, ↓Z_compP_nil, ↓Z_compP_cons, ↓Z_compI_nil, ↓Z_compI_cons, ↓Z_bYes, ↓Z_iYes, Z_forL_nil, Z_forL_cons, Z_compP_nil, Z_compP_cons, Z_compI_nil, Z_compI_cons, is_word_spec (hw a (List.mem_of_getElem? hk))]
    exact ⟨_, rfl⟩
  · rintro env ⟨v, rfl⟩
    simp -dsimp only [↓Z_seq, ↓Z_pC, ↓Z_v0, ↓Z_vS, ↓Z_iP, ↓Z_p1, ↓Z_p2, ↓Z_i1, ↓Z_i2, ↓Z_psN, ↓Z_psC, ↓Z_isN, ↓Z_isC, ↓Z_pN, ↓Z_iN, ↓Z_bP, ↓Z_bI, ↓Z_liftB, ↓Z_andP, ↓Z_orP, ↓Z_bNotP, ↓Z_andI, ↓Z_orI, ↓Z_bNotI, ↓Z_pAnd, ↓Z_pOr, ↓Z_pNot, ↓Z_iAnd, ↓Z_iOr, ↓Z_iNot, ↓Z_pIf, ↓Z_iIf, ↓Z_pChain, ↓Z_iCall, ↓Z_iMod, ↓Z_ivSeq, ↓Z_itSeq, ↓Z_ivN, ↓Z_itN, ↓Z_sNx, ↓Z_sBk, ↓Z_sCt, ↓Z_if, ↓Z_sAsg, ↓Z_sEx, ↓Z_sRt, ↓Z_sRtN, ↓Z_sRtO, ↓Z_sAug, ↓Z_sTg, ↓Z_sFor, ↓Z_asB, ↓Z_lstOf, ↓Z_set, ↓Z_app2, ↓Z_appK, ↓Z_sPar, X_ex2, ↓Z_whl, ↓Z_no, ↓Z_ite', ↓Z_some, Z_map, ↓Z_pComp, ↓Z_iComp, ↓Z_pSl, pO_none, ↓ZpO_some, ZpO_int, Zx_nx, Zx_rt, Zx_bk, Zx_ct, Zf_nx, Zf_ct, Zf_bk, Zf_rt, Zr_rt, Zr_nx, Zr1_rt, Zr1_nx, wIf_t, wIf_f, wIf_not, sE, List.map_cons, List.map_nil, List.replicate_succ, List.replicate_zero, List.cons_append, List.nil_append, Nat.reduceSub, Nat.reduceAdd, nLen_lst, nLen_tup, nInt_int, nList_lst, nList_tup, nList_scr, nTuple_lst, nTuple_tup, nIx_lst, nIx_tup, seqOf_lst, seqOf_tup, gRev_eq, gPop_eq, nI2_i, nIc_ok, nCmp_i, nAdd_i, nEq_int, nNe_int, nEq_bl, nNe_bl, nEq_TI, nNe_TI, nEq_LI, nNe_LI, nIn_TI, nIn_LI, X_fld, max2, min2, nTupD0, nTupD1, nTupD2, nTupD3, nTupD4, nLstD0, nLstD1, nLstD2, nLstD3, nLstD4, isi_int_int, isi_int_bl, isi_int_tup, isi_int_lst, isi_int_non, isi_int_str, isi_bool_int, isi_bool_bl, isi_bool_tup, isi_bool_lst, isi_bool_non, isi_bool_str, isi_tuple_int, isi_tuple_bl, isi_tuple_tup, isi_tuple_lst, isi_tuple_non, isi_tuple_str, isi_list_int, isi_list_bl, isi_list_tup, isi_list_lst, isi_list_non, isi_list_str, isi_str_int, isi_str_bl, isi_str_tup, isi_str_lst, isi_str_non, isi_str_str, isN_non, notN_non, nonD_non, nonD_int, nonD_bl, nonD_tup, nonD_lst, nonD_str, Z_bTup, Z_bsC, Z_bsN, Z_bNm, Option.bind_some, Option.map_some, List.getElem?_cons_zero, List.getElem?_cons_succ, List.set_cons_zero, List.set_cons_succ, List.length_cons, List.length_nil, id, Bool.not_true, Bool.not_false, List.length_map, List.length_set, decide_true, decide_false, eq_self, if_true, if_false, Bool.false_eq_true, decide_eq_true_eq, not_true_eq_false, not_false_eq_true, true_and, and_true, Int.cast_ofNat_Int, Int.reduceLT, Int.reduceLE, Int.reduceEq, bindT, wipeE, backE, Z_seq, Z_pC, Z_v0, Z_vS, Z_iP, Z_p1, Z_p2, Z_i1, Z_i2, Z_psN, Z_psC, Z_isN, Z_isC, Z_pN, Z_iN, Z_bP, Z_bI, Z_liftB, Z_andP, Z_orP, Z_bNotP, Z_andI, Z_orI, Z_bNotI, Z_pAnd, Z_pOr, Z_pNot, Z_iAnd, Z_iOr, Z_iNot, Z_pIf, Z_iIf, Z_pChain, Z_iCall, Z_iMod, Z_ivSeq, Z_itSeq, Z_ivN, Z_itN, Z_sNx, Z_sBk, Z_sCt, Z_if, Z_sAsg, Z_sEx, Z_sRt, Z_sRtN, Z_sRtO, Z_sAug, Z_sTg, Z_sFor, Z_asB, Z_lstOf, Z_set, Z_app2, Z_appK, Z_sPar, Z_whl, Z_no, Z_ite', Z_some, Z_pComp, Z_iComp, Z_pSl, ZpO_some, ↓Z_forL_nil, ↓Z_forL_cons, ↓Z_compP_nil, ↓Z_compP_cons, ↓Z_compI_nil, ↓Z_compI_cons, ↓Z_bYes, ↓Z_iYes, Z_forL_nil, Z_forL_cons, Z_compP_nil, Z_compP_cons, Z_compI_nil, Z_compI_cons]
/-- the words of all places are the same -/
theorem alike_spec {L : List (List Int)} {u v : List Int} (c : Nat) (hc : c < 100) (hu : inR L.length u) (hv : inR L.length v) (lu : u.length < 100000) (lv : v.length < 100000) :
    C__law_alike [.int (c : Int), .lst (LT L), TI u, TI v] = some (.bl (decide (∀ p : Nat, p < c → proj L (p : Int) u = proj L (p : Int) v))) := by
  refine Z_run rfl ?_
  simp -dsimp only [↓Z_seq, ↓Z_pC, ↓Z_v0, ↓Z_vS, ↓Z_iP, ↓Z_p1, ↓Z_p2, ↓Z_i1, ↓Z_i2, ↓Z_psN, ↓Z_psC, ↓Z_isN, ↓Z_isC, ↓Z_pN, ↓Z_iN, ↓Z_bP, ↓Z_bI, ↓Z_liftB, ↓Z_andP, ↓Z_orP, ↓Z_bNotP, ↓Z_andI, ↓Z_orI, ↓Z_bNotI, ↓Z_pAnd, ↓Z_pOr, ↓Z_pNot, ↓Z_iAnd, ↓Z_iOr, ↓Z_iNot, ↓Z_pIf, ↓Z_iIf, ↓Z_pChain, ↓Z_iCall, ↓Z_iMod, ↓Z_ivSeq, ↓Z_itSeq, ↓Z_ivN, ↓Z_itN, ↓Z_sNx, ↓Z_sBk, ↓Z_sCt, ↓Z_if, ↓Z_sAsg, ↓Z_sEx, ↓Z_sRt, ↓Z_sRtN, ↓Z_sRtO, ↓Z_sAug, ↓Z_sTg, ↓Z_sFor, ↓Z_asB, ↓Z_lstOf, ↓Z_set, ↓Z_app2, ↓Z_appK, ↓Z_sPar, X_ex2, ↓Z_whl, ↓Z_no, ↓Z_ite', ↓Z_some, Z_map, ↓Z_pComp, ↓Z_iComp, ↓Z_pSl, pO_none, ↓ZpO_some, ZpO_int, Zx_nx, Zx_rt, Zx_bk, Zx_ct, Zf_nx, Zf_ct, Zf_bk, Zf_rt, Zr_rt, Zr_nx, Zr1_rt, Zr1_nx, wIf_t, wIf_f, wIf_not, sE, List.map_cons, List.map_nil, List.replicate_succ, List.replicate_zero, List.cons_append, List.nil_append, Nat.reduceSub, Nat.reduceAdd, nLen_lst, nLen_tup, nInt_int, nList_lst, nList_tup, nList_scr, nTuple_lst, nTuple_tup, nIx_lst, nIx_tup, seqOf_lst, seqOf_tup, gRev_eq, gPop_eq, nI2_i, nIc_ok, nCmp_i, nAdd_i, nEq_int, nNe_int, nEq_bl, nNe_bl, nEq_TI, nNe_TI, nEq_LI, nNe_LI, nIn_TI, nIn_LI, X_fld, max2, min2, nTupD0, nTupD1, nTupD2, nTupD3, nTupD4, nLstD0, nLstD1, nLstD2, nLstD3, nLstD4, isi_int_int, isi_int_bl, isi_int_tup, isi_int_lst, isi_int_non, isi_int_str, isi_bool_int, isi_bool_bl, isi_bool_tup, isi_bool_lst, isi_bool_non, isi_bool_str, isi_tuple_int, isi_tuple_bl, isi_tuple_tup, isi_tuple_lst, isi_tuple_non, isi_tuple_str, isi_list_int, isi_list_bl, isi_list_tup, isi_list_lst, isi_list_non, isi_list_str, isi_str_int, isi_str_bl, isi_str_tup, isi_str_lst, isi_str_non, isi_str_str, isN_non, notN_non, nonD_non, nonD_int, nonD_bl, nonD_tup, nonD_lst, nonD_str, Z_bTup, Z_bsC, Z_bsN, Z_bNm, Option.bind_some, Option.map_some, List.getElem?_cons_zero, List.getElem?_cons_succ, List.set_cons_zero, List.set_cons_succ, List.length_cons, List.length_nil, id, Bool.not_true, Bool.not_false, List.length_map, List.length_set, decide_true, decide_false, eq_self, if_true, if_false, Bool.false_eq_true, decide_eq_true_eq, not_true_eq_false, not_false_eq_true, true_and, and_true, Int.cast_ofNat_Int, Int.reduceLT, Int.reduceLE, Int.reduceEq, bindT, wipeE, backE, Z_seq, Z_pC, Z_v0, Z_vS, Z_iP, Z_p1, Z_p2, Z_i1, Z_i2, Z_psN, Z_psC, Z_isN, Z_isC, Z_pN, Z_iN, Z_bP, Z_bI, Z_liftB, Z_andP, Z_orP, Z_bNotP, Z_andI, Z_orI, Z_bNotI, Z_pAnd, Z_pOr, Z_pNot, Z_iAnd, Z_iOr, Z_iNot, Z_pIf, Z_iIf, Z_pChain, Z_iCall, Z_iMod, Z_ivSeq, Z_itSeq, Z_ivN, Z_itN, Z_sNx, Z_sBk, Z_sCt, Z_if, Z_sAsg, Z_sEx, Z_sRt, Z_sRtN, Z_sRtO, Z_sAug, Z_sTg, Z_sFor, Z_asB, Z_lstOf, Z_set, Z_app2, Z_appK, Z_sPar, Z_whl, Z_no, Z_ite', Z_some, Z_pComp, Z_iComp, Z_pSl, ZpO_some, ↓Z_forL_nil, ↓Z_forL_cons, ↓Z_compP_nil, ↓Z_compP_cons, ↓Z_compI_nil, ↓Z_compI_cons, ↓Z_bYes, ↓Z_iYes, Z_forL_nil, Z_forL_cons, Z_compP_nil, Z_compP_cons, Z_compI_nil, Z_compI_cons, s__law_alike, rngN (show c < 1000000 by omega)]
  refine Z_forR (fun k env => (∀ p : Nat, p < k → proj L (p : Int) u = proj L (p : Int) v) ∧ ∃ o, env = [some (.int (c : Int)), some (.lst (LT L)), some (TI u), some (TI v), o]) _ ⟨fun p hp => absurd hp (Nat.not_lt_zero p), _, rfl⟩ ?_ ?_
  · rintro k env hk ⟨hall, o, rfl⟩
    simp -dsimp only [↓Z_seq, ↓Z_pC, ↓Z_v0, ↓Z_vS, ↓Z_iP, ↓Z_p1, ↓Z_p2, ↓Z_i1, ↓Z_i2, ↓Z_psN, ↓Z_psC, ↓Z_isN, ↓Z_isC, ↓Z_pN, ↓Z_iN, ↓Z_bP, ↓Z_bI, ↓Z_liftB, ↓Z_andP, ↓Z_orP, ↓Z_bNotP, ↓Z_andI, ↓Z_orI, ↓Z_bNotI, ↓Z_pAnd, ↓Z_pOr, ↓Z_pNot, ↓Z_iAnd, ↓Z_iOr, ↓Z_iNot, ↓Z_pIf, ↓Z_iIf, ↓Z_pChain, ↓Z_iCall, ↓Z_iMod, ↓Z_ivSeq, ↓Z_itSeq, ↓Z_ivN, ↓Z_itN, ↓Z_sNx, ↓Z_sBk, ↓Z_sCt, ↓Z_if, ↓Z_sAsg, ↓Z_sEx, ↓Z_sRt, ↓Z_sRtN, ↓Z_sRtO, ↓Z_sAug, ↓Z_sTg, ↓Z_sFor, ↓Z_asB, ↓Z_lstOf, ↓Z_set, ↓Z_app2, ↓Z_appK, ↓Z_sPar, X_ex2, ↓Z_whl, ↓Z_no, ↓Z_ite', ↓Z_some, Z_map, ↓Z_pComp, ↓Z_iComp, ↓Z_pSl, pO_none, ↓ZpO_some, ZpO_int, Zx_nx, Zx_rt, Zx_bk, Zx_ct, Zf_nx, Zf_ct, Zf_bk, Zf_rt, Zr_rt, Zr_nx, Zr1_rt, Zr1_nx, wIf_t, wIf_f, wIf_not, sE, List.map_cons, List.map_nil, List.replicate_succ, List.replicate_zero, List.cons_append, List.nil_append, Nat.reduceSub, Nat.reduceAdd, nLen_lst, nLen_tup, nInt_int, nList_lst, nList_tup, nList_scr, nTuple_lst, nTuple_tup, nIx_lst, nIx_tup, seqOf_lst, seqOf_tup, gRev_eq, gPop_eq, nI2_i, nIc_ok, nCmp_i, nAdd_i, nEq_int, nNe_int, nEq_bl, nNe_bl, nEq_TI, nNe_TI, nEq_LI, nNe_LI, nIn_TI, nIn_LI, X_fld, max2, min2, nTupD0, nTupD1, nTupD2, nTupD3, nTupD4, nLstD0, nLstD1, nLstD2, nLstD3, nLstD4, isi_int_int, isi_int_bl, isi_int_tup, isi_int_lst, isi_int_non, isi_int_str, isi_bool_int, isi_bool_bl, isi_bool_tup, isi_bool_lst, isi_bool_non, isi_bool_str, isi_tuple_int, isi_tuple_bl, isi_tuple_tup, isi_tuple_lst, isi_tuple_non, isi_tuple_str, isi_list_int, isi_list_bl, isi_list_tup, isi_list_lst, isi_list_non, isi_list_str, isi_str_int, isi_str_bl, isi_str_tup, isi_str_lst, isi_str_non, isi_str_str, isN_non, notN_non, nonD_non, nonD_int, nonD_bl, nonD_tup, nonD_lst, nonD_str, Z_bTup, Z_bsC, Z_bsN, Z_bNm, Option.bind_some, Option.map_some, List.getElem?_cons_zero, List.getElem?_cons_succ, List.set_cons_zero, List.set_cons_succ, List.length_cons, List.length_nil, id, Bool.not_true, Bool.not_false, List.length_map, List.length_set, decide_true, decide_false, eq_self, if_true, if_false, Bool.false_eq_true, decide_eq_true_eq, not_true_eq_false, not_false_eq_true, true_and, and_true, Int.cast_ofNat_Int, Int.reduceLT, Int.reduceLE, Int.reduceEq, bindT, wipeE, backE, Z_seq, Z_pC, Z_v0, Z_vS, Z_iP, Z_p1, Z_p2, Z_i1, Z_i2, Z_psN, Z_psC, Z_isN, Z_isC, Z_pN, Z_iN, Z_bP, Z_bI, Z_liftB, Z_andP, Z_orP, Z_bNotP, Z_andI, Z_orI, Z_bNotI, Z_pAnd, Z_pOr, Z_pNot, Z_iAnd, Z_iOr, Z_iNot, Z_pIf, Z_iIf, Z_pChain, Z_iCall, Z_iMod, Z_ivSeq, Z_itSeq, Z_ivN, Z_itN, Z_sNx, Z_sBk, Z_sCt, Z_if, Z_sAsg, Z_sEx, Z_sRt, Z_sRtN, Z_sRtO, Z_sAug, Z_sTg, Z_sFor, Z_asB, Z_lstOf, Z_set, Z_app2, Z_appK, Z_sPar, Z_whl, Z_no, Z_ite', Z_some, Z_pComp, Z_iComp, Z_pSl, ZpO_some, ↓Z_forL_nil, ↓Z_forL_cons, ↓Z_compP_nil, ↓Z_compP_cons, ↓Z_compI_nil, ↓Z_compI_cons, ↓Z_bYes, ↓Z_iYes, Z_forL_nil, Z_forL_cons, Z_compP_nil, Z_compP_cons, Z_compI_nil, Z_compI_cons, law_place_spec (k : Int) hu lu, law_place_spec (k : Int) hv lv]
    refine wIf_dec (fun h => ?_) (fun h => ?_)
    · simp -dsimp only [↓Z_seq, ↓Z_pC, ↓Z_v0, ↓Z_vS, ↓Z_iP, ↓Z_p1, ↓Z_p2, ↓Z_i1, ↓Z_i2, ↓Z_psN, ↓Z_psC, ↓Z_isN, ↓Z_isC, ↓Z_pN, ↓Z_iN, ↓Z_bP, ↓Z_bI, ↓Z_liftB, ↓Z_andP, ↓Z_orP, ↓Z_bNotP, ↓Z_andI, ↓Z_orI, ↓Z_bNotI, ↓Z_pAnd, ↓Z_pOr, ↓Z_pNot, ↓Z_iAnd, ↓Z_iOr, ↓Z_iNot, ↓Z_pIf, ↓Z_iIf, ↓Z_pChain, ↓Z_iCall, ↓Z_iMod, ↓Z_ivSeq, ↓Z_itSeq, ↓Z_ivN, ↓Z_itN, ↓Z_sNx, ↓Z_sBk, ↓Z_sCt, ↓Z_if, ↓Z_sAsg, ↓Z_sEx, ↓Z_sRt, ↓Z_sRtN, ↓Z_sRtO, ↓Z_sAug, ↓Z_sTg, ↓Z_sFor, ↓Z_asB, ↓Z_lstOf, ↓Z_set, ↓Z_app2, ↓Z_appK, ↓Z_sPar, X_ex2, ↓Z_whl, ↓Z_no, ↓Z_ite', ↓Z_some, Z_map, ↓Z_pComp, ↓Z_iComp, ↓Z_pSl, pO_none, ↓ZpO_some, ZpO_int, Zx_nx, Zx_rt, Zx_bk, Zx_ct, Zf_nx, Zf_ct, Zf_bk, Zf_rt, Zr_rt, Zr_nx, Zr1_rt, Zr1_nx, wIf_t, wIf_f, wIf_not, sE, List.map_cons, List.map_nil, List.replicate_succ, List.replicate_zero, List.cons_append, List.nil_append, Nat.reduceSub, Nat.reduceAdd, nLen_lst, nLen_tup, nInt_int, nList_lst, nList_tup, nList_scr, nTuple_lst, nTuple_tup, nIx_lst, nIx_tup, seqOf_lst, seqOf_tup, gRev_eq, gPop_eq, nI2_i, nIc_ok, nCmp_i, nAdd_i, nEq_int, nNe_int, nEq_bl, nNe_bl, nEq_TI, nNe_TI, nEq_LI, nNe_LI, nIn_TI, nIn_LI, X_fld, max2, min2, nTupD0, nTupD1, nTupD2, nTupD3, nTupD4, nLstD0, nLstD1, nLstD2, nLstD3, nLstD4, isi_int_int, isi_int_bl, isi_int_tup, isi_int_lst, isi_int_non, isi_int_str, isi_bool_int, isi_bool_bl, isi_bool_tup, isi_bool_lst, isi_bool_non, isi_bool_str, isi_tuple_int, isi_tuple_bl, isi_tuple_tup, isi_tuple_lst, isi_tuple_non, isi_tuple_str, isi_list_int, isi_list_bl, isi_list_tup, isi_list_lst, isi_list_non, isi_list_str, isi_str_int, isi_str_bl, isi_str_tup, isi_str_lst, isi_str_non, isi_str_str, isN_non, notN_non, nonD_non, nonD_int, nonD_bl, nonD_tup, nonD_lst, nonD_str, Z_bTup, Z_bsC, Z_bsN, Z_bNm, Option.bind_some, Option.map_some, List.getElem?_cons_zero, List.getElem?_cons_succ, List.set_cons_zero, List.set_cons_succ, List.length_cons, List.length_nil, id, Bool.not_true, Bool.not_false, List.length_map, List.length_set, decide_true, decide_false, eq_self, if_true, if_false, Bool.false_eq_true, decide_eq_true_eq, not_true_eq_false, not_false_eq_true, true_and, and_true, Int.cast_ofNat_Int, Int.reduceLT, Int.reduceLE, Int.reduceEq, bindT, wipeE, backE, Z_seq, Z_pC, Z_v0, Z_vS, Z_iP, Z_p1, Z_p2, Z_i1, Z_i2, Z_psN, Z_psC, Z_isN, Z_isC, Z_pN, Z_iN, Z_bP, Z_bI, Z_liftB, Z_andP, Z_orP, Z_bNotP, Z_andI, Z_orI, Z_bNotI, Z_pAnd, Z_pOr, Z_pNot, Z_iAnd, Z_iOr, Z_iNot, Z_pIf, Z_iIf, Z_pChain, Z_iCall, Z_iMod, Z_ivSeq, Z_itSeq, Z_ivN, Z_itN, Z_sNx, Z_sBk, Z_sCt, Z_if, Z_sAsg, Z_sEx, Z_sRt, Z_sRtN, Z_sRtO, Z_sAug, Z_sTg, Z_sFor, Z_asB, Z_lstOf, Z_set, Z_app2, Z_appK, Z_sPar, Z_whl, Z_no, Z_ite', Z_some, Z_pComp, Z_iComp, Z_pSl, ZpO_some, ↓Z_forL_nil, ↓Z_forL_cons, ↓Z_compP_nil, ↓Z_compP_cons, ↓Z_compI_nil, ↓Z_compI_cons, ↓Z_bYes, ↓Z_iYes, Z_forL_nil, Z_forL_cons, Z_compP_nil, Z_compP_cons, Z_compI_nil, Z_compI_cons]
      refine ⟨fun p hp => ?_, _, rfl⟩
      rcases Nat.lt_succ_iff_lt_or_eq.mp hp with hp | hp
      · exact hall p hp
      · rw [hp]; exact h
    · simp -dsimp only [↓Z_seq, ↓Z_pC, ↓Z_v0, ↓Z_vS, ↓Z_iP, ↓Z_p1, ↓Z_p2, ↓Z_i1, ↓Z_i2, ↓Z_psN, ↓Z_psC, ↓Z_isN, ↓Z_isC, ↓Z_pN, ↓Z_iN, ↓Z_bP, ↓Z_bI, ↓Z_liftB, ↓Z_andP, ↓Z_orP, ↓Z_bNotP, ↓Z_andI, ↓Z_orI, ↓Z_bNotI, ↓Z_pAnd, ↓Z_pOr, ↓Z_pNot, ↓Z_iAnd, ↓Z_iOr, ↓Z_iNot, ↓Z_pIf, ↓Z_iIf, ↓Z_pChain, ↓Z_iCall, ↓Z_iMod, ↓Z_ivSeq, ↓Z_itSeq, ↓Z_ivN, ↓Z_itN, ↓Z_sNx, ↓Z_sBk, ↓Z_sCt, ↓Z_if, ↓Z_sAsg, ↓Z_sEx, ↓Z_sRt, ↓Z_sRtN, ↓Z_sRtO, ↓Z_sAug, ↓Z_sTg, ↓Z_sFor, ↓Z_asB, ↓Z_lstOf, ↓Z_set, ↓Z_app2, ↓Z_appK, ↓Z_sPar, X_ex2, ↓Z_whl, ↓Z_no, ↓Z_ite', ↓Z_some, Z_map, ↓Z_pComp, ↓Z_iComp, ↓Z_pSl, pO_none, ↓ZpO_some, ZpO_int, Zx_nx, Zx_rt, Zx_bk, Zx_ct, Zf_nx, Zf_ct, Zf_bk, Zf_rt, Zr_rt, Zr_nx, Zr1_rt, Zr1_nx, wIf_t, wIf_f, wIf_not, sE, List.map_cons, List.map_nil, List.replicate_succ, List.replicate_zero, List.cons_append, List.nil_append, Nat.reduceSub, Nat.reduceAdd, nLen_lst, nLen_tup, nInt_int, nList_lst, nList_tup, nList_scr, nTuple_lst, nTuple_tup, nIx_lst, nIx_tup, seqOf_lst, seqOf_tup, gRev_eq, gPop_eq, nI2_i, nIc_ok, nCmp_i, nAdd_i, nEq_int, nNe_int, nEq_bl, nNe_bl, nEq_TI, nNe_TI, nEq_LI, nNe_LI, nIn_TI, nIn_LI, X_fld, max2, min2, nTupD0, nTupD1, nTupD2, nTupD3, nTupD4, nLstD0, nLstD1, nLstD2, nLstD3, nLstD4, isi_int_int, isi_int_bl, isi_int_tup, isi_int_lst, isi_int_non, isi_int_str, isi_bool_int, isi_bool_bl, isi_bool_tup, isi_bool_lst, isi_bool_non, isi_bool_str, isi_tuple_int, isi_tuple_bl, isi_tuple_tup, isi_tuple_lst, isi_tuple_non, isi_tuple_str, isi_list_int, isi_list_bl, isi_list_tup, isi_list_lst, isi_list_non, isi_list_str, isi_str_int, isi_str_bl, isi_str_tup, isi_str_lst, isi_str_non, isi_str_str, isN_non, notN_non, nonD_non, nonD_int, nonD_bl, nonD_tup, nonD_lst, nonD_str, Z_bTup, Z_bsC, Z_bsN, Z_bNm, Option.bind_some, Option.map_some, List.getElem?_cons_zero, List.getElem?_cons_succ, List.set_cons_zero, List.set_cons_succ, List.length_cons, List.length_nil, id, Bool.not_true, Bool.not_false, List.length_map, List.length_set, decide_true, decide_false, eq_self, if_true, if_false, Bool.false_eq_true, decide_eq_true_eq, not_true_eq_false, not_false_eq_true, true_and, and_true, Int.cast_ofNat_Int, Int.reduceLT, Int.reduceLE, Int.reduceEq, bindT, wipeE, backE, Z_seq, Z_pC, Z_v0, Z_vS, Z_iP, Z_p1, Z_p2, Z_i1, Z_i2, Z_psN, Z_psC, Z_isN, Z_isC, Z_pN, Z_iN, Z_bP, Z_bI, Z_liftB, Z_andP, Z_orP, Z_bNotP, Z_andI, Z_orI, Z_bNotI, Z_pAnd, Z_pOr, Z_pNot, Z_iAnd, Z_iOr, Z_iNot, Z_pIf, Z_iIf, Z_pChain, Z_iCall, Z_iMod, Z_ivSeq, Z_itSeq, Z_ivN, Z_itN, Z_sNx, Z_sBk, Z_sCt, Z_if, Z_sAsg, Z_sEx, Z_sRt, Z_sRtN, Z_sRtO, Z_sAug, Z_sTg, Z_sFor, Z_asB, Z_lstOf, Z_set, Z_app2, Z_appK, Z_sPar, Z_whl, Z_no, Z_ite', Z_some, Z_pComp, Z_iComp, Z_pSl, ZpO_some, ↓Z_forL_nil, ↓Z_forL_cons, ↓Z_compP_nil, ↓Z_compP_cons, ↓Z_compI_nil, ↓Z_compI_cons, ↓Z_bYes, ↓Z_iYes, Z_forL_nil, Z_forL_cons, Z_compP_nil, Z_compP_cons, Z_compI_nil, Z_compI_cons]
      rw [decide_eq_false fun h2 => h (h2 k hk)]
  · rintro env ⟨hall, o, rfl⟩
    simp -dsimp only [↓Z_seq, ↓Z_pC, ↓Z_v0, ↓Z_vS, ↓Z_iP, ↓Z_p1, ↓Z_p2, ↓Z_i1, ↓Z_i2, ↓Z_psN, ↓Z_psC, ↓Z_isN, ↓Z_isC, ↓Z_pN, ↓Z_iN, ↓Z_bP, ↓Z_bI, ↓Z_liftB, ↓Z_andP, ↓Z_orP, ↓Z_bNotP, ↓Z_andI, ↓Z_orI, ↓Z_bNotI, ↓Z_pAnd, ↓Z_pOr, ↓Z_pNot, ↓Z_iAnd, ↓Z_iOr, ↓Z_iNot, ↓Z_pIf, ↓Z_iIf, ↓Z_pChain, ↓Z_iCall, ↓Z_iMod, ↓Z_ivSeq, ↓Z_itSeq, ↓Z_ivN, ↓Z_itN, ↓Z_sNx, ↓Z_sBk, ↓Z_sCt, ↓Z_if, ↓Z_sAsg, ↓Z_sEx, ↓Z_sRt, ↓Z_sRtN, ↓Z_sRtO, ↓Z_sAug, ↓Z_sTg, ↓Z_sFor, ↓Z_asB, ↓Z_lstOf, ↓Z_set, ↓Z_app2, ↓Z_appK, ↓Z_sPar, X_ex2, ↓Z_whl, ↓Z_no, ↓Z_ite', ↓Z_some, Z_map, ↓Z_pComp, ↓Z_iComp, ↓Z_pSl, pO_none, ↓ZpO_some, ZpO_int, Zx_nx, Zx_rt, Zx_bk, Zx_ct, Zf_nx, Zf_ct, Zf_bk, Zf_rt, Zr_rt, Zr_nx, Zr1_rt, Zr1_nx, wIf_t, wIf_f, wIf_not, sE, List.map_cons, List.map_nil, List.replicate_succ, List.replicate_zero, List.cons_append, List.nil_append, Nat.reduceSub, Nat.reduceAdd, nLen_lst, nLen_tup, nInt_int, nList_lst, nList_tup, nList_scr, nTuple_lst, nTuple_tup, nIx_lst, nIx_tup, seqOf_lst, seqOf_tup, gRev_eq, gPop_eq, nI2_i, nIc_ok, nCmp_i, nAdd_i, nEq_int, nNe_int, nEq_bl, nNe_bl, nEq_TI, nNe_TI, nEq_LI, nNe_LI, nIn_TI, nIn_LI, X_fld, max2, min2, nTupD0, nTupD1, nTupD2, nTupD3, nTupD4, nLstD0, nLstD1, nLstD2, nLstD3, nLstD4, isi_int_int, isi_int_bl, isi_int_tup, isi_int_lst, isi_int_non, isi_int_str, isi_bool_int, isi_bool_bl, isi_bool_tup, isi_bool_lst, isi_bool_non, isi_bool_str, isi_tuple_int, isi_tuple_bl, isi_tuple_tup, isi_tuple_lst, isi_tuple_non, isi_tuple_str, isi_list_int, isi_list_bl, isi_list_tup, isi_list_lst, isi_list_non, isi_list_str, isi_str_int, isi_str_bl, isi_str_tup, isi_str_lst, isi_str_non, isi_str_str, isN_non, notN_non, nonD_non, nonD_int, nonD_bl, nonD_tup, nonD_lst, nonD_str, Z_bTup, Z_bsC, Z_bsN, Z_bNm, Option.bind_some, Option.map_some, List.getElem?_cons_zero, List.getElem?_cons_succ, List.set_cons_zero, List.set_cons_succ, List.length_cons, List.length_nil, id, Bool.not_true, Bool.not_false, List.length_map, List.length_set, decide_true, decide_false, eq_self, if_true, if_false, Bool.false_eq_true, decide_eq_true_eq, not_true_eq_false, not_false_eq_true, true_and, and_true, Int.cast_ofNat_Int, Int.reduceLT, Int.reduceLE, Int.reduceEq, bindT, wipeE, backE, Z_seq, Z_pC, Z_v0, Z_vS, Z_iP, Z_p1, Z_p2, Z_i1, Z_i2, Z_psN, Z_psC, Z_isN, Z_isC, Z_pN, Z_iN, Z_bP, Z_bI, Z_liftB, Z_andP, Z_orP, Z_bNotP, Z_andI, Z_orI, Z_bNotI, Z_pAnd, Z_pOr, Z_pNot, Z_iAnd, Z_iOr, Z_iNot, Z_pIf, Z_iIf, Z_pChain, Z_iCall, Z_iMod, Z_ivSeq, Z_itSeq, Z_ivN, Z_itN, Z_sNx, Z_sBk, Z_sCt, Z_if, Z_sAsg, Z_sEx, Z_sRt, Z_sRtN, Z_sRtO, Z_sAug, Z_sTg, Z_sFor, Z_asB, Z_lstOf, Z_set, Z_app2, Z_appK, Z_sPar, Z_whl, Z_no, Z_ite', Z_some, Z_pComp, Z_iComp, Z_pSl, ZpO_some, ↓Z_forL_nil, ↓Z_forL_cons, ↓Z_compP_nil, ↓Z_compP_cons, ↓Z_compI_nil, ↓Z_compI_cons, ↓Z_bYes, ↓Z_iYes, Z_forL_nil, Z_forL_cons, Z_compP_nil, Z_compP_cons, Z_compI_nil, Z_compI_cons]
    rw [decide_eq_true hall]

theorem lets_len (n : Nat) : (lets n).length = n := by simp [lets]
theorem lets_at {n k : Nat} (h : k < n) : (lets n)[k]? = some (k : Int) := by
  unfold lets
  rw [List.getElem?_map, List.getElem?_range h]
  rfl
theorem lets_succ (k : Nat) : lets (k + 1) = lets k ++ [(k : Int)] := by
  unfold lets
  rw [List.range_succ, List.map_append]
  rfl
theorem setD_int {l : List Int} {i v : Int} (h0 : 0 ≤ i) (h : i < l.length) : setD (.lst (LI l)) (.int i) (.int v) = some (.lst (LI (l.set i.toNat v))) := by
  have := setD_LI (l := l) (k := i.toNat) (v := v) (by omega)
  rwa [show ((i.toNat : Nat) : Int) = i by omega] at this
theorem atI_map_lets {n : Nat} (f : Int → Int) {i : Int} (h0 : 0 ≤ i) (h : i < (n : Int)) : atI (LI ((lets n).map f)) i = some (.int (f i)) := by
  obtain ⟨k, rfl⟩ : ∃ k : Nat, i = (k : Int) := ⟨i.toNat, by omega⟩
  refine LI_get ?_
  rw [List.getElem?_map, lets_at (by omega)]
  rfl
theorem set_lets {n : Nat} (f : Int → Int) {i : Int} (h0 : 0 ≤ i) (h : i < (n : Int)) (v : Int) : ((lets n).map f).set i.toNat v = (lets n).map fun y => if y = i then v else f y := by
  apply List.ext_getElem?
  intro j
  by_cases hj : j < n
  · rw [List.getElem?_map, lets_at hj]
    by_cases e : i.toNat = j
    · subst e
      rw [List.getElem?_set_self (by rw [List.length_map, lets_len]; exact hj)]
      show _ = some (if (i.toNat : Int) = i then v else f _)
      rw [if_pos (by omega)]
    · rw [List.getElem?_set_ne e, List.getElem?_map, lets_at hj]
      show some _ = some (if (j : Int) = i then v else f (j : Int))
      rw [if_neg (by omega)]
  · rw [List.getElem?_eq_none (by rw [List.length_set, List.length_map, lets_len]; omega), List.getElem?_eq_none (by rw [List.length_map, lets_len]; omega)]
theorem sorted_LI (l : List Int) : nSorted [.lst (LI l)] = some (.lst (LI (isI l))) := by
  show (dInts (LI l)).map _ = _
  rw [show dInts (LI l) = some l from dInts_of l]
  rfl
/-- lists of lists that are changed -/
abbrev LL (rows : List (List Int)) : List D := rows.map fun r => D.lst (LI r)
theorem app2_eq {rows : List (List Int)} {m : Nat} {x : Int} (h : m < rows.length) (hs : (rows.getD m []).length < 100000) : app2 (.lst (LL rows)) (.int (m : Int)) (.int x) = some (.lst (LL (rows.set m (rows.getD m [] ++ [x])))) := by
  have e1 : ixN (LL rows).length (m : Int) = some m := ixN_nat (by rwa [List.length_map])
  have e2 : (LL rows)[m]? = some (.lst (LI (rows.getD m []))) := by
    rw [List.getElem?_map, List.getD_eq_getElem?_getD, List.getElem?_eq_getElem h]
    rfl
  show ((ixN (LL rows).length (m : Int)).bind fun i => ((LL rows)[i]?).bind _) = _
  rw [e1]
  show ((LL rows)[m]?).bind _ = _
  rw [e2]
  show (if (LI (rows.getD m [])).length < sizeLine then _ else none) = _
  rw [if_pos (size_lt (by rw [List.length_map]; exact hs)), LI_app1]
  congr 2
  show (rows.map fun r => D.lst (LI r)).set m _ = List.map _ (rows.set m _)
  rw [List.map_set]
theorem set_range {α : Type} (f g : Nat → α) (m n : Nat) (h : ∀ k, k ≠ m → g k = f k) : ((List.range n).map f).set m (g m) = (List.range n).map g := by
  apply List.ext_getElem?
  intro j
  by_cases hj : j < n
  · rw [List.getElem?_map, List.getElem?_range hj]
    by_cases e : m = j
    · subst e
      rw [List.getElem?_set_self (by rw [List.length_map, List.length_range]; exact hj)]
      rfl
    · rw [List.getElem?_set_ne e, List.getElem?_map, List.getElem?_range hj]
      show some _ = some _
      rw [h j fun q => e q.symm]
  · rw [List.getElem?_eq_none (by rw [List.length_set, List.length_map, List.length_range]; omega), List.getElem?_eq_none (by rw [List.length_map, List.length_range]; omega)]
theorem take_snoc' {w : List Int} {k : Nat} {a : Int} (h : w[k]? = some a) : w.take (k + 1) = w.take k ++ [a] := by
  rw [List.take_succ, h]
  rfl

theorem sset_tup {t : List Int} (h : t.length < 64) : nSortSet [TI t] = some (.lst (LI (sortU t))) := by
  show (dInts (LI t)).bind _ = _
  rw [show dInts (LI t) = some t from dInts_of t]
  exact if_pos h
theorem sd_LT {n : Nat} (a : List (List Int)) : Sd (n + 2) (.lst (LT a)) := sd_lst fun x hx => by
  obtain ⟨l, _, rfl⟩ := List.mem_map.mp hx
  exact sd_TI l
theorem dE_LT (a b : List (List Int)) : dE (.lst (LT a)) (.lst (LT b)) = decide (a = b) := dE_lst (fun l : List Int => D.tup (LI l)) dE_TI a b
theorem nEq_LT (a b : List (List Int)) : nEq (.lst (LT a)) (.lst (LT b)) = some (.bl (decide (a = b))) := nEq_of ((sd_LT (n := 0) a).shp) ((sd_LT (n := 0) b).shp) (dE_LT a b)
theorem nNe_LT (a b : List (List Int)) : nNe (.lst (LT a)) (.lst (LT b)) = some (.bl (!decide (a = b))) := nNe_of ((sd_LT (n := 0) a).shp) ((sd_LT (n := 0) b).shp) (dE_LT a b)
end Com

set_option maxHeartbeats 4100000
/-! Sh8: traces: words up to the order of independent letters; least forms. -/
namespace Com
open PySem L2 T3
/-! ### traces -/
section
variable (L : List (List Int))
def Eq_ (u v : List Int) : Prop := ∀ p, proj L p u = proj L p v
/-- a may stand first -/
def Fst (w : List Int) (a : Int) : Prop := ∃ u v, w = u ++ a :: v ∧ ∀ y ∈ u, indep L y a = true
abbrev Gd (w : List Int) : Prop := ∀ x ∈ w, lt L x ≠ []
variable {L}
theorem proj_app (p : Int) (a b : List Int) : proj L p (a ++ b) = proj L p a ++ proj L p b := List.filter_append ..
theorem proj_in {p x : Int} (h : p ∈ lt L x) (w : List Int) : proj L p (x :: w) = x :: proj L p w := List.filter_cons_of_pos (decide_eq_true h)
theorem proj_out {p x : Int} (h : p ∉ lt L x) (w : List Int) : proj L p (x :: w) = proj L p w := List.filter_cons_of_neg (by rw [decide_eq_true_eq]; exact h)
theorem proj_none {p : Int} {w : List Int} (h : ∀ y ∈ w, p ∉ lt L y) : proj L p w = [] := List.filter_eq_nil_iff.mpr fun y hy => by
  rw [decide_eq_true_eq]
  exact h y hy
theorem Eq_.refl (u : List Int) : Eq_ L u u := fun _ => rfl
theorem Eq_.symm {u v : List Int} (h : Eq_ L u v) : Eq_ L v u := fun p => (h p).symm
theorem Eq_.trans {u v w : List Int} (h : Eq_ L u v) (h' : Eq_ L v w) : Eq_ L u w := fun p => (h p).trans (h' p)
theorem Eq_.app {u v u' v' : List Int} (h : Eq_ L u u') (h' : Eq_ L v v') : Eq_ L (u ++ v) (u' ++ v') := fun p => by rw [proj_app, proj_app, h p, h' p]
theorem Eq_.cancel {u v w : List Int} (h : Eq_ L (u ++ v) (u ++ w)) : Eq_ L v w := fun p => by
  have := h p
  rw [proj_app, proj_app] at this
  exact List.append_cancel_left this
theorem Eq_.cons {a : Int} {v w : List Int} (h : Eq_ L v w) : Eq_ L (a :: v) (a :: w) := Eq_.app (Eq_.refl [a]) h
theorem Eq_.mem {u v : List Int} (h : Eq_ L u v) (g : Gd L u) : ∀ x ∈ u, x ∈ v := fun x hx => by
  obtain ⟨p, hp⟩ := List.exists_mem_of_ne_nil _ (g x hx)
  have : x ∈ proj L p u := List.mem_filter.mpr ⟨hx, decide_eq_true hp⟩
  rw [h p] at this
  exact (List.mem_filter.mp this).1
theorem Eq_.nil {v : List Int} (h : Eq_ L [] v) (g : Gd L v) : v = [] := by
  match v, g, h with
  | [], _, _ => rfl
  | x :: v, g, h => exact nomatch (h.symm.mem g x List.mem_cons_self)
theorem Eq_.front {u v : List Int} {a : Int} (hu : ∀ y ∈ u, indep L y a = true) : Eq_ L (u ++ a :: v) (a :: (u ++ v)) := fun p => by
  by_cases hp : p ∈ lt L a
  · have e : proj L p u = [] := proj_none fun y hy hq => indep_iff.mp (hu y hy) p hq hp
    rw [proj_app, e, proj_in hp, proj_in hp, proj_app, e]
    rfl
  · rw [proj_app, proj_out hp, proj_out hp, proj_app]
theorem Eq_.next {s t : List Int} {x : Int} (hne : lt L x ≠ []) (h : Eq_ L s (x :: t)) : ∃ u v, s = u ++ x :: v ∧ (∀ y ∈ u, y ≠ x ∧ indep L y x = true) ∧ Eq_ L (u ++ v) t := by
  obtain ⟨p, hp⟩ := List.exists_mem_of_ne_nil _ hne
  have hx : x ∈ s := by
    have h1 := h p
    rw [proj_in hp] at h1
    have : x ∈ proj L p s := by rw [h1]; exact List.mem_cons_self
    exact (List.mem_filter.mp this).1
  obtain ⟨u, v, e, hu⟩ := List.eq_append_cons_of_mem hx
  have hfree : ∀ y ∈ u, indep L y x = true := fun y hy => indep_iff.mpr fun q hq hq2 => by
    have h1 := h q
    rw [proj_in hq2, e, proj_app] at h1
    have hm : y ∈ proj L q u := List.mem_filter.mpr ⟨hy, decide_eq_true hq⟩
    cases hc : proj L q u with
    | nil => rw [hc] at hm; cases hm
    | cons z zs =>
      rw [hc] at h1
      have : z = x := (List.cons.inj h1).1
      have hz : z ∈ proj L q u := by rw [hc]; exact List.mem_cons_self
      exact hu (this ▸ (List.mem_filter.mp hz).1)
  refine ⟨u, v, e, fun y hy => ⟨fun h => hu (h ▸ hy), hfree y hy⟩, ?_⟩
  have h2 : Eq_ L (x :: (u ++ v)) (x :: t) := (Eq_.front hfree).symm.trans (e ▸ h)
  exact Eq_.cancel (u := [x]) h2
theorem Fst.eq {w v : List Int} {a : Int} (h : Fst L w a) (e : Eq_ L w v) (hne : lt L a ≠ []) : Fst L v a := by
  obtain ⟨u, z, rfl, hu⟩ := h
  have := e.symm.trans (Eq_.front hu)
  obtain ⟨u', v', e', h', _⟩ := Eq_.next hne this
  exact ⟨u', v', e', fun y hy => (h' y hy).2⟩
theorem Fst.mem {w : List Int} {a : Int} (h : Fst L w a) : a ∈ w := by
  obtain ⟨u, v, rfl, _⟩ := h
  simp
/-- the place of a first letter is the only one -/
theorem Fst.uniq {u v u' v' : List Int} {a : Int} (hne : lt L a ≠ []) (h : ∀ y ∈ u, indep L y a = true) (h' : ∀ y ∈ u', indep L y a = true) (e : u ++ a :: v = u' ++ a :: v') : u = u' ∧ v = v' := by
  have na : ∀ {z : List Int}, (∀ y ∈ z, indep L y a = true) → a ∉ z := fun hz ha => by
    have := hz a ha
    rw [indep_self hne] at this
    cases this
  have h1 := na h
  have h2 := na h'
  induction u generalizing u' with
  | nil =>
    cases u' with
    | nil => exact ⟨rfl, (List.cons.inj e).2⟩
    | cons b u' => exact absurd (by rw [(List.cons.inj e).1]; exact List.mem_cons_self) h2
  | cons b u ih =>
    cases u' with
    | nil => exact absurd (by rw [← (List.cons.inj e).1]; exact List.mem_cons_self) h1
    | cons c u' =>
      have e2 := List.cons.inj e
      obtain ⟨e3, e4⟩ := ih (fun y hy => h y (List.mem_cons_of_mem _ hy)) (fun y hy => h' y (List.mem_cons_of_mem _ hy)) e2.2 (fun q => h1 (List.mem_cons_of_mem _ q)) (fun q => h2 (List.mem_cons_of_mem _ q))
      exact ⟨by rw [e2.1, e3], e4⟩
/-! least forms -/
variable (L) in
/-- t is what taking the least first letter again and again makes of w -/
inductive Lf : List Int → List Int → Prop
  | nil : Lf [] []
  | step {u v t : List Int} {a : Int} : (∀ y ∈ u, indep L y a = true) → (∀ b, Fst L (u ++ a :: v) b → a ≤ b) → Lf (u ++ v) t → Lf (u ++ a :: v) (a :: t)
theorem Lf.eq {w t : List Int} (h : Lf L w t) : Eq_ L w t := by
  induction h with
  | nil => exact Eq_.refl []
  | step hu _ _ ih => exact (Eq_.front hu).trans (Eq_.cons ih)
theorem Lf.perm {w t : List Int} (h : Lf L w t) : t.Perm w := by
  induction h with
  | nil => exact .refl _
  | step _ _ _ ih => exact (List.Perm.cons _ ih).trans List.perm_middle.symm
theorem Lf.nil_inv {w t : List Int} (h : Lf L w t) (e : w = []) : t = [] := by
  cases h with
  | nil => rfl
  | step => simp at e
theorem Lf.same {w t : List Int} (h : Lf L w t) : ∀ {w' t' : List Int}, Gd L w → Gd L w' → Lf L w' t' → Eq_ L w w' → t = t' := by
  induction h with
  | nil =>
    intro w' t' _ g' h' e
    have := e.nil g'
    exact (h'.nil_inv this).symm
  | @step u v t a h1 h2 h3 ih =>
    intro w' t' g g' h' e
    cases h' with
    | nil =>
      have := e.symm.nil g
      simp at this
    | @step u' v' t' a' h1' h2' h3' =>
      have ga : lt L a ≠ [] := g a (by simp)
      have ga' : lt L a' ≠ [] := g' a' (by simp)
      have f : Fst L (u ++ a :: v) a := ⟨u, v, rfl, h1⟩
      have f' : Fst L (u' ++ a' :: v') a' := ⟨u', v', rfl, h1'⟩
      have q1 := h2' a (f.eq e ga)
      have q2 := h2 a' (f'.eq e.symm ga')
      have : a = a' := by omega
      subst this
      congr 1
      refine ih (fun x hx => g x ?_) (fun x hx => g' x ?_) h3' ?_
      · rcases List.mem_append.mp hx with h | h
        · exact List.mem_append_left _ h
        · exact List.mem_append_right _ (List.mem_cons_of_mem _ h)
      · rcases List.mem_append.mp hx with h | h
        · exact List.mem_append_left _ h
        · exact List.mem_append_right _ (List.mem_cons_of_mem _ h)
      · exact Eq_.cancel (u := [a]) ((Eq_.front h1).symm.trans (e.trans (Eq_.front h1')))
/-- a least form is its own -/
theorem Lf.self {w t t' : List Int} (h : Lf L w t) (h' : Lf L t t') (g : Gd L w) : t' = t :=
  h'.same (fun x hx => g x (h.perm.mem_iff.mp hx)) g h h.eq.symm
/-! what two words begin with -/
theorem levi {x : List Int} : ∀ {u y v : List Int}, Gd L (u ++ v) → (∀ a, Fst L x a → Fst L u a → False) → Eq_ L (x ++ y) (u ++ v) → (∀ a ∈ x, ∀ b ∈ u, indep L a b = true) ∧ ∃ q, Eq_ L y (u ++ q) ∧ Eq_ L v (x ++ q) ∧ ∀ z ∈ q, z ∈ y
  | [], y, v, _, _, e => ⟨fun _ _ _ h => (nomatch h), y, Eq_.refl y, e.symm, fun _ h => h⟩
  | b :: u, y, v, g, nc, e => by
    have gb : lt L b ≠ [] := g b (by simp)
    obtain ⟨s1, s2, e1, h1, e2⟩ := Eq_.next gb e
    rcases List.append_eq_append_iff.mp e1 with ⟨y1, rfl, ey⟩ | ⟨x2, ex, ey⟩
    · -- s1 = x ++ y1
      have hxb : ∀ a ∈ x, indep L a b = true := fun a ha => (h1 a (List.mem_append_left _ ha)).2
      have e3 : Eq_ L (x ++ (y1 ++ s2)) (u ++ v) := by rw [← List.append_assoc]; exact e2
      obtain ⟨q1, q, q2, q3, q4⟩ := levi (u := u) (y := y1 ++ s2) (v := v) (fun z hz => g z (List.mem_cons_of_mem _ hz)) (fun c f1 f2 => by
        refine nc c f1 ?_
        obtain ⟨p, r, ep, hp⟩ := f2
        refine ⟨b :: p, r, by rw [ep]; rfl, fun z hz => ?_⟩
        rcases List.mem_cons.mp hz with rfl | hz
        · exact indep_comm (hxb c f1.mem)
        · exact hp z hz) e3
      refine ⟨fun a ha c hc => ?_, q, ?_, q3, fun z hz => ?_⟩
      · rcases List.mem_cons.mp hc with rfl | hc
        · exact hxb a ha
        · exact q1 a ha c hc
      · rw [ey]
        exact (Eq_.front fun z hz => (h1 z (List.mem_append_right _ hz)).2).trans (Eq_.cons q2)
      · rw [ey]
        rcases List.mem_append.mp (q4 z hz) with h | h
        · exact List.mem_append_left _ h
        · exact List.mem_append_right _ (List.mem_cons_of_mem _ h)
    · -- x = s1 ++ x2
      cases x2 with
      | nil =>
        rw [List.append_nil] at ex
        subst ex
        -- s1 = x, y = b :: s2
        have ey : b :: s2 = y := by simpa using ey
        have hxb : ∀ a ∈ x, indep L a b = true := fun a ha => (h1 a ha).2
        obtain ⟨q1, q, q2, q3, q4⟩ := levi (u := u) (y := s2) (v := v) (fun z hz => g z (List.mem_cons_of_mem _ hz)) (fun c f1 f2 => by
          refine nc c f1 ?_
          obtain ⟨p, r, ep, hp⟩ := f2
          refine ⟨b :: p, r, by rw [ep]; rfl, fun z hz => ?_⟩
          rcases List.mem_cons.mp hz with rfl | hz
          · exact indep_comm (hxb c f1.mem)
          · exact hp z hz) e2
        refine ⟨fun a ha c hc => ?_, q, ?_, q3, fun z hz => ?_⟩
        · rcases List.mem_cons.mp hc with rfl | hc
          · exact hxb a ha
          · exact q1 a ha c hc
        · rw [← ey]
          exact Eq_.cons q2
        · rw [← ey]
          exact List.mem_cons_of_mem _ (q4 z hz)
      | cons c x2 =>
        have := List.cons.inj ey
        exact (nc b ⟨s1, x2, by rw [ex, this.1], fun z hz => (h1 z hz).2⟩ ⟨[], u, rfl, fun _ h => (nomatch h)⟩).elim
end

/-! ### first letters, by place -/
abbrev nats (l : List Nat) : List Int := l.map fun (i : Nat) => (i : Int)
def flp (L : List (List Int)) (w : List Int) : List Nat := (List.range w.length).filter fun k => (w.take k).all fun y => indep L y (w.getD k 0)
theorem mem_flp {L : List (List Int)} {w : List Int} {k : Nat} : k ∈ flp L w ↔ k < w.length ∧ ∀ y ∈ w.take k, indep L y (w.getD k 0) = true := by
  unfold flp
  rw [List.mem_filter, List.mem_range, List.all_eq_true]
theorem split_at {w : List Int} {k : Nat} (h : k < w.length) : w = w.take k ++ w.getD k 0 :: w.drop (k + 1) := by
  rw [List.getD_eq_getElem?_getD, List.getElem?_eq_getElem h]
  show w = w.take k ++ w[k] :: w.drop (k + 1)
  rw [← List.drop_eq_getElem_cons, List.take_append_drop]
theorem flp_fst {L : List (List Int)} {w : List Int} {k : Nat} (h : k ∈ flp L w) : Fst L w (w.getD k 0) :=
  ⟨w.take k, w.drop (k + 1), split_at (mem_flp.mp h).1, (mem_flp.mp h).2⟩
theorem fst_flp {L : List (List Int)} {u v : List Int} {a : Int} (h : ∀ y ∈ u, indep L y a = true) : u.length ∈ flp L (u ++ a :: v) ∧ (u ++ a :: v).getD u.length 0 = a := by
  have e : (u ++ a :: v).getD u.length 0 = a := by
    rw [List.getD_eq_getElem?_getD, List.getElem?_append_right (Nat.le_refl _), Nat.sub_self]
    rfl
  refine ⟨mem_flp.mpr ⟨by simp, ?_⟩, e⟩
  rw [e, List.take_left']
  · exact h
  · rfl
/-- a word as a tuple or a list -/
structure IsW (d : D) (w : List Int) : Prop where
  ix : ∀ i : Int, nIx d (.int i) = atI (LI w) i
  len : nLen [d] = some (.int (w.length : Nat))
  seq : seqOf d = some (LI w)
  tup : nTuple [d] = some (TI w)
  lst : nList [d] = some (.lst (LI w))
theorem isW_t (w : List Int) : IsW (TI w) w := ⟨fun _ => rfl, by rw [nLen_tup, List.length_map], rfl, rfl, rfl⟩
theorem isW_l (w : List Int) : IsW (.lst (LI w)) w := ⟨fun _ => rfl, by rw [nLen_lst, List.length_map], rfl, rfl, rfl⟩
theorem LI_getD {w : List Int} {j : Nat} (h : j < w.length) : atI (LI w) (j : Int) = some (.int (w.getD j 0)) := by
  rw [List.getD_eq_getElem?_getD, List.getElem?_eq_getElem h]
  exact LI_get (List.getElem?_eq_getElem h)
theorem getD_in {n : Nat} {w : List Int} (hw : inR n w) {j : Nat} (h : j < w.length) : 0 ≤ w.getD j 0 ∧ w.getD j 0 < (n : Int) := by
  rw [List.getD_eq_getElem?_getD, List.getElem?_eq_getElem h]
  exact hw _ (List.getElem_mem h)
def blkN (L : List (List Int)) (u : List Int) : Nat := u.foldl (fun m a => m ||| maskN (fun b => !indep L a (b : Int)) L.length) 0
theorem blkN_snoc (L : List (List Int)) (u : List Int) (a : Int) : blkN L (u ++ [a]) = blkN L u ||| maskN (fun b => !indep L a (b : Int)) L.length := by
  unfold blkN
  rw [List.foldl_append]
  rfl
theorem blkN_bit {L : List (List Int)} {b : Nat} (hb : b < L.length) : ∀ (n : Nat) (u : List Int), u.length = n → (blkN L u).testBit b = !(u.all fun a => indep L a (b : Int))
  | 0, u, hu => by
    rw [List.length_eq_zero_iff.mp hu]
    exact Nat.zero_testBit b
  | n + 1, u, hu => by
    have hn : u ≠ [] := fun e => by rw [e] at hu; cases hu
    rw [← List.dropLast_concat_getLast hn, blkN_snoc, Nat.testBit_or, blkN_bit hb n u.dropLast (by rw [List.length_dropLast]; omega), maskN_bit, decide_eq_true hb, Bool.true_and, List.all_append]
    simp
theorem bit_test0 (M k : Nat) : decide (Builtin.bitAnd ((M : Int) / 2 ^ (k : Int).toNat) 1 = 0) = !M.testBit k := by
  have e1 : ∀ x : Int, Builtin.bitAnd x 1 = x % 2 := fun x => PySem.W.kbt_mask x 1
  rw [← bit_test, e1]
  have : (M : Int) / 2 ^ (k : Int).toNat % 2 = 0 ∨ (M : Int) / 2 ^ (k : Int).toNat % 2 = 1 := by omega
  rcases this with h | h
  · rw [h]; rfl
  · rw [h]; rfl
theorem or_nat (M N : Nat) : Builtin.bitOr (M : Int) (N : Int) = ((M ||| N : Nat) : Int) := by
  rw [bitOr_nn (Int.natCast_nonneg _) (Int.natCast_nonneg _), Int.toNat_natCast, Int.toNat_natCast]
theorem first_letters_spec {L : List (List Int)} {c : Int} {wd : D} {w : List Int} (hd : IsW wd w) (hw : inR L.length w) (hL : L.length < 100) (hl : w.length < 1000) : C_first_letters [OB c L, wd] = some (.lst (LI (nats (flp L w)))) := by
  have hix := hd.ix
  refine Z_run rfl ?_
  simp -dsimp only [↓Z_seq, ↓Z_pC, ↓Z_v0, ↓Z_vS, ↓Z_iP, ↓Z_p1, ↓Z_p2, ↓Z_i1, ↓Z_i2, ↓Z_psN, ↓Z_psC, ↓Z_isN, ↓Z_isC, ↓Z_pN, ↓Z_iN, ↓Z_bP, ↓Z_bI, ↓Z_liftB, ↓Z_andP, ↓Z_orP, ↓Z_bNotP, ↓Z_andI, ↓Z_orI, ↓Z_bNotI, ↓Z_pAnd, ↓Z_pOr, ↓Z_pNot, ↓Z_iAnd, ↓Z_iOr, ↓Z_iNot, ↓Z_pIf, ↓Z_iIf, ↓Z_pChain, ↓Z_iCall, ↓Z_iMod, ↓Z_ivSeq, ↓Z_itSeq, ↓Z_ivN, ↓Z_itN, ↓Z_sNx, ↓Z_sBk, ↓Z_sCt, ↓Z_if, ↓Z_sAsg, ↓Z_sEx, ↓Z_sRt, ↓Z_sRtN, ↓Z_sRtO, ↓Z_sAug, ↓Z_sTg, ↓Z_sFor, ↓Z_asB, ↓Z_lstOf, ↓Z_set, ↓Z_app2, ↓Z_appK, ↓Z_sPar, X_ex2, ↓Z_whl, ↓Z_no, ↓Z_ite', ↓Z_some, Z_map, ↓Z_pComp, ↓Z_iComp, ↓Z_pSl, pO_none, ↓ZpO_some, ZpO_int, Zx_nx, Zx_rt, Zx_bk, Zx_ct, Zf_nx, Zf_ct, Zf_bk, Zf_rt, Zr_rt, Zr_nx, Zr1_rt, Zr1_nx, wIf_t, wIf_f, wIf_not, sE, List.map_cons, List.map_nil, List.replicate_succ, List.replicate_zero, List.cons_append, List.nil_append, Nat.reduceSub, Nat.reduceAdd, nLen_lst, nLen_tup, nInt_int, nList_lst, nList_tup, nList_scr, nTuple_lst, nTuple_tup, nIx_lst, nIx_tup, seqOf_lst, seqOf_tup, gRev_eq, gPop_eq, nI2_i, nIc_ok, nCmp_i, nAdd_i, nEq_int, nNe_int, nEq_bl, nNe_bl, nEq_TI, nNe_TI, nEq_LI, nNe_LI, nIn_TI, nIn_LI, X_fld, max2, min2, nTupD0, nTupD1, nTupD2, nTupD3, nTupD4, nLstD0, nLstD1, nLstD2, nLstD3, nLstD4, isi_int_int, isi_int_bl, isi_int_tup, isi_int_lst, isi_int_non, isi_int_str, isi_bool_int, isi_bool_bl, isi_bool_tup, isi_bool_lst, isi_bool_non, isi_bool_str, isi_tuple_int, isi_tuple_bl, isi_tuple_tup, isi_tuple_lst, isi_tuple_non, isi_tuple_str, isi_list_int, isi_list_bl, isi_list_tup, isi_list_lst, isi_list_non, isi_list_str, isi_str_int, isi_str_bl, isi_str_tup, isi_str_lst, isi_str_non, isi_str_str, isN_non, notN_non, nonD_non, nonD_int, nonD_bl, nonD_tup, nonD_lst, nonD_str, Z_bTup, Z_bsC, Z_bsN, Z_bNm, Option.bind_some, Option.map_some, List.getElem?_cons_zero, List.getElem?_cons_succ, List.set_cons_zero, List.set_cons_succ, List.length_cons, List.length_nil, id, Bool.not_true, Bool.not_false, List.length_map, List.length_set, decide_true, decide_false, eq_self, if_true, if_false, Bool.false_eq_true, decide_eq_true_eq, not_true_eq_false, not_false_eq_true, true_and, and_true, Int.cast_ofNat_Int, Int.reduceLT, Int.reduceLE, Int.reduceEq, bindT, wipeE, backE, Z_seq, Z_pC, Z_v0, Z_vS, Z_iP, Z_p1, Z_p2, Z_i1, Z_i2, Z_psN, Z_psC, Z_isN, Z_isC, Z_pN, Z_iN, Z_bP, Z_bI, Z_liftB, Z_andP, Z_orP, Z_bNotP, Z_andI, Z_orI, Z_bNotI, Z_pAnd, Z_pOr, Z_pNot, Z_iAnd, Z_iOr, Z_iNot, Z_pIf, Z_iIf, Z_pChain, Z_iCall, Z_iMod, Z_ivSeq, Z_itSeq, Z_ivN, Z_itN, Z_sNx, Z_sBk, Z_sCt, Z_if, Z_sAsg, Z_sEx, Z_sRt, Z_sRtN, Z_sRtO, Z_sAug, Z_sTg, Z_sFor, Z_asB, Z_lstOf, Z_set, Z_app2, Z_appK, Z_sPar, Z_whl, Z_no, Z_ite', Z_some, Z_pComp, Z_iComp, Z_pSl, ZpO_some, ↓Z_forL_nil, ↓Z_forL_cons, ↓Z_compP_nil, ↓Z_compP_cons, ↓Z_compI_nil, ↓Z_compI_cons, ↓Z_bYes, ↓Z_iYes, Z_forL_nil, Z_forL_cons, Z_compP_nil, Z_compP_cons, Z_compI_nil, Z_compI_cons, s_first_letters, masks_spec (c := c) hL, hd.len, rngN (show w.length < 1000000 by omega)]
  refine Z_forR (fun k env => ∃ a, env = [some (OB c L), some wd, some (.lst (LI (nats ((List.range k).filter fun j => (w.take j).all fun y => indep L y (w.getD j 0))))), some (.int (blkN L (w.take k) : Nat)), some (.lst (LI (MK L))), a]) _ ⟨_, rfl⟩ ?_ ?_
  · rintro k env hk ⟨a, rfl⟩
    have hx0 := getD_in hw hk
    have hg := LI_getD hk
    have hs : w.take (k + 1) = w.take k ++ [w.getD k 0] := by
      rw [List.take_succ, List.getD_eq_getElem?_getD, List.getElem?_eq_getElem hk]
      rfl
    have hsz : (LI (nats ((List.range k).filter fun j => (w.take j).all fun y => indep L y (w.getD j 0)))).length < sizeLine := size_lt (by
      have := List.length_filter_le (fun j => (w.take j).all fun y => indep L y (w.getD j 0)) (List.range k)
      rw [List.length_range] at this
      rw [List.length_map, List.length_map]
      omega)
    have hMK := MK_at (L := L) hx0
    rw [hs, blkN_snoc, List.range_succ, List.filter_append]
    obtain ⟨x, hx⟩ : ∃ x : Nat, w.getD k 0 = (x : Int) := ⟨(w.getD k 0).toNat, by omega⟩
    have hb := blkN_bit (L := L) (b := x) (by omega) _ (w.take k) rfl
    have hf : List.filter (fun j => (w.take j).all fun y => indep L y (w.getD j 0)) [k] = if ((w.take k).all fun y => indep L y (x : Int)) = true then [k] else [] := by
      rw [List.filter_cons, hx]
      rfl
    rw [hf]
    generalize hF : (List.range k).filter (fun j => (w.take j).all fun y => indep L y (w.getD j 0)) = F at *
    rw [hx] at hg hMK ⊢
    generalize ((w.take k).all fun y => indep L y (x : Int)) = t at *
    cases t with
    | true =>
      rw [if_pos rfl]
      have e : LI (nats (F ++ [k])) = LI (nats F) ++ [D.int (k : Int)] := by
        show List.map _ (List.map _ _) = _
        rw [List.map_append, List.map_append]
        rfl
      simp -dsimp only [↓Z_seq, ↓Z_pC, ↓Z_v0, ↓Z_vS, ↓Z_iP, ↓Z_p1, ↓Z_p2, ↓Z_i1, ↓Z_i2, ↓Z_psN, ↓Z_psC, ↓Z_isN, ↓Z_isC, ↓Z_pN, ↓Z_iN, ↓Z_bP, ↓Z_bI, ↓Z_liftB, ↓Z_andP, ↓Z_orP, ↓Z_bNotP, ↓Z_andI, ↓Z_orI, ↓Z_bNotI, ↓Z_pAnd, ↓Z_pOr, ↓Z_pNot, ↓Z_iAnd, ↓Z_iOr, ↓Z_iNot, ↓Z_pIf, ↓Z_iIf, ↓Z_pChain, ↓Z_iCall, ↓Z_iMod, ↓Z_ivSeq, ↓Z_itSeq, ↓Z_ivN, ↓Z_itN, ↓Z_sNx, ↓Z_sBk, ↓Z_sCt, ↓Z_if, ↓Z_sAsg, ↓Z_sEx, ↓Z_sRt, ↓Z_sRtN, ↓Z_sRtO, ↓Z_sAug, ↓Z_sTg, ↓Z_sFor, ↓Z_asB, ↓Z_lstOf, ↓Z_set, ↓Z_app2, ↓Z_appK, ↓Z_sPar, X_ex2, ↓Z_whl, ↓Z_no, ↓Z_ite', ↓Z_some, Z_map, ↓Z_pComp, ↓Z_iComp, ↓Z_pSl, pO_none, ↓ZpO_some, ZpO_int, Zx_nx, Zx_rt, Zx_bk, Zx_ct, Zf_nx, Zf_ct, Zf_bk, Zf_rt, Zr_rt, Zr_nx, Zr1_rt, Zr1_nx, wIf_t, wIf_f, wIf_not, sE, List.map_cons, List.map_nil, List.replicate_succ, List.replicate_zero, List.cons_append, List.nil_append, Nat.reduceSub, Nat.reduceAdd, nLen_lst, nLen_tup, nInt_int, nList_lst, nList_tup, nList_scr, nTuple_lst, nTuple_tup, nIx_lst, nIx_tup, seqOf_lst, seqOf_tup, gRev_eq, gPop_eq, nI2_i, nIc_ok, nCmp_i, nAdd_i, nEq_int, nNe_int, nEq_bl, nNe_bl, nEq_TI, nNe_TI, nEq_LI, nNe_LI, nIn_TI, nIn_LI, X_fld, max2, min2, nTupD0, nTupD1, nTupD2, nTupD3, nTupD4, nLstD0, nLstD1, nLstD2, nLstD3, nLstD4, isi_int_int, isi_int_bl, isi_int_tup, isi_int_lst, isi_int_non, isi_int_str, isi_bool_int, isi_bool_bl, isi_bool_tup, isi_bool_lst, isi_bool_non, isi_bool_str, isi_tuple_int, isi_tuple_bl, isi_tuple_tup, isi_tuple_lst, isi_tuple_non, isi_tuple_str, isi_list_int, isi_list_bl, isi_list_tup, isi_list_lst, isi_list_non, isi_list_str, isi_str_int, isi_str_bl, isi_str_tup, isi_str_lst, isi_str_non, isi_str_str, isN_non, notN_non, nonD_non, nonD_int, nonD_bl, nonD_tup, nonD_lst, nonD_str, Z_bTup, Z_bsC, Z_bsN, Z_bNm, Option.bind_some, Option.map_some, List.getElem?_cons_zero, List.getElem?_cons_succ, List.set_cons_zero, List.set_cons_succ, List.length_cons, List.length_nil, id, Bool.not_true, Bool.not_false, List.length_map, List.length_set, decide_true, decide_false, eq_self, if_true, if_false, Bool.false_eq_true, decide_eq_true_eq, not_true_eq_false, not_false_eq_true, true_and, and_true, Int.cast_ofNat_Int, Int.reduceLT, Int.reduceLE, Int.reduceEq, bindT, wipeE, backE, Z_seq, Z_pC, Z_v0, Z_vS, Z_iP, Z_p1, Z_p2, Z_i1, Z_i2, Z_psN, Z_psC, Z_isN, Z_isC, Z_pN, Z_iN, Z_bP, Z_bI, Z_liftB, Z_andP, Z_orP, Z_bNotP, Z_andI, Z_orI, Z_bNotI, Z_pAnd, Z_pOr, Z_pNot, Z_iAnd, Z_iOr, Z_iNot, Z_pIf, Z_iIf, Z_pChain, Z_iCall, Z_iMod, Z_ivSeq, Z_itSeq, Z_ivN, Z_itN, Z_sNx, Z_sBk, Z_sCt, Z_if, Z_sAsg, Z_sEx, Z_sRt, Z_sRtN, Z_sRtO, Z_sAug, Z_sTg, Z_sFor, Z_asB, Z_lstOf, Z_set, Z_app2, Z_appK, Z_sPar, Z_whl, Z_no, Z_ite', Z_some, Z_pComp, Z_iComp, Z_pSl, ZpO_some, ↓Z_forL_nil, ↓Z_forL_cons, ↓Z_compP_nil, ↓Z_compP_cons, ↓Z_compI_nil, ↓Z_compI_cons, ↓Z_bYes, ↓Z_iYes, Z_forL_nil, Z_forL_cons, Z_compP_nil, Z_compP_cons, Z_compI_nil, Z_compI_cons, hix, hg, hMK, c_nn, bit_test0, hb, gApp_eq hsz, or_nat]
      rw [e]
      exact ⟨_, rfl⟩
    | false =>
      rw [if_neg (by decide), List.append_nil]
      simp -dsimp only [↓Z_seq, ↓Z_pC, ↓Z_v0, ↓Z_vS, ↓Z_iP, ↓Z_p1, ↓Z_p2, ↓Z_i1, ↓Z_i2, ↓Z_psN, ↓Z_psC, ↓Z_isN, ↓Z_isC, ↓Z_pN, ↓Z_iN, ↓Z_bP, ↓Z_bI, ↓Z_liftB, ↓Z_andP, ↓Z_orP, ↓Z_bNotP, ↓Z_andI, ↓Z_orI, ↓Z_bNotI, ↓Z_pAnd, ↓Z_pOr, ↓Z_pNot, ↓Z_iAnd, ↓Z_iOr, ↓Z_iNot, ↓Z_pIf, ↓Z_iIf, ↓Z_pChain, ↓Z_iCall, ↓Z_iMod, ↓Z_ivSeq, ↓Z_itSeq, ↓Z_ivN, ↓Z_itN, ↓Z_sNx, ↓Z_sBk, ↓Z_sCt, ↓Z_if, ↓Z_sAsg, ↓Z_sEx, ↓Z_sRt, ↓Z_sRtN, ↓Z_sRtO, ↓Z_sAug, ↓Z_sTg, ↓Z_sFor, ↓Z_asB, ↓Z_lstOf, ↓Z_set, ↓Z_app2, ↓Z_appK, ↓Z_sPar, X_ex2, ↓Z_whl, ↓Z_no, ↓Z_ite', ↓Z_some, Z_map, ↓Z_pComp, ↓Z_iComp, ↓Z_pSl, pO_none, ↓ZpO_some, ZpO_int, Zx_nx, Zx_rt, Zx_bk, Zx_ct, Zf_nx, Zf_ct, Zf_bk, Zf_rt, Zr_rt, Zr_nx, Zr1_rt, Zr1_nx, wIf_t, wIf_f, wIf_not, sE, List.map_cons, List.map_nil, List.replicate_succ, List.replicate_zero, List.cons_append, List.nil_append, Nat.reduceSub, Nat.reduceAdd, nLen_lst, nLen_tup, nInt_int, nList_lst, nList_tup, nList_scr, nTuple_lst, nTuple_tup, nIx_lst, nIx_tup, seqOf_lst, seqOf_tup, gRev_eq, gPop_eq, nI2_i, nIc_ok, nCmp_i, nAdd_i, nEq_int, nNe_int, nEq_bl, nNe_bl, nEq_TI, nNe_TI, nEq_LI, nNe_LI, nIn_TI, nIn_LI, X_fld, max2, min2, nTupD0, nTupD1, nTupD2, nTupD3, nTupD4, nLstD0, nLstD1, nLstD2, nLstD3, nLstD4, isi_int_int, isi_int_bl, isi_int_tup, isi_int_lst, isi_int_non, isi_int_str, isi_bool_int, isi_bool_bl, isi_bool_tup, isi_bool_lst, isi_bool_non, isi_bool_str, isi_tuple_int, isi_tuple_bl, isi_tuple_tup, isi_tuple_lst, isi_tuple_non, isi_tuple_str, isi_list_int, isi_list_bl, isi_list_tup, isi_list_lst, isi_list_non, isi_list_str, isi_str_int, isi_str_bl, isi_str_tup, isi_str_lst, isi_str_non, isi_str_str, isN_non, notN_non, nonD_non, nonD_int, nonD_bl, nonD_tup, nonD_lst, nonD_str, Z_bTup, Z_bsC, Z_bsN, Z_bNm, Option.bind_some, Option.map_some, List.getElem?_cons_zero, List.getElem?_cons_succ, List.set_cons_zero, List.set_cons_succ, List.length_cons, List.length_nil, id, Bool.not_true, Bool.not_false, List.length_map, List.length_set, decide_true, decide_false, eq_self, if_true, if_false, Bool.false_eq_true, decide_eq_true_eq, not_true_eq_false, not_false_eq_true, true_and, and_true, Int.cast_ofNat_Int, Int.reduceLT, Int.reduceLE, Int.reduceEq, bindT, wipeE, backE, Z_seq, Z_pC, Z_v0, Z_vS, Z_iP, Z_p1, Z_p2, Z_i1, Z_i2, Z_psN, Z_psC, Z_isN, Z_isC, Z_pN, Z_iN, Z_bP, Z_bI, Z_liftB, Z_andP, Z_orP, Z_bNotP, Z_andI, Z_orI, Z_bNotI, Z_pAnd, Z_pOr, Z_pNot, Z_iAnd, Z_iOr, Z_iNot, Z_pIf, Z_iIf, Z_pChain, Z_iCall, Z_iMod, Z_ivSeq, Z_itSeq, Z_ivN, Z_itN, Z_sNx, Z_sBk, Z_sCt, Z_if, Z_sAsg, Z_sEx, Z_sRt, Z_sRtN, Z_sRtO, Z_sAug, Z_sTg, Z_sFor, Z_asB, Z_lstOf, Z_set, Z_app2, Z_appK, Z_sPar, Z_whl, Z_no, Z_ite', Z_some, Z_pComp, Z_iComp, Z_pSl, ZpO_some, ↓Z_forL_nil, ↓Z_forL_cons, ↓Z_compP_nil, ↓Z_compP_cons, ↓Z_compI_nil, ↓Z_compI_cons, ↓Z_bYes, ↓Z_iYes, Z_forL_nil, Z_forL_cons, Z_compP_nil, Z_compP_cons, Z_compI_nil, Z_compI_cons, hix, hg, hMK, c_nn, bit_test0, hb, or_nat]
      exact ⟨_, rfl⟩
  · rintro env ⟨a, rfl⟩
    simp -dsimp only [↓Z_seq, ↓Z_pC, ↓Z_v0, ↓Z_vS, ↓Z_iP, ↓Z_p1, ↓Z_p2, ↓Z_i1, ↓Z_i2, ↓Z_psN, ↓Z_psC, ↓Z_isN, ↓Z_isC, ↓Z_pN, ↓Z_iN, ↓Z_bP, ↓Z_bI, ↓Z_liftB, ↓Z_andP, ↓Z_orP, ↓Z_bNotP, ↓Z_andI, ↓Z_orI, ↓Z_bNotI, ↓Z_pAnd, ↓Z_pOr, ↓Z_pNot, ↓Z_iAnd, ↓Z_iOr, ↓Z_iNot, ↓Z_pIf, ↓Z_iIf, ↓Z_pChain, ↓Z_iCall, ↓Z_iMod, ↓Z_ivSeq, ↓Z_itSeq, ↓Z_ivN, ↓Z_itN, ↓Z_sNx, ↓Z_sBk, ↓Z_sCt, ↓Z_if, ↓Z_sAsg, ↓Z_sEx, ↓Z_sRt, ↓Z_sRtN, ↓Z_sRtO, ↓Z_sAug, ↓Z_sTg, ↓Z_sFor, ↓Z_asB, ↓Z_lstOf, ↓Z_set, ↓Z_app2, ↓Z_appK, ↓Z_sPar, X_ex2, ↓Z_whl, ↓Z_no, ↓Z_ite', ↓Z_some, Z_map, ↓Z_pComp, ↓Z_iComp, ↓Z_pSl, pO_none, ↓ZpO_some, ZpO_int, Zx_nx, Zx_rt, Zx_bk, Zx_ct, Zf_nx, Zf_ct, Zf_bk, Zf_rt, Zr_rt, Zr_nx, Zr1_rt, Zr1_nx, wIf_t, wIf_f, wIf_not, sE, List.map_cons, List.map_nil, List.replicate_succ, List.replicate_zero, List.cons_append, List.nil_append, Nat.reduceSub, Nat.reduceAdd, nLen_lst, nLen_tup, nInt_int, nList_lst, nList_tup, nList_scr, nTuple_lst, nTuple_tup, nIx_lst, nIx_tup, seqOf_lst, seqOf_tup, gRev_eq, gPop_eq, nI2_i, nIc_ok, nCmp_i, nAdd_i, nEq_int, nNe_int, nEq_bl, nNe_bl, nEq_TI, nNe_TI, nEq_LI, nNe_LI, nIn_TI, nIn_LI, X_fld, max2, min2, nTupD0, nTupD1, nTupD2, nTupD3, nTupD4, nLstD0, nLstD1, nLstD2, nLstD3, nLstD4, isi_int_int, isi_int_bl, isi_int_tup, isi_int_lst, isi_int_non, isi_int_str, isi_bool_int, isi_bool_bl, isi_bool_tup, isi_bool_lst, isi_bool_non, isi_bool_str, isi_tuple_int, isi_tuple_bl, isi_tuple_tup, isi_tuple_lst, isi_tuple_non, isi_tuple_str, isi_list_int, isi_list_bl, isi_list_tup, isi_list_lst, isi_list_non, isi_list_str, isi_str_int, isi_str_bl, isi_str_tup, isi_str_lst, isi_str_non, isi_str_str, isN_non, notN_non, nonD_non, nonD_int, nonD_bl, nonD_tup, nonD_lst, nonD_str, Z_bTup, Z_bsC, Z_bsN, Z_bNm, Option.bind_some, Option.map_some, List.getElem?_cons_zero, List.getElem?_cons_succ, List.set_cons_zero, List.set_cons_succ, List.length_cons, List.length_nil, id, Bool.not_true, Bool.not_false, List.length_map, List.length_set, decide_true, decide_false, eq_self, if_true, if_false, Bool.false_eq_true, decide_eq_true_eq, not_true_eq_false, not_false_eq_true, true_and, and_true, Int.cast_ofNat_Int, Int.reduceLT, Int.reduceLE, Int.reduceEq, bindT, wipeE, backE, Z_seq, Z_pC, Z_v0, Z_vS, Z_iP, Z_p1, Z_p2, Z_i1, Z_i2, Z_psN, Z_psC, Z_isN, Z_isC, Z_pN, Z_iN, Z_bP, Z_bI, Z_liftB, Z_andP, Z_orP, Z_bNotP, Z_andI, Z_orI, Z_bNotI, Z_pAnd, Z_pOr, Z_pNot, Z_iAnd, Z_iOr, Z_iNot, Z_pIf, Z_iIf, Z_pChain, Z_iCall, Z_iMod, Z_ivSeq, Z_itSeq, Z_ivN, Z_itN, Z_sNx, Z_sBk, Z_sCt, Z_if, Z_sAsg, Z_sEx, Z_sRt, Z_sRtN, Z_sRtO, Z_sAug, Z_sTg, Z_sFor, Z_asB, Z_lstOf, Z_set, Z_app2, Z_appK, Z_sPar, Z_whl, Z_no, Z_ite', Z_some, Z_pComp, Z_iComp, Z_pSl, ZpO_some, ↓Z_forL_nil, ↓Z_forL_cons, ↓Z_compP_nil, ↓Z_compP_cons, ↓Z_compI_nil, ↓Z_compI_cons, ↓Z_bYes, ↓Z_iYes, Z_forL_nil, Z_forL_cons, Z_compP_nil, Z_compP_cons, Z_compI_nil, Z_compI_cons]
    rfl
theorem flat_LI (l : List Int) : flatR (.lst .fz) (.lst (LI l)) = true := by
  show (LI l).all _ = true
  rw [List.all_eq_true]
  intro x hx
  obtain ⟨i, _, rfl⟩ := List.mem_map.mp hx
  rfl
theorem first_lettersF {L : List (List Int)} {c : Int} {wd : D} {w : List Int} (hd : IsW wd w) (hw : inR L.length w) (hL : L.length < 100) (hl : w.length < 1000) : flG (.lst .fz) C_first_letters [OB c L, wd] = some (.lst (LI (nats (flp L w)))) := by
  unfold flG
  rw [first_letters_spec hd hw hL hl]
  show (if flatR _ _ = true then _ else _) = _
  rw [flat_LI]
  rfl
/-- the best so far -/
def Bst (l : List Nat) (r : List Int) (best : Int) : Prop := (best = -1 ∧ l = []) ∨ ∃ b : Nat, best = (b : Int) ∧ b ∈ l ∧ ∀ k ∈ l, r.getD b 0 ≤ r.getD k 0
theorem Bst.take {l : List Nat} {r : List Int} {best : Int} (h : Bst l r best) (k : Nat) (hb : best < 0 ∨ ∃ b : Nat, best = (b : Int) ∧ r.getD k 0 < r.getD b 0) : Bst (l ++ [k]) r (k : Int) := by
  refine .inr ⟨k, rfl, by simp, fun j hj => ?_⟩
  rcases List.mem_append.mp hj with hj | hj
  · rcases h with ⟨_, rfl⟩ | ⟨b, rfl, _, h2⟩
    · cases hj
    · rcases hb with hb | ⟨b', e, hb⟩
      · omega
      · have : b = b' := by omega
        subst this
        have := h2 j hj
        omega
  · rw [List.mem_singleton.mp hj]
    exact Int.le_refl _
theorem Bst.keep {l : List Nat} {r : List Int} {b k : Nat} (h : Bst l r (b : Int)) (hb : ¬ r.getD k 0 < r.getD b 0) : Bst (l ++ [k]) r (b : Int) := by
  rcases h with ⟨e, _⟩ | ⟨b', e, h1, h2⟩
  · omega
  · have : b = b' := by omega
    subst this
    refine .inr ⟨b, rfl, List.mem_append_left _ h1, fun j hj => ?_⟩
    rcases List.mem_append.mp hj with hj | hj
    · exact h2 j hj
    · rw [List.mem_singleton.mp hj]; omega
theorem popAt0 (xs : List D) (i : Int) (h0 : 0 ≤ i) (h1 : i < 100000) : gPopAt xs [.int i] = (ixN xs.length i).bind fun k => (xs[k]?).map fun d => (d, xs.eraseIdx k) := if_pos ⟨by omega, by omega⟩
theorem popAt {r : List Int} {b : Nat} (h : b < r.length) (hl : r.length < 1000) : gPopAt (LI r) [.int (b : Int)] = some (.int (r.getD b 0), LI (r.eraseIdx b)) := by
  have e1 : ixN (LI r).length (b : Int) = some b := ixN_nat (by rwa [List.length_map])
  have e2 : (LI r)[b]? = some (.int (r.getD b 0)) := by
    rw [List.getElem?_map, List.getD_eq_getElem?_getD, List.getElem?_eq_getElem h]
    rfl
  rw [popAt0 _ _ (by omega) (by omega), e1]
  show ((LI r)[b]?).map _ = _
  rw [e2]
  show some (D.int (r.getD b 0), (LI r).eraseIdx b) = some (D.int (r.getD b 0), List.map D.int (r.eraseIdx b))
  rw [List.eraseIdx_eq_take_drop_succ, List.eraseIdx_eq_take_drop_succ, List.map_append, List.map_take, List.map_drop]
theorem nats_get {l : List Nat} {k : Nat} {a : Int} (h : (nats l)[k]? = some a) : ∃ i : Nat, l[k]? = some i ∧ a = (i : Int) := by
  rw [List.getElem?_map] at h
  cases e : l[k]? with
  | none => rw [e] at h; cases h
  | some i => rw [e] at h; cases h; exact ⟨i, rfl, rfl⟩
theorem best_step {L : List (List Int)} {r : List Int} {best : Int} (h : Bst (flp L r) r best) (hr : r ≠ []) : ∃ b : Nat, best = (b : Int) ∧ b < r.length ∧ ∀ t, Lf L (r.eraseIdx b) t → Lf L r (r.getD b 0 :: t) := by
  have h0 : 0 ∈ flp L r := mem_flp.mpr ⟨List.length_pos_iff.mpr hr, fun y hy => by rw [List.take_zero] at hy; cases hy⟩
  rcases h with ⟨_, e⟩ | ⟨b, e, h1, h2⟩
  · rw [e] at h0; cases h0
  · have hb := mem_flp.mp h1
    refine ⟨b, e, hb.1, fun t ht => ?_⟩
    have es := split_at hb.1
    have : Lf L (r.take b ++ r.getD b 0 :: r.drop (b + 1)) (r.getD b 0 :: t) := by
      refine Lf.step hb.2 (fun a ha => ?_) ?_
      · rw [← es] at ha
        obtain ⟨u, v, rfl, hu⟩ := ha
        obtain ⟨q1, q2⟩ := fst_flp (v := v) hu
        have := h2 _ q1
        rwa [q2] at this
      · rwa [List.eraseIdx_eq_take_drop_succ] at ht
    rwa [← es] at this
theorem least_form_spec {L : List (List Int)} {c : Int} {wd : D} {w : List Int} (hd : IsW wd w) (hw : inR L.length w) (hL : L.length < 100) (hl : w.length < 1000) : ∃ t, C_least_form [OB c L, wd] = some (TI t) ∧ Lf L w t := by
  suffices z : ∃ r, C_least_form [OB c L, wd] = some r ∧ ∃ t, r = TI t ∧ Lf L w t by
    obtain ⟨r, e, t, rfl, h⟩ := z
    exact ⟨t, e, h⟩
  refine Z_run0W rfl ?_
  simp -dsimp only [↓Z_seq, ↓Z_pC, ↓Z_v0, ↓Z_vS, ↓Z_iP, ↓Z_p1, ↓Z_p2, ↓Z_i1, ↓Z_i2, ↓Z_psN, ↓Z_psC, ↓Z_isN, ↓Z_isC, ↓Z_pN, ↓Z_iN, ↓Z_bP, ↓Z_bI, ↓Z_liftB, ↓Z_andP, ↓Z_orP, ↓Z_bNotP, ↓Z_andI, ↓Z_orI, ↓Z_bNotI, ↓Z_pAnd, ↓Z_pOr, ↓Z_pNot, ↓Z_iAnd, ↓Z_iOr, ↓Z_iNot, ↓Z_pIf, ↓Z_iIf, ↓Z_pChain, ↓Z_iCall, ↓Z_iMod, ↓Z_ivSeq, ↓Z_itSeq, ↓Z_ivN, ↓Z_itN, ↓Z_sNx, ↓Z_sBk, ↓Z_sCt, ↓Z_if, ↓Z_sAsg, ↓Z_sEx, ↓Z_sRt, ↓Z_sRtN, ↓Z_sRtO, ↓Z_sAug, ↓Z_sTg, ↓Z_sFor, ↓Z_asB, ↓Z_lstOf, ↓Z_set, ↓Z_app2, ↓Z_appK, ↓Z_sPar, X_ex2, ↓Z_whl, ↓Z_no, ↓Z_ite', ↓Z_some, Z_map, ↓Z_pComp, ↓Z_iComp, ↓Z_pSl, pO_none, ↓ZpO_some, ZpO_int, Zx_nx, Zx_rt, Zx_bk, Zx_ct, Zf_nx, Zf_ct, Zf_bk, Zf_rt, Zr_rt, Zr_nx, Zr1_rt, Zr1_nx, wIf_t, wIf_f, wIf_not, sE, List.map_cons, List.map_nil, List.replicate_succ, List.replicate_zero, List.cons_append, List.nil_append, Nat.reduceSub, Nat.reduceAdd, nLen_lst, nLen_tup, nInt_int, nList_lst, nList_tup, nList_scr, nTuple_lst, nTuple_tup, nIx_lst, nIx_tup, seqOf_lst, seqOf_tup, gRev_eq, gPop_eq, nI2_i, nIc_ok, nCmp_i, nAdd_i, nEq_int, nNe_int, nEq_bl, nNe_bl, nEq_TI, nNe_TI, nEq_LI, nNe_LI, nIn_TI, nIn_LI, X_fld, max2, min2, nTupD0, nTupD1, nTupD2, nTupD3, nTupD4, nLstD0, nLstD1, nLstD2, nLstD3, nLstD4, isi_int_int, isi_int_bl, isi_int_tup, isi_int_lst, isi_int_non, isi_int_str, isi_bool_int, isi_bool_bl, isi_bool_tup, isi_bool_lst, isi_bool_non, isi_bool_str, isi_tuple_int, isi_tuple_bl, isi_tuple_tup, isi_tuple_lst, isi_tuple_non, isi_tuple_str, isi_list_int, isi_list_bl, isi_list_tup, isi_list_lst, isi_list_non, isi_list_str, isi_str_int, isi_str_bl, isi_str_tup, isi_str_lst, isi_str_non, isi_str_str, isN_non, notN_non, nonD_non, nonD_int, nonD_bl, nonD_tup, nonD_lst, nonD_str, Z_bTup, Z_bsC, Z_bsN, Z_bNm, Option.bind_some, Option.map_some, List.getElem?_cons_zero, List.getElem?_cons_succ, List.set_cons_zero, List.set_cons_succ, List.length_cons, List.length_nil, id, Bool.not_true, Bool.not_false, List.length_map, List.length_set, decide_true, decide_false, eq_self, if_true, if_false, Bool.false_eq_true, decide_eq_true_eq, not_true_eq_false, not_false_eq_true, true_and, and_true, Int.cast_ofNat_Int, Int.reduceLT, Int.reduceLE, Int.reduceEq, bindT, wipeE, backE, Z_seq, Z_pC, Z_v0, Z_vS, Z_iP, Z_p1, Z_p2, Z_i1, Z_i2, Z_psN, Z_psC, Z_isN, Z_isC, Z_pN, Z_iN, Z_bP, Z_bI, Z_liftB, Z_andP, Z_orP, Z_bNotP, Z_andI, Z_orI, Z_bNotI, Z_pAnd, Z_pOr, Z_pNot, Z_iAnd, Z_iOr, Z_iNot, Z_pIf, Z_iIf, Z_pChain, Z_iCall, Z_iMod, Z_ivSeq, Z_itSeq, Z_ivN, Z_itN, Z_sNx, Z_sBk, Z_sCt, Z_if, Z_sAsg, Z_sEx, Z_sRt, Z_sRtN, Z_sRtO, Z_sAug, Z_sTg, Z_sFor, Z_asB, Z_lstOf, Z_set, Z_app2, Z_appK, Z_sPar, Z_whl, Z_no, Z_ite', Z_some, Z_pComp, Z_iComp, Z_pSl, ZpO_some, ↓Z_forL_nil, ↓Z_forL_cons, ↓Z_compP_nil, ↓Z_compP_cons, ↓Z_compI_nil, ↓Z_compI_cons, ↓Z_bYes, ↓Z_iYes, Z_forL_nil, Z_forL_cons, Z_compP_nil, Z_compP_cons, Z_compI_nil, Z_compI_cons, s_least_form, hd.lst]
  refine Z_whL (fun n env => ∃ (r f : List Int) (a b : Option D), r.length = n ∧ f.length + n = w.length ∧ (∀ x ∈ r, x ∈ w) ∧ (∀ t, Lf L r t → Lf L w (f ++ t)) ∧ env = [some (OB c L), some wd, some (.lst (LI r)), some (.lst (LI f)), a, b]) w.length _ (by unfold fuel; omega) ⟨w, [], _, _, rfl, by simp, fun _ h => h, fun t h => h, rfl⟩ ?_
  rintro n env ⟨r, f, a, b, hrn, hfn, hrw, hlf, rfl⟩
  have hrr : inR L.length r := fun x hx => hw x (hrw x hx)
  by_cases hr0 : r = []
  · subst hr0
    have z0 : ¬ (0 : Int) < ((0 : Nat) : Int) := by omega
    simp -dsimp only [↓Z_seq, ↓Z_pC, ↓Z_v0, ↓Z_vS, ↓Z_iP, ↓Z_p1, ↓Z_p2, ↓Z_i1, ↓Z_i2, ↓Z_psN, ↓Z_psC, ↓Z_isN, ↓Z_isC, ↓Z_pN, ↓Z_iN, ↓Z_bP, ↓Z_bI, ↓Z_liftB, ↓Z_andP, ↓Z_orP, ↓Z_bNotP, ↓Z_andI, ↓Z_orI, ↓Z_bNotI, ↓Z_pAnd, ↓Z_pOr, ↓Z_pNot, ↓Z_iAnd, ↓Z_iOr, ↓Z_iNot, ↓Z_pIf, ↓Z_iIf, ↓Z_pChain, ↓Z_iCall, ↓Z_iMod, ↓Z_ivSeq, ↓Z_itSeq, ↓Z_ivN, ↓Z_itN, ↓Z_sNx, ↓Z_sBk, ↓Z_sCt, ↓Z_if, ↓Z_sAsg, ↓Z_sEx, ↓Z_sRt, ↓Z_sRtN, ↓Z_sRtO, ↓Z_sAug, ↓Z_sTg, ↓Z_sFor, ↓Z_asB, ↓Z_lstOf, ↓Z_set, ↓Z_app2, ↓Z_appK, ↓Z_sPar, X_ex2, ↓Z_whl, ↓Z_no, ↓Z_ite', ↓Z_some, Z_map, ↓Z_pComp, ↓Z_iComp, ↓Z_pSl, pO_none, ↓ZpO_some, ZpO_int, Zx_nx, Zx_rt, Zx_bk, Zx_ct, Zf_nx, Zf_ct, Zf_bk, Zf_rt, Zr_rt, Zr_nx, Zr1_rt, Zr1_nx, wIf_t, wIf_f, wIf_not, sE, List.map_cons, List.map_nil, List.replicate_succ, List.replicate_zero, List.cons_append, List.nil_append, Nat.reduceSub, Nat.reduceAdd, nLen_lst, nLen_tup, nInt_int, nList_lst, nList_tup, nList_scr, nTuple_lst, nTuple_tup, nIx_lst, nIx_tup, seqOf_lst, seqOf_tup, gRev_eq, gPop_eq, nI2_i, nIc_ok, nCmp_i, nAdd_i, nEq_int, nNe_int, nEq_bl, nNe_bl, nEq_TI, nNe_TI, nEq_LI, nNe_LI, nIn_TI, nIn_LI, X_fld, max2, min2, nTupD0, nTupD1, nTupD2, nTupD3, nTupD4, nLstD0, nLstD1, nLstD2, nLstD3, nLstD4, isi_int_int, isi_int_bl, isi_int_tup, isi_int_lst, isi_int_non, isi_int_str, isi_bool_int, isi_bool_bl, isi_bool_tup, isi_bool_lst, isi_bool_non, isi_bool_str, isi_tuple_int, isi_tuple_bl, isi_tuple_tup, isi_tuple_lst, isi_tuple_non, isi_tuple_str, isi_list_int, isi_list_bl, isi_list_tup, isi_list_lst, isi_list_non, isi_list_str, isi_str_int, isi_str_bl, isi_str_tup, isi_str_lst, isi_str_non, isi_str_str, isN_non, notN_non, nonD_non, nonD_int, nonD_bl, nonD_tup, nonD_lst, nonD_str, Z_bTup, Z_bsC, Z_bsN, Z_bNm, Option.bind_some, Option.map_some, List.getElem?_cons_zero, List.getElem?_cons_succ, List.set_cons_zero, List.set_cons_succ, List.length_cons, List.length_nil, id, Bool.not_true, Bool.not_false, List.length_map, List.length_set, decide_true, decide_false, eq_self, if_true, if_false, Bool.false_eq_true, decide_eq_true_eq, not_true_eq_false, not_false_eq_true, true_and, and_true, Int.cast_ofNat_Int, Int.reduceLT, Int.reduceLE, Int.reduceEq, bindT, wipeE, backE, Z_seq, Z_pC, Z_v0, Z_vS, Z_iP, Z_p1, Z_p2, Z_i1, Z_i2, Z_psN, Z_psC, Z_isN, Z_isC, Z_pN, Z_iN, Z_bP, Z_bI, Z_liftB, Z_andP, Z_orP, Z_bNotP, Z_andI, Z_orI, Z_bNotI, Z_pAnd, Z_pOr, Z_pNot, Z_iAnd, Z_iOr, Z_iNot, Z_pIf, Z_iIf, Z_pChain, Z_iCall, Z_iMod, Z_ivSeq, Z_itSeq, Z_ivN, Z_itN, Z_sNx, Z_sBk, Z_sCt, Z_if, Z_sAsg, Z_sEx, Z_sRt, Z_sRtN, Z_sRtO, Z_sAug, Z_sTg, Z_sFor, Z_asB, Z_lstOf, Z_set, Z_app2, Z_appK, Z_sPar, Z_whl, Z_no, Z_ite', Z_some, Z_pComp, Z_iComp, Z_pSl, ZpO_some, ↓Z_forL_nil, ↓Z_forL_cons, ↓Z_compP_nil, ↓Z_compP_cons, ↓Z_compI_nil, ↓Z_compI_cons, ↓Z_bYes, ↓Z_iYes, Z_forL_nil, Z_forL_cons, Z_compP_nil, Z_compP_cons, Z_compI_nil, Z_compI_cons, z0]
    exact ⟨f, rfl, by simpa using hlf [] Lf.nil⟩
  · have hp : (0 : Int) < (r.length : Nat) := by have := List.length_pos_iff.mpr hr0; omega
    have hff := first_lettersF (c := c) (isW_l r) hrr hL (by omega)
    have hng : nNeg (.int 1) = some (.int (-1)) := rfl
    simp -dsimp only [↓Z_seq, ↓Z_pC, ↓Z_v0, ↓Z_vS, ↓Z_iP, ↓Z_p1, ↓Z_p2, ↓Z_i1, ↓Z_i2, ↓Z_psN, ↓Z_psC, ↓Z_isN, ↓Z_isC, ↓Z_pN, ↓Z_iN, ↓Z_bP, ↓Z_bI, ↓Z_liftB, ↓Z_andP, ↓Z_orP, ↓Z_bNotP, ↓Z_andI, ↓Z_orI, ↓Z_bNotI, ↓Z_pAnd, ↓Z_pOr, ↓Z_pNot, ↓Z_iAnd, ↓Z_iOr, ↓Z_iNot, ↓Z_pIf, ↓Z_iIf, ↓Z_pChain, ↓Z_iCall, ↓Z_iMod, ↓Z_ivSeq, ↓Z_itSeq, ↓Z_ivN, ↓Z_itN, ↓Z_sNx, ↓Z_sBk, ↓Z_sCt, ↓Z_if, ↓Z_sAsg, ↓Z_sEx, ↓Z_sRt, ↓Z_sRtN, ↓Z_sRtO, ↓Z_sAug, ↓Z_sTg, ↓Z_sFor, ↓Z_asB, ↓Z_lstOf, ↓Z_set, ↓Z_app2, ↓Z_appK, ↓Z_sPar, X_ex2, ↓Z_whl, ↓Z_no, ↓Z_ite', ↓Z_some, Z_map, ↓Z_pComp, ↓Z_iComp, ↓Z_pSl, pO_none, ↓ZpO_some, ZpO_int, Zx_nx, Zx_rt, Zx_bk, Zx_ct, Zf_nx, Zf_ct, Zf_bk, Zf_rt, Zr_rt, Zr_nx, Zr1_rt, Zr1_nx, wIf_t, wIf_f, wIf_not, sE, List.map_cons, List.map_nil, List.replicate_succ, List.replicate_zero, List.cons_append, List.nil_append, Nat.reduceSub, Nat.reduceAdd, nLen_lst, nLen_tup, nInt_int, nList_lst, nList_tup, nList_scr, nTuple_lst, nTuple_tup, nIx_lst, nIx_tup, seqOf_lst, seqOf_tup, gRev_eq, gPop_eq, nI2_i, nIc_ok, nCmp_i, nAdd_i, nEq_int, nNe_int, nEq_bl, nNe_bl, nEq_TI, nNe_TI, nEq_LI, nNe_LI, nIn_TI, nIn_LI, X_fld, max2, min2, nTupD0, nTupD1, nTupD2, nTupD3, nTupD4, nLstD0, nLstD1, nLstD2, nLstD3, nLstD4, isi_int_int, isi_int_bl, isi_int_tup, isi_int_lst, isi_int_non, isi_int_str, isi_bool_int, isi_bool_bl, isi_bool_tup, isi_bool_lst, isi_bool_non, isi_bool_str, isi_tuple_int, isi_tuple_bl, isi_tuple_tup, isi_tuple_lst, isi_tuple_non, isi_tuple_str, isi_list_int, isi_list_bl, isi_list_tup, isi_list_lst, isi_list_non, isi_list_str, isi_str_int, isi_str_bl, isi_str_tup, isi_str_lst, isi_str_non, isi_str_str, isN_non, notN_non, nonD_non, nonD_int, nonD_bl, nonD_tup, nonD_lst, nonD_str, Z_bTup, Z_bsC, Z_bsN, Z_bNm, Option.bind_some, Option.map_some, List.getElem?_cons_zero, List.getElem?_cons_succ, List.set_cons_zero, List.set_cons_succ, List.length_cons, List.length_nil, id, Bool.not_true, Bool.not_false, List.length_map, List.length_set, decide_true, decide_false, eq_self, if_true, if_false, Bool.false_eq_true, decide_eq_true_eq, not_true_eq_false, not_false_eq_true, true_and, and_true, Int.cast_ofNat_Int, Int.reduceLT, Int.reduceLE, Int.reduceEq, bindT, wipeE, backE, Z_seq, Z_pC, Z_v0, Z_vS, Z_iP, Z_p1, Z_p2, Z_i1, Z_i2, Z_psN, Z_psC, Z_isN, Z_isC, Z_pN, Z_iN, Z_bP, Z_bI, Z_liftB, Z_andP, Z_orP, Z_bNotP, Z_andI, Z_orI, Z_bNotI, Z_pAnd, Z_pOr, Z_pNot, Z_iAnd, Z_iOr, Z_iNot, Z_pIf, Z_iIf, Z_pChain, Z_iCall, Z_iMod, Z_ivSeq, Z_itSeq, Z_ivN, Z_itN, Z_sNx, Z_sBk, Z_sCt, Z_if, Z_sAsg, Z_sEx, Z_sRt, Z_sRtN, Z_sRtO, Z_sAug, Z_sTg, Z_sFor, Z_asB, Z_lstOf, Z_set, Z_app2, Z_appK, Z_sPar, Z_whl, Z_no, Z_ite', Z_some, Z_pComp, Z_iComp, Z_pSl, ZpO_some, ↓Z_forL_nil, ↓Z_forL_cons, ↓Z_compP_nil, ↓Z_compP_cons, ↓Z_compI_nil, ↓Z_compI_cons, ↓Z_bYes, ↓Z_iYes, Z_forL_nil, Z_forL_cons, Z_compP_nil, Z_compP_cons, Z_compI_nil, Z_compI_cons, hp, hff, hng]
    refine Z_forA D.int (nats (flp L r)) (fun i env => ∃ (best : Int) (b : Option D), Bst ((flp L r).take i) r best ∧ env = [some (OB c L), some wd, some (.lst (LI r)), some (.lst (LI f)), some (.int best), b]) _ ⟨_, _, .inl ⟨rfl, rfl⟩, rfl⟩ ?_ ?_
    · rintro i y env hy ⟨best, b, hB, rfl⟩
      obtain ⟨k, hk, rfl⟩ := nats_get hy
      have hkf := mem_flp.mp (List.mem_of_getElem? hk)
      have hts : (flp L r).take (i + 1) = (flp L r).take i ++ [k] := by rw [List.take_succ, hk]; rfl
      rw [hts]
      have g1 := LI_getD hkf.1
      by_cases hb0 : best < 0
      · simp -dsimp only [↓Z_seq, ↓Z_pC, ↓Z_v0, ↓Z_vS, ↓Z_iP, ↓Z_p1, ↓Z_p2, ↓Z_i1, ↓Z_i2, ↓Z_psN, ↓Z_psC, ↓Z_isN, ↓Z_isC, ↓Z_pN, ↓Z_iN, ↓Z_bP, ↓Z_bI, ↓Z_liftB, ↓Z_andP, ↓Z_orP, ↓Z_bNotP, ↓Z_andI, ↓Z_orI, ↓Z_bNotI, ↓Z_pAnd, ↓Z_pOr, ↓Z_pNot, ↓Z_iAnd, ↓Z_iOr, ↓Z_iNot, ↓Z_pIf, ↓Z_iIf, ↓Z_pChain, ↓Z_iCall, ↓Z_iMod, ↓Z_ivSeq, ↓Z_itSeq, ↓Z_ivN, ↓Z_itN, ↓Z_sNx, ↓Z_sBk, ↓Z_sCt, ↓Z_if, ↓Z_sAsg, ↓Z_sEx, ↓Z_sRt, ↓Z_sRtN, ↓Z_sRtO, ↓Z_sAug, ↓Z_sTg, ↓Z_sFor, ↓Z_asB, ↓Z_lstOf, ↓Z_set, ↓Z_app2, ↓Z_appK, ↓Z_sPar, X_ex2, ↓Z_whl, ↓Z_no, ↓Z_ite', ↓Z_some, Z_map, ↓Z_pComp, ↓Z_iComp, ↓Z_pSl, pO_none, ↓ZpO_some, ZpO_int, Zx_nx, Zx_rt, Zx_bk, Zx_ct, Zf_nx, Zf_ct, Zf_bk, Zf_rt, Zr_rt, Zr_nx, Zr1_rt, Zr1_nx, wIf_t, wIf_f, wIf_not, sE, List.map_cons, List.map_nil, List.replicate_succ, List.replicate_zero, List.cons_append, List.nil_append, Nat.reduceSub, Nat.reduceAdd, nLen_lst, nLen_tup, nInt_int, nList_lst, nList_tup, nList_scr, nTuple_lst, nTuple_tup, nIx_lst, nIx_tup, seqOf_lst, seqOf_tup, gRev_eq, gPop_eq, nI2_i, nIc_ok, nCmp_i, nAdd_i, nEq_int, nNe_int, nEq_bl, nNe_bl, nEq_TI, nNe_TI, nEq_LI, nNe_LI, nIn_TI, nIn_LI, X_fld, max2, min2, nTupD0, nTupD1, nTupD2, nTupD3, nTupD4, nLstD0, nLstD1, nLstD2, nLstD3, nLstD4, isi_int_int, isi_int_bl, isi_int_tup, isi_int_lst, isi_int_non, isi_int_str, isi_bool_int, isi_bool_bl, isi_bool_tup, isi_bool_lst, isi_bool_non, isi_bool_str, isi_tuple_int, isi_tuple_bl, isi_tuple_tup, isi_tuple_lst, isi_tuple_non, isi_tuple_str, isi_list_int, isi_list_bl, isi_list_tup, isi_list_lst, isi_list_non, isi_list_str, isi_str_int, isi_str_bl, isi_str_tup, isi_str_lst, isi_str_non, isi_str_str, isN_non, notN_non, nonD_non, nonD_int, nonD_bl, nonD_tup, nonD_lst, nonD_str, Z_bTup, Z_bsC, Z_bsN, Z_bNm, Option.bind_some, Option.map_some, List.getElem?_cons_zero, List.getElem?_cons_succ, List.set_cons_zero, List.set_cons_succ, List.length_cons, List.length_nil, id, Bool.not_true, Bool.not_false, List.length_map, List.length_set, decide_true, decide_false, eq_self, if_true, if_false, Bool.false_eq_true, decide_eq_true_eq, not_true_eq_false, not_false_eq_true, true_and, and_true, Int.cast_ofNat_Int, Int.reduceLT, Int.reduceLE, Int.reduceEq, bindT, wipeE, backE, Z_seq, Z_pC, Z_v0, Z_vS, Z_iP, Z_p1, Z_p2, Z_i1, Z_i2, Z_psN, Z_psC, Z_isN, Z_isC, Z_pN, Z_iN, Z_bP, Z_bI, Z_liftB, Z_andP, Z_orP, Z_bNotP, Z_andI, Z_orI, Z_bNotI, Z_pAnd, Z_pOr, Z_pNot, Z_iAnd, Z_iOr, Z_iNot, Z_pIf, Z_iIf, Z_pChain, Z_iCall, Z_iMod, Z_ivSeq, Z_itSeq, Z_ivN, Z_itN, Z_sNx, Z_sBk, Z_sCt, Z_if, Z_sAsg, Z_sEx, Z_sRt, Z_sRtN, Z_sRtO, Z_sAug, Z_sTg, Z_sFor, Z_asB, Z_lstOf, Z_set, Z_app2, Z_appK, Z_sPar, Z_whl, Z_no, Z_ite', Z_some, Z_pComp, Z_iComp, Z_pSl, ZpO_some, ↓Z_forL_nil, ↓Z_forL_cons, ↓Z_compP_nil, ↓Z_compP_cons, ↓Z_compI_nil, ↓Z_compI_cons, ↓Z_bYes, ↓Z_iYes, Z_forL_nil, Z_forL_cons, Z_compP_nil, Z_compP_cons, Z_compI_nil, Z_compI_cons, hb0]
        exact ⟨_, _, hB.take k (.inl hb0), rfl⟩
      · obtain ⟨bb, rfl⟩ : ∃ bb : Nat, best = (bb : Int) := ⟨best.toNat, by omega⟩
        have hbl : bb < r.length := by
          rcases hB with ⟨e, _⟩ | ⟨b', e, h1, _⟩
          · omega
          · have : bb = b' := by omega
            subst this
            exact (mem_flp.mp (List.mem_of_mem_take h1)).1
        have g2 := LI_getD hbl
        by_cases hlt : r.getD k 0 < r.getD bb 0
        · simp -dsimp only [↓Z_seq, ↓Z_pC, ↓Z_v0, ↓Z_vS, ↓Z_iP, ↓Z_p1, ↓Z_p2, ↓Z_i1, ↓Z_i2, ↓Z_psN, ↓Z_psC, ↓Z_isN, ↓Z_isC, ↓Z_pN, ↓Z_iN, ↓Z_bP, ↓Z_bI, ↓Z_liftB, ↓Z_andP, ↓Z_orP, ↓Z_bNotP, ↓Z_andI, ↓Z_orI, ↓Z_bNotI, ↓Z_pAnd, ↓Z_pOr, ↓Z_pNot, ↓Z_iAnd, ↓Z_iOr, ↓Z_iNot, ↓Z_pIf, ↓Z_iIf, ↓Z_pChain, ↓Z_iCall, ↓Z_iMod, ↓Z_ivSeq, ↓Z_itSeq, ↓Z_ivN, ↓Z_itN, ↓Z_sNx, ↓Z_sBk, ↓Z_sCt, ↓Z_if, ↓Z_sAsg, ↓Z_sEx, ↓Z_sRt, ↓Z_sRtN, ↓Z_sRtO, ↓Z_sAug, ↓Z_sTg, ↓Z_sFor, ↓Z_asB, ↓Z_lstOf, ↓Z_set, ↓Z_app2, ↓Z_appK, ↓Z_sPar, X_ex2, ↓Z_whl, ↓Z_no, ↓Z_ite', ↓Z_some, Z_map, ↓Z_pComp, ↓Z_iComp, ↓Z_pSl, pO_none, ↓ZpO_some, ZpO_int, Zx_nx, Zx_rt, Zx_bk, Zx_ct, Zf_nx, Zf_ct, Zf_bk, Zf_rt, Zr_rt, Zr_nx, Zr1_rt, Zr1_nx, wIf_t, wIf_f, wIf_not, sE, List.map_cons, List.map_nil, List.replicate_succ, List.replicate_zero, List.cons_append, List.nil_append, Nat.reduceSub, Nat.reduceAdd, nLen_lst, nLen_tup, nInt_int, nList_lst, nList_tup, nList_scr, nTuple_lst, nTuple_tup, nIx_lst, nIx_tup, seqOf_lst, seqOf_tup, gRev_eq, gPop_eq, nI2_i, nIc_ok, nCmp_i, nAdd_i, nEq_int, nNe_int, nEq_bl, nNe_bl, nEq_TI, nNe_TI, nEq_LI, nNe_LI, nIn_TI, nIn_LI, X_fld, max2, min2, nTupD0, nTupD1, nTupD2, nTupD3, nTupD4, nLstD0, nLstD1, nLstD2, nLstD3, nLstD4, isi_int_int, isi_int_bl, isi_int_tup, isi_int_lst, isi_int_non, isi_int_str, isi_bool_int, isi_bool_bl, isi_bool_tup, isi_bool_lst, isi_bool_non, isi_bool_str, isi_tuple_int, isi_tuple_bl, isi_tuple_tup, isi_tuple_lst, isi_tuple_non, isi_tuple_str, isi_list_int, isi_list_bl, isi_list_tup, isi_list_lst, isi_list_non, isi_list_str, isi_str_int, isi_str_bl, isi_str_tup, isi_str_lst, isi_str_non, isi_str_str, isN_non, notN_non, nonD_non, nonD_int, nonD_bl, nonD_tup, nonD_lst, nonD_str, Z_bTup, Z_bsC, Z_bsN, Z_bNm, Option.bind_some, Option.map_some, List.getElem?_cons_zero, List.getElem?_cons_succ, List.set_cons_zero, List.set_cons_succ, List.length_cons, List.length_nil, id, Bool.not_true, Bool.not_false, List.length_map, List.length_set, decide_true, decide_false, eq_self, if_true, if_false, Bool.false_eq_true, decide_eq_true_eq, not_true_eq_false, not_false_eq_true, true_and, and_true, Int.cast_ofNat_Int, Int.reduceLT, Int.reduceLE, Int.reduceEq, bindT, wipeE, backE, Z_seq, Z_pC, Z_v0, Z_vS, Z_iP, Z_p1, Z_p2, Z_i1, Z_i2, Z_psN, Z_psC, Z_isN, Z_isC, Z_pN, Z_iN, Z_bP, Z_bI, Z_liftB, Z_andP, Z_orP, Z_bNotP, Z_andI, Z_orI, Z_bNotI, Z_pAnd, Z_pOr, Z_pNot, Z_iAnd, Z_iOr, Z_iNot, Z_pIf, Z_iIf, Z_pChain, Z_iCall, Z_iMod, Z_ivSeq, Z_itSeq, Z_ivN, Z_itN, Z_sNx, Z_sBk, Z_sCt, Z_if, Z_sAsg, Z_sEx, Z_sRt, Z_sRtN, Z_sRtO, Z_sAug, Z_sTg, Z_sFor, Z_asB, Z_lstOf, Z_set, Z_app2, Z_appK, Z_sPar, Z_whl, Z_no, Z_ite', Z_some, Z_pComp, Z_iComp, Z_pSl, ZpO_some, ↓Z_forL_nil, ↓Z_forL_cons, ↓Z_compP_nil, ↓Z_compP_cons, ↓Z_compI_nil, ↓Z_compI_cons, ↓Z_bYes, ↓Z_iYes, Z_forL_nil, Z_forL_cons, Z_compP_nil, Z_compP_cons, Z_compI_nil, Z_compI_cons, hb0, g1, g2, hlt]
          exact ⟨_, _, hB.take k (.inr ⟨bb, rfl, hlt⟩), rfl⟩
        · simp -dsimp only [↓Z_seq, ↓Z_pC, ↓Z_v0, ↓Z_vS, ↓Z_iP, ↓Z_p1, ↓Z_p2, ↓Z_i1, ↓Z_i2, ↓Z_psN, ↓Z_psC, ↓Z_isN, ↓Z_isC, ↓Z_pN, ↓Z_iN, ↓Z_bP, ↓Z_bI, ↓Z_liftB, ↓Z_andP, ↓Z_orP, ↓Z_bNotP, ↓Z_andI, ↓Z_orI, ↓Z_bNotI, ↓Z_pAnd, ↓Z_pOr, ↓Z_pNot, ↓Z_iAnd, ↓Z_iOr, ↓Z_iNot, ↓Z_pIf, ↓Z_iIf, ↓Z_pChain, ↓Z_iCall, ↓Z_iMod, ↓Z_ivSeq, ↓Z_itSeq, ↓Z_ivN, ↓Z_itN, ↓Z_sNx, ↓Z_sBk, ↓Z_sCt, ↓Z_if, ↓Z_sAsg, ↓Z_sEx, ↓Z_sRt, ↓Z_sRtN, ↓Z_sRtO, ↓Z_sAug, ↓Z_sTg, ↓Z_sFor, ↓Z_asB, ↓Z_lstOf, ↓Z_set, ↓Z_app2, ↓Z_appK, ↓Z_sPar, X_ex2, ↓Z_whl, ↓Z_no, ↓Z_ite', ↓Z_some, Z_map, ↓Z_pComp, ↓Z_iComp, ↓Z_pSl, pO_none, ↓ZpO_some, ZpO_int, Zx_nx, Zx_rt, Zx_bk, Zx_ct, Zf_nx, Zf_ct, Zf_bk, Zf_rt, Zr_rt, Zr_nx, Zr1_rt, Zr1_nx, wIf_t, wIf_f, wIf_not, sE, List.map_cons, List.map_nil, List.replicate_succ, List.replicate_zero, List.cons_append, List.nil_append, Nat.reduceSub, Nat.reduceAdd, nLen_lst, nLen_tup, nInt_int, nList_lst, nList_tup, nList_scr, nTuple_lst, nTuple_tup, nIx_lst, nIx_tup, seqOf_lst, seqOf_tup, gRev_eq, gPop_eq, nI2_i, nIc_ok, nCmp_i, nAdd_i, nEq_int, nNe_int, nEq_bl, nNe_bl, nEq_TI, nNe_TI, nEq_LI, nNe_LI, nIn_TI, nIn_LI, X_fld, max2, min2, nTupD0, nTupD1, nTupD2, nTupD3, nTupD4, nLstD0, nLstD1, nLstD2, nLstD3, nLstD4, isi_int_int, isi_int_bl, isi_int_tup, isi_int_lst, isi_int_non, isi_int_str, isi_bool_int, isi_bool_bl, isi_bool_tup, isi_bool_lst, isi_bool_non, isi_bool_str, isi_tuple_int, isi_tuple_bl, isi_tuple_tup, isi_tuple_lst, isi_tuple_non, isi_tuple_str, isi_list_int, isi_list_bl, isi_list_tup, isi_list_lst, isi_list_non, isi_list_str, isi_str_int, isi_str_bl, isi_str_tup, isi_str_lst, isi_str_non, isi_str_str, isN_non, notN_non, nonD_non, nonD_int, nonD_bl, nonD_tup, nonD_lst, nonD_str, Z_bTup, Z_bsC, Z_bsN, Z_bNm, Option.bind_some, Option.map_some, List.getElem?_cons_zero, List.getElem?_cons_succ, List.set_cons_zero, List.set_cons_succ, List.length_cons, List.length_nil, id, Bool.not_true, Bool.not_false, List.length_map, List.length_set, decide_true, decide_false, eq_self, if_true, if_false, Bool.false_eq_true, decide_eq_true_eq, not_true_eq_false, not_false_eq_true, true_and, and_true, Int.cast_ofNat_Int, Int.reduceLT, Int.reduceLE, Int.reduceEq, bindT, wipeE, backE, Z_seq, Z_pC, Z_v0, Z_vS, Z_iP, Z_p1, Z_p2, Z_i1, Z_i2, Z_psN, Z_psC, Z_isN, Z_isC, Z_pN, Z_iN, Z_bP, Z_bI, Z_liftB, Z_andP, Z_orP, Z_bNotP, Z_andI, Z_orI, Z_bNotI, Z_pAnd, Z_pOr, Z_pNot, Z_iAnd, Z_iOr, Z_iNot, Z_pIf, Z_iIf, Z_pChain, Z_iCall, Z_iMod, Z_ivSeq, Z_itSeq, Z_ivN, Z_itN, Z_sNx, Z_sBk, Z_sCt, Z_if, Z_sAsg, Z_sEx, Z_sRt, Z_sRtN, Z_sRtO, Z_sAug, Z_sTg, Z_sFor, Z_asB, Z_lstOf, Z_set, Z_app2, Z_appK, Z_sPar, Z_whl, Z_no, Z_ite', Z_some, Z_pComp, Z_iComp, Z_pSl, ZpO_some, ↓Z_forL_nil, ↓Z_forL_cons, ↓Z_compP_nil, ↓Z_compP_cons, ↓Z_compI_nil, ↓Z_compI_cons, ↓Z_bYes, ↓Z_iYes, Z_forL_nil, Z_forL_cons, Z_compP_nil, Z_compP_cons, Z_compI_nil, Z_compI_cons, hb0, g1, g2, hlt]
          exact ⟨_, _, hB.keep hlt, rfl⟩
    · rintro env ⟨best, b, hB, rfl⟩
      rw [show (nats (flp L r)).length = (flp L r).length by rw [List.length_map], List.take_length] at hB
      obtain ⟨bb, rfl, hbl, hst⟩ := best_step hB hr0
      have hel : (r.eraseIdx bb).length = r.length - 1 := by rw [List.length_eraseIdx, if_pos hbl]
      simp -dsimp only [↓Z_seq, ↓Z_pC, ↓Z_v0, ↓Z_vS, ↓Z_iP, ↓Z_p1, ↓Z_p2, ↓Z_i1, ↓Z_i2, ↓Z_psN, ↓Z_psC, ↓Z_isN, ↓Z_isC, ↓Z_pN, ↓Z_iN, ↓Z_bP, ↓Z_bI, ↓Z_liftB, ↓Z_andP, ↓Z_orP, ↓Z_bNotP, ↓Z_andI, ↓Z_orI, ↓Z_bNotI, ↓Z_pAnd, ↓Z_pOr, ↓Z_pNot, ↓Z_iAnd, ↓Z_iOr, ↓Z_iNot, ↓Z_pIf, ↓Z_iIf, ↓Z_pChain, ↓Z_iCall, ↓Z_iMod, ↓Z_ivSeq, ↓Z_itSeq, ↓Z_ivN, ↓Z_itN, ↓Z_sNx, ↓Z_sBk, ↓Z_sCt, ↓Z_if, ↓Z_sAsg, ↓Z_sEx, ↓Z_sRt, ↓Z_sRtN, ↓Z_sRtO, ↓Z_sAug, ↓Z_sTg, ↓Z_sFor, ↓Z_asB, ↓Z_lstOf, ↓Z_set, ↓Z_app2, ↓Z_appK, ↓Z_sPar, X_ex2, ↓Z_whl, ↓Z_no, ↓Z_ite', ↓Z_some, Z_map, ↓Z_pComp, ↓Z_iComp, ↓Z_pSl, pO_none, ↓ZpO_some, ZpO_int, Zx_nx, Zx_rt, Zx_bk, Zx_ct, Zf_nx, Zf_ct, Zf_bk, Zf_rt, Zr_rt, Zr_nx, Zr1_rt, Zr1_nx, wIf_t, wIf_f, wIf_not, sE, List.map_cons, List.map_nil, List.replicate_succ, List.replicate_zero, List.cons_append, List.nil_append, Nat.reduceSub, Nat.reduceAdd, nLen_lst, nLen_tup, nInt_int, nList_lst, nList_tup, nList_scr, nTuple_lst, nTuple_tup, nIx_lst, nIx_tup, seqOf_lst, seqOf_tup, gRev_eq, gPop_eq, nI2_i, nIc_ok, nCmp_i, nAdd_i, nEq_int, nNe_int, nEq_bl, nNe_bl, nEq_TI, nNe_TI, nEq_LI, nNe_LI, nIn_TI, nIn_LI, X_fld, max2, min2, nTupD0, nTupD1, nTupD2, nTupD3, nTupD4, nLstD0, nLstD1, nLstD2, nLstD3, nLstD4, isi_int_int, isi_int_bl, isi_int_tup, isi_int_lst, isi_int_non, isi_int_str, isi_bool_int, isi_bool_bl, isi_bool_tup, isi_bool_lst, isi_bool_non, isi_bool_str, isi_tuple_int, isi_tuple_bl, isi_tuple_tup, isi_tuple_lst, isi_tuple_non, isi_tuple_str, isi_list_int, isi_list_bl, isi_list_tup, isi_list_lst, isi_list_non, isi_list_str, isi_str_int, isi_str_bl, isi_str_tup, isi_str_lst, isi_str_non, isi_str_str, isN_non, notN_non, nonD_non, nonD_int, nonD_bl, nonD_tup, nonD_lst, nonD_str, Z_bTup, Z_bsC, Z_bsN, Z_bNm, Option.bind_some, Option.map_some, List.getElem?_cons_zero, List.getElem?_cons_succ, List.set_cons_zero, List.set_cons_succ, List.length_cons, List.length_nil, id, Bool.not_true, Bool.not_false, List.length_map, List.length_set, decide_true, decide_false, eq_self, if_true, if_false, Bool.false_eq_true, decide_eq_true_eq, not_true_eq_false, not_false_eq_true, true_and, and_true, Int.cast_ofNat_Int, Int.reduceLT, Int.reduceLE, Int.reduceEq, bindT, wipeE, backE, Z_seq, Z_pC, Z_v0, Z_vS, Z_iP, Z_p1, Z_p2, Z_i1, Z_i2, Z_psN, Z_psC, Z_isN, Z_isC, Z_pN, Z_iN, Z_bP, Z_bI, Z_liftB, Z_andP, Z_orP, Z_bNotP, Z_andI, Z_orI, Z_bNotI, Z_pAnd, Z_pOr, Z_pNot, Z_iAnd, Z_iOr, Z_iNot, Z_pIf, Z_iIf, Z_pChain, Z_iCall, Z_iMod, Z_ivSeq, Z_itSeq, Z_ivN, Z_itN, Z_sNx, Z_sBk, Z_sCt, Z_if, Z_sAsg, Z_sEx, Z_sRt, Z_sRtN, Z_sRtO, Z_sAug, Z_sTg, Z_sFor, Z_asB, Z_lstOf, Z_set, Z_app2, Z_appK, Z_sPar, Z_whl, Z_no, Z_ite', Z_some, Z_pComp, Z_iComp, Z_pSl, ZpO_some, ↓Z_forL_nil, ↓Z_forL_cons, ↓Z_compP_nil, ↓Z_compP_cons, ↓Z_compI_nil, ↓Z_compI_cons, ↓Z_bYes, ↓Z_iYes, Z_forL_nil, Z_forL_cons, Z_compP_nil, Z_compP_cons, Z_compI_nil, Z_compI_cons, popAt hbl (by omega), gApp_eq (show (LI f).length < sizeLine from size_lt (by rw [List.length_map]; omega)), LI_app1]
      refine ⟨n - 1, by omega, r.eraseIdx bb, f ++ [r.getD bb 0], _, _, by omega, by rw [List.length_append, List.length_singleton]; omega, fun x hx => hrw x (List.mem_of_mem_eraseIdx hx), fun t ht => ?_, rfl⟩
      rw [List.append_assoc]
      exact hlf _ (hst t ht)
theorem first_place_spec {L : List (List Int)} {c a : Int} {wd : D} {w : List Int} (hd : IsW wd w) (hw : inR L.length w) (hL : L.length < 100) (hl : w.length < 1000) :
    ∃ k : Int, C_first_place [OB c L, wd, .int a] = some (.int k) ∧ ((k = -1 ∧ ¬ Fst L w a) ∨ ∃ u v, w = u ++ a :: v ∧ (∀ y ∈ u, indep L y a = true) ∧ k = (u.length : Nat)) := by
  suffices z : ∃ r, C_first_place [OB c L, wd, .int a] = some r ∧ ∃ k : Int, r = .int k ∧ ((k = -1 ∧ ¬ Fst L w a) ∨ ∃ u v, w = u ++ a :: v ∧ (∀ y ∈ u, indep L y a = true) ∧ k = (u.length : Nat)) by
    obtain ⟨r, e, k, rfl, h⟩ := z
    exact ⟨k, e, h⟩
  have hix := hd.ix
  refine Z_run0W rfl ?_
  have hff := first_letters_spec (c := c) hd hw hL hl
  have hng : nNeg (.int 1) = some (.int (-1)) := rfl
  simp -dsimp only [↓Z_seq, ↓Z_pC, ↓Z_v0, ↓Z_vS, ↓Z_iP, ↓Z_p1, ↓Z_p2, ↓Z_i1, ↓Z_i2, ↓Z_psN, ↓Z_psC, ↓Z_isN, ↓Z_isC, ↓Z_pN, ↓Z_iN, ↓Z_bP, ↓Z_bI, ↓Z_liftB, ↓Z_andP, ↓Z_orP, ↓Z_bNotP, ↓Z_andI, ↓Z_orI, ↓Z_bNotI, ↓Z_pAnd, ↓Z_pOr, ↓Z_pNot, ↓Z_iAnd, ↓Z_iOr, ↓Z_iNot, ↓Z_pIf, ↓Z_iIf, ↓Z_pChain, ↓Z_iCall, ↓Z_iMod, ↓Z_ivSeq, ↓Z_itSeq, ↓Z_ivN, ↓Z_itN, ↓Z_sNx, ↓Z_sBk, ↓Z_sCt, ↓Z_if, ↓Z_sAsg, ↓Z_sEx, ↓Z_sRt, ↓Z_sRtN, ↓Z_sRtO, ↓Z_sAug, ↓Z_sTg, ↓Z_sFor, ↓Z_asB, ↓Z_lstOf, ↓Z_set, ↓Z_app2, ↓Z_appK, ↓Z_sPar, X_ex2, ↓Z_whl, ↓Z_no, ↓Z_ite', ↓Z_some, Z_map, ↓Z_pComp, ↓Z_iComp, ↓Z_pSl, pO_none, ↓ZpO_some, ZpO_int, Zx_nx, Zx_rt, Zx_bk, Zx_ct, Zf_nx, Zf_ct, Zf_bk, Zf_rt, Zr_rt, Zr_nx, Zr1_rt, Zr1_nx, wIf_t, wIf_f, wIf_not, sE, List.map_cons, List.map_nil, List.replicate_succ, List.replicate_zero, List.cons_append, List.nil_append, Nat.reduceSub, Nat.reduceAdd, nLen_lst, nLen_tup, nInt_int, nList_lst, nList_tup, nList_scr, nTuple_lst, nTuple_tup, nIx_lst, nIx_tup, seqOf_lst, seqOf_tup, gRev_eq, gPop_eq, nI2_i, nIc_ok, nCmp_i, nAdd_i, nEq_int, nNe_int, nEq_bl, nNe_bl, nEq_TI, nNe_TI, nEq_LI, nNe_LI, nIn_TI, nIn_LI, X_fld, max2, min2, nTupD0, nTupD1, nTupD2, nTupD3, nTupD4, nLstD0, nLstD1, nLstD2, nLstD3, nLstD4, isi_int_int, isi_int_bl, isi_int_tup, isi_int_lst, isi_int_non, isi_int_str, isi_bool_int, isi_bool_bl, isi_bool_tup, isi_bool_lst, isi_bool_non, isi_bool_str, isi_tuple_int, isi_tuple_bl, isi_tuple_tup, isi_tuple_lst, isi_tuple_non, isi_tuple_str, isi_list_int, isi_list_bl, isi_list_tup, isi_list_lst, isi_list_non, isi_list_str, isi_str_int, isi_str_bl, isi_str_tup, isi_str_lst, isi_str_non, isi_str_str, isN_non, notN_non, nonD_non, nonD_int, nonD_bl, nonD_tup, nonD_lst, nonD_str, Z_bTup, Z_bsC, Z_bsN, Z_bNm, Option.bind_some, Option.map_some, List.getElem?_cons_zero, List.getElem?_cons_succ, List.set_cons_zero, List.set_cons_succ, List.length_cons, List.length_nil, id, Bool.not_true, Bool.not_false, List.length_map, List.length_set, decide_true, decide_false, eq_self, if_true, if_false, Bool.false_eq_true, decide_eq_true_eq, not_true_eq_false, not_false_eq_true, true_and, and_true, Int.cast_ofNat_Int, Int.reduceLT, Int.reduceLE, Int.reduceEq, bindT, wipeE, backE, Z_seq, Z_pC, Z_v0, Z_vS, Z_iP, Z_p1, Z_p2, Z_i1, Z_i2, Z_psN, Z_psC, Z_isN, Z_isC, Z_pN, Z_iN, Z_bP, Z_bI, Z_liftB, Z_andP, Z_orP, Z_bNotP, Z_andI, Z_orI, Z_bNotI, Z_pAnd, Z_pOr, Z_pNot, Z_iAnd, Z_iOr, Z_iNot, Z_pIf, Z_iIf, Z_pChain, Z_iCall, Z_iMod, Z_ivSeq, Z_itSeq, Z_ivN, Z_itN, Z_sNx, Z_sBk, Z_sCt, Z_if, Z_sAsg, Z_sEx, Z_sRt, Z_sRtN, Z_sRtO, Z_sAug, Z_sTg, Z_sFor, Z_asB, Z_lstOf, Z_set, Z_app2, Z_appK, Z_sPar, Z_whl, Z_no, Z_ite', Z_some, Z_pComp, Z_iComp, Z_pSl, ZpO_some, ↓Z_forL_nil, ↓Z_forL_cons, ↓Z_compP_nil, ↓Z_compP_cons, ↓Z_compI_nil, ↓Z_compI_cons, ↓Z_bYes, ↓Z_iYes, Z_forL_nil, Z_forL_cons, Z_compP_nil, Z_compP_cons, Z_compI_nil, Z_compI_cons, s_first_place, hff]
  refine Z_forA D.int (nats (flp L w)) (fun i env => (∀ k ∈ (flp L w).take i, w.getD k 0 ≠ a) ∧ ∃ v, env = [some (OB c L), some wd, some (.int a), v]) _ ⟨by simp, _, rfl⟩ ?_ ?_
  · rintro i y env hy ⟨hall, v, rfl⟩
    obtain ⟨k, hk, rfl⟩ := nats_get hy
    have hkf := mem_flp.mp (List.mem_of_getElem? hk)
    have hts : (flp L w).take (i + 1) = (flp L w).take i ++ [k] := by rw [List.take_succ, hk]; rfl
    have g1 := LI_getD hkf.1
    simp -dsimp only [↓Z_seq, ↓Z_pC, ↓Z_v0, ↓Z_vS, ↓Z_iP, ↓Z_p1, ↓Z_p2, ↓Z_i1, ↓Z_i2, ↓Z_psN, ↓Z_psC, ↓Z_isN, ↓Z_isC, ↓Z_pN, ↓Z_iN, ↓Z_bP, ↓Z_bI, ↓Z_liftB, ↓Z_andP, ↓Z_orP, ↓Z_bNotP, ↓Z_andI, ↓Z_orI, ↓Z_bNotI, ↓Z_pAnd, ↓Z_pOr, ↓Z_pNot, ↓Z_iAnd, ↓Z_iOr, ↓Z_iNot, ↓Z_pIf, ↓Z_iIf, ↓Z_pChain, ↓Z_iCall, ↓Z_iMod, ↓Z_ivSeq, ↓Z_itSeq, ↓Z_ivN, ↓Z_itN, ↓Z_sNx, ↓Z_sBk, ↓Z_sCt, ↓Z_if, ↓Z_sAsg, ↓Z_sEx, ↓Z_sRt, ↓Z_sRtN, ↓Z_sRtO, ↓Z_sAug, ↓Z_sTg, ↓Z_sFor, ↓Z_asB, ↓Z_lstOf, ↓Z_set, ↓Z_app2, ↓Z_appK, ↓Z_sPar, X_ex2, ↓Z_whl, ↓Z_no, ↓Z_ite', ↓Z_some, Z_map, ↓Z_pComp, ↓Z_iComp, ↓Z_pSl, pO_none, ↓ZpO_some, ZpO_int, Zx_nx, Zx_rt, Zx_bk, Zx_ct, Zf_nx, Zf_ct, Zf_bk, Zf_rt, Zr_rt, Zr_nx, Zr1_rt, Zr1_nx, wIf_t, wIf_f, wIf_not, sE, List.map_cons, List.map_nil, List.replicate_succ, List.replicate_zero, List.cons_append, List.nil_append, Nat.reduceSub, Nat.reduceAdd, nLen_lst, nLen_tup, nInt_int, nList_lst, nList_tup, nList_scr, nTuple_lst, nTuple_tup, nIx_lst, nIx_tup, seqOf_lst, seqOf_tup, gRev_eq, gPop_eq, nI2_i, nIc_ok, nCmp_i, nAdd_i, nEq_int, nNe_int, nEq_bl, nNe_bl, nEq_TI, nNe_TI, nEq_LI, nNe_LI, nIn_TI, nIn_LI, X_fld, max2, min2, nTupD0, nTupD1, nTupD2, nTupD3, nTupD4, nLstD0, nLstD1, nLstD2, nLstD3, nLstD4, isi_int_int, isi_int_bl, isi_int_tup, isi_int_lst, isi_int_non, isi_int_str, isi_bool_int, isi_bool_bl, isi_bool_tup, isi_bool_lst, isi_bool_non, isi_bool_str, isi_tuple_int, isi_tuple_bl, isi_tuple_tup, isi_tuple_lst, isi_tuple_non, isi_tuple_str, isi_list_int, isi_list_bl, isi_list_tup, isi_list_lst, isi_list_non, isi_list_str, isi_str_int, isi_str_bl, isi_str_tup, isi_str_lst, isi_str_non, isi_str_str, isN_non, notN_non, nonD_non, nonD_int, nonD_bl, nonD_tup, nonD_lst, nonD_str, Z_bTup, Z_bsC, Z_bsN, Z_bNm, Option.bind_some, Option.map_some, List.getElem?_cons_zero, List.getElem?_cons_succ, List.set_cons_zero, List.set_cons_succ, List.length_cons, List.length_nil, id, Bool.not_true, Bool.not_false, List.length_map, List.length_set, decide_true, decide_false, eq_self, if_true, if_false, Bool.false_eq_true, decide_eq_true_eq, not_true_eq_false, not_false_eq_true, true_and, and_true, Int.cast_ofNat_Int, Int.reduceLT, Int.reduceLE, Int.reduceEq, bindT, wipeE, backE, Z_seq, Z_pC, Z_v0, Z_vS, Z_iP, Z_p1, Z_p2, Z_i1, Z_i2, Z_psN, Z_psC, Z_isN, Z_isC, Z_pN, Z_iN, Z_bP, Z_bI, Z_liftB, Z_andP, Z_orP, Z_bNotP, Z_andI, Z_orI, Z_bNotI, Z_pAnd, Z_pOr, Z_pNot, Z_iAnd, Z_iOr, Z_iNot, Z_pIf, Z_iIf, Z_pChain, Z_iCall, Z_iMod, Z_ivSeq, Z_itSeq, Z_ivN, Z_itN, Z_sNx, Z_sBk, Z_sCt, Z_if, Z_sAsg, Z_sEx, Z_sRt, Z_sRtN, Z_sRtO, Z_sAug, Z_sTg, Z_sFor, Z_asB, Z_lstOf, Z_set, Z_app2, Z_appK, Z_sPar, Z_whl, Z_no, Z_ite', Z_some, Z_pComp, Z_iComp, Z_pSl, ZpO_some, ↓Z_forL_nil, ↓Z_forL_cons, ↓Z_compP_nil, ↓Z_compP_cons, ↓Z_compI_nil, ↓Z_compI_cons, ↓Z_bYes, ↓Z_iYes, Z_forL_nil, Z_forL_cons, Z_compP_nil, Z_compP_cons, Z_compI_nil, Z_compI_cons, hix, g1]
    refine wIf_dec (fun h => ?_) (fun h => ?_)
    · simp -dsimp only [↓Z_seq, ↓Z_pC, ↓Z_v0, ↓Z_vS, ↓Z_iP, ↓Z_p1, ↓Z_p2, ↓Z_i1, ↓Z_i2, ↓Z_psN, ↓Z_psC, ↓Z_isN, ↓Z_isC, ↓Z_pN, ↓Z_iN, ↓Z_bP, ↓Z_bI, ↓Z_liftB, ↓Z_andP, ↓Z_orP, ↓Z_bNotP, ↓Z_andI, ↓Z_orI, ↓Z_bNotI, ↓Z_pAnd, ↓Z_pOr, ↓Z_pNot, ↓Z_iAnd, ↓Z_iOr, ↓Z_iNot, ↓Z_pIf, ↓Z_iIf, ↓Z_pChain, ↓Z_iCall, ↓Z_iMod, ↓Z_ivSeq, ↓Z_itSeq, ↓Z_ivN, ↓Z_itN, ↓Z_sNx, ↓Z_sBk, ↓Z_sCt, ↓Z_if, ↓Z_sAsg, ↓Z_sEx, ↓Z_sRt, ↓Z_sRtN, ↓Z_sRtO, ↓Z_sAug, ↓Z_sTg, ↓Z_sFor, ↓Z_asB, ↓Z_lstOf, ↓Z_set, ↓Z_app2, ↓Z_appK, ↓Z_sPar, X_ex2, ↓Z_whl, ↓Z_no, ↓Z_ite', ↓Z_some, Z_map, ↓Z_pComp, ↓Z_iComp, ↓Z_pSl, pO_none, ↓ZpO_some, ZpO_int, Zx_nx, Zx_rt, Zx_bk, Zx_ct, Zf_nx, Zf_ct, Zf_bk, Zf_rt, Zr_rt, Zr_nx, Zr1_rt, Zr1_nx, wIf_t, wIf_f, wIf_not, sE, List.map_cons, List.map_nil, List.replicate_succ, List.replicate_zero, List.cons_append, List.nil_append, Nat.reduceSub, Nat.reduceAdd, nLen_lst, nLen_tup, nInt_int, nList_lst, nList_tup, nList_scr, nTuple_lst, nTuple_tup, nIx_lst, nIx_tup, seqOf_lst, seqOf_tup, gRev_eq, gPop_eq, nI2_i, nIc_ok, nCmp_i, nAdd_i, nEq_int, nNe_int, nEq_bl, nNe_bl, nEq_TI, nNe_TI, nEq_LI, nNe_LI, nIn_TI, nIn_LI, X_fld, max2, min2, nTupD0, nTupD1, nTupD2, nTupD3, nTupD4, nLstD0, nLstD1, nLstD2, nLstD3, nLstD4, isi_int_int, isi_int_bl, isi_int_tup, isi_int_lst, isi_int_non, isi_int_str, isi_bool_int, isi_bool_bl, isi_bool_tup, isi_bool_lst, isi_bool_non, isi_bool_str, isi_tuple_int, isi_tuple_bl, isi_tuple_tup, isi_tuple_lst, isi_tuple_non, isi_tuple_str, isi_list_int, isi_list_bl, isi_list_tup, isi_list_lst, isi_list_non, isi_list_str, isi_str_int, isi_str_bl, isi_str_tup, isi_str_lst, isi_str_non, isi_str_str, isN_non, notN_non, nonD_non, nonD_int, nonD_bl, nonD_tup, nonD_lst, nonD_str, Z_bTup, Z_bsC, Z_bsN, Z_bNm, Option.bind_some, Option.map_some, List.getElem?_cons_zero, List.getElem?_cons_succ, List.set_cons_zero, List.set_cons_succ, List.length_cons, List.length_nil, id, Bool.not_true, Bool.not_false, List.length_map, List.length_set, decide_true, decide_false, eq_self, if_true, if_false, Bool.false_eq_true, decide_eq_true_eq, not_true_eq_false, not_false_eq_true, true_and, and_true, Int.cast_ofNat_Int, Int.reduceLT, Int.reduceLE, Int.reduceEq, bindT, wipeE, backE, Z_seq, Z_pC, Z_v0, Z_vS, Z_iP, Z_p1, Z_p2, Z_i1, Z_i2, Z_psN, Z_psC, Z_isN, Z_isC, Z_pN, Z_iN, Z_bP, Z_bI, Z_liftB, Z_andP, Z_orP, Z_bNotP, Z_andI, Z_orI, Z_bNotI, Z_pAnd, Z_pOr, Z_pNot, Z_iAnd, Z_iOr, Z_iNot, Z_pIf, Z_iIf, Z_pChain, Z_iCall, Z_iMod, Z_ivSeq, Z_itSeq, Z_ivN, Z_itN, Z_sNx, Z_sBk, Z_sCt, Z_if, Z_sAsg, Z_sEx, Z_sRt, Z_sRtN, Z_sRtO, Z_sAug, Z_sTg, Z_sFor, Z_asB, Z_lstOf, Z_set, Z_app2, Z_appK, Z_sPar, Z_whl, Z_no, Z_ite', Z_some, Z_pComp, Z_iComp, Z_pSl, ZpO_some, ↓Z_forL_nil, ↓Z_forL_cons, ↓Z_compP_nil, ↓Z_compP_cons, ↓Z_compI_nil, ↓Z_compI_cons, ↓Z_bYes, ↓Z_iYes, Z_forL_nil, Z_forL_cons, Z_compP_nil, Z_compP_cons, Z_compI_nil, Z_compI_cons]
      refine ⟨_, rfl, .inr ⟨w.take k, w.drop (k + 1), ?_, ?_, by rw [List.length_take, Nat.min_eq_left (by omega)]⟩⟩
      · rw [← h]; exact split_at hkf.1
      · rw [← h]; exact hkf.2
    · simp -dsimp only [↓Z_seq, ↓Z_pC, ↓Z_v0, ↓Z_vS, ↓Z_iP, ↓Z_p1, ↓Z_p2, ↓Z_i1, ↓Z_i2, ↓Z_psN, ↓Z_psC, ↓Z_isN, ↓Z_isC, ↓Z_pN, ↓Z_iN, ↓Z_bP, ↓Z_bI, ↓Z_liftB, ↓Z_andP, ↓Z_orP, ↓Z_bNotP, ↓Z_andI, ↓Z_orI, ↓Z_bNotI, ↓Z_pAnd, ↓Z_pOr, ↓Z_pNot, ↓Z_iAnd, ↓Z_iOr, ↓Z_iNot, ↓Z_pIf, ↓Z_iIf, ↓Z_pChain, ↓Z_iCall, ↓Z_iMod, ↓Z_ivSeq, ↓Z_itSeq, ↓Z_ivN, ↓Z_itN, ↓Z_sNx, ↓Z_sBk, ↓Z_sCt, ↓Z_if, ↓Z_sAsg, ↓Z_sEx, ↓Z_sRt, ↓Z_sRtN, ↓Z_sRtO, ↓Z_sAug, ↓Z_sTg, ↓Z_sFor, ↓Z_asB, ↓Z_lstOf, ↓Z_set, ↓Z_app2, ↓Z_appK, ↓Z_sPar, X_ex2, ↓Z_whl, ↓Z_no, ↓Z_ite', ↓Z_some, Z_map, ↓Z_pComp, ↓Z_iComp, ↓Z_pSl, pO_none, ↓ZpO_some, ZpO_int, Zx_nx, Zx_rt, Zx_bk, Zx_ct, Zf_nx, Zf_ct, Zf_bk, Zf_rt, Zr_rt, Zr_nx, Zr1_rt, Zr1_nx, wIf_t, wIf_f, wIf_not, sE, List.map_cons, List.map_nil, List.replicate_succ, List.replicate_zero, List.cons_append, List.nil_append, Nat.reduceSub, Nat.reduceAdd, nLen_lst, nLen_tup, nInt_int, nList_lst, nList_tup, nList_scr, nTuple_lst, nTuple_tup, nIx_lst, nIx_tup, seqOf_lst, seqOf_tup, gRev_eq, gPop_eq, nI2_i, nIc_ok, nCmp_i, nAdd_i, nEq_int, nNe_int, nEq_bl, nNe_bl, nEq_TI, nNe_TI, nEq_LI, nNe_LI, nIn_TI, nIn_LI, X_fld, max2, min2, nTupD0, nTupD1, nTupD2, nTupD3, nTupD4, nLstD0, nLstD1, nLstD2, nLstD3, nLstD4, isi_int_int, isi_int_bl, isi_int_tup, isi_int_lst, isi_int_non, isi_int_str, isi_bool_int, isi_bool_bl, isi_bool_tup, isi_bool_lst, isi_bool_non, isi_bool_str, isi_tuple_int, isi_tuple_bl, isi_tuple_tup, isi_tuple_lst, isi_tuple_non, isi_tuple_str, isi_list_int, isi_list_bl, isi_list_tup, isi_list_lst, isi_list_non, isi_list_str, isi_str_int, isi_str_bl, isi_str_tup, isi_str_lst, isi_str_non, isi_str_str, isN_non, notN_non, nonD_non, nonD_int, nonD_bl, nonD_tup, nonD_lst, nonD_str, Z_bTup, Z_bsC, Z_bsN, Z_bNm, Option.bind_some, Option.map_some, List.getElem?_cons_zero, List.getElem?_cons_succ, List.set_cons_zero, List.set_cons_succ, List.length_cons, List.length_nil, id, Bool.not_true, Bool.not_false, List.length_map, List.length_set, decide_true, decide_false, eq_self, if_true, if_false, Bool.false_eq_true, decide_eq_true_eq, not_true_eq_false, not_false_eq_true, true_and, and_true, Int.cast_ofNat_Int, Int.reduceLT, Int.reduceLE, Int.reduceEq, bindT, wipeE, backE, Z_seq, Z_pC, Z_v0, Z_vS, Z_iP, Z_p1, Z_p2, Z_i1, Z_i2, Z_psN, Z_psC, Z_isN, Z_isC, Z_pN, Z_iN, Z_bP, Z_bI, Z_liftB, Z_andP, Z_orP, Z_bNotP, Z_andI, Z_orI, Z_bNotI, Z_pAnd, Z_pOr, Z_pNot, Z_iAnd, Z_iOr, Z_iNot, Z_pIf, Z_iIf, Z_pChain, Z_iCall, Z_iMod, Z_ivSeq, Z_itSeq, Z_ivN, Z_itN, Z_sNx, Z_sBk, Z_sCt, Z_if, Z_sAsg, Z_sEx, Z_sRt, Z_sRtN, Z_sRtO, Z_sAug, Z_sTg, Z_sFor, Z_asB, Z_lstOf, Z_set, Z_app2, Z_appK, Z_sPar, Z_whl, Z_no, Z_ite', Z_some, Z_pComp, Z_iComp, Z_pSl, ZpO_some, ↓Z_forL_nil, ↓Z_forL_cons, ↓Z_compP_nil, ↓Z_compP_cons, ↓Z_compI_nil, ↓Z_compI_cons, ↓Z_bYes, ↓Z_iYes, Z_forL_nil, Z_forL_cons, Z_compP_nil, Z_compP_cons, Z_compI_nil, Z_compI_cons]
      refine ⟨fun j hj => ?_, _, rfl⟩
      rw [hts] at hj
      rcases List.mem_append.mp hj with hj | hj
      · exact hall j hj
      · rw [List.mem_singleton.mp hj]; exact h
  · rintro env ⟨hall, v, rfl⟩
    rw [show (nats (flp L w)).length = (flp L w).length by rw [List.length_map], List.take_length] at hall
    simp -dsimp only [↓Z_seq, ↓Z_pC, ↓Z_v0, ↓Z_vS, ↓Z_iP, ↓Z_p1, ↓Z_p2, ↓Z_i1, ↓Z_i2, ↓Z_psN, ↓Z_psC, ↓Z_isN, ↓Z_isC, ↓Z_pN, ↓Z_iN, ↓Z_bP, ↓Z_bI, ↓Z_liftB, ↓Z_andP, ↓Z_orP, ↓Z_bNotP, ↓Z_andI, ↓Z_orI, ↓Z_bNotI, ↓Z_pAnd, ↓Z_pOr, ↓Z_pNot, ↓Z_iAnd, ↓Z_iOr, ↓Z_iNot, ↓Z_pIf, ↓Z_iIf, ↓Z_pChain, ↓Z_iCall, ↓Z_iMod, ↓Z_ivSeq, ↓Z_itSeq, ↓Z_ivN, ↓Z_itN, ↓Z_sNx, ↓Z_sBk, ↓Z_sCt, ↓Z_if, ↓Z_sAsg, ↓Z_sEx, ↓Z_sRt, ↓Z_sRtN, ↓Z_sRtO, ↓Z_sAug, ↓Z_sTg, ↓Z_sFor, ↓Z_asB, ↓Z_lstOf, ↓Z_set, ↓Z_app2, ↓Z_appK, ↓Z_sPar, X_ex2, ↓Z_whl, ↓Z_no, ↓Z_ite', ↓Z_some, Z_map, ↓Z_pComp, ↓Z_iComp, ↓Z_pSl, pO_none, ↓ZpO_some, ZpO_int, Zx_nx, Zx_rt, Zx_bk, Zx_ct, Zf_nx, Zf_ct, Zf_bk, Zf_rt, Zr_rt, Zr_nx, Zr1_rt, Zr1_nx, wIf_t, wIf_f, wIf_not, sE, List.map_cons, List.map_nil, List.replicate_succ, List.replicate_zero, List.cons_append, List.nil_append, Nat.reduceSub, Nat.reduceAdd, nLen_lst, nLen_tup, nInt_int, nList_lst, nList_tup, nList_scr, nTuple_lst, nTuple_tup, nIx_lst, nIx_tup, seqOf_lst, seqOf_tup, gRev_eq, gPop_eq, nI2_i, nIc_ok, nCmp_i, nAdd_i, nEq_int, nNe_int, nEq_bl, nNe_bl, nEq_TI, nNe_TI, nEq_LI, nNe_LI, nIn_TI, nIn_LI, X_fld, max2, min2, nTupD0, nTupD1, nTupD2, nTupD3, nTupD4, nLstD0, nLstD1, nLstD2, nLstD3, nLstD4, isi_int_int, isi_int_bl, isi_int_tup, isi_int_lst, isi_int_non, isi_int_str, isi_bool_int, isi_bool_bl, isi_bool_tup, isi_bool_lst, isi_bool_non, isi_bool_str, isi_tuple_int, isi_tuple_bl, isi_tuple_tup, isi_tuple_lst, isi_tuple_non, isi_tuple_str, isi_list_int, isi_list_bl, isi_list_tup, isi_list_lst, isi_list_non, isi_list_str, isi_str_int, isi_str_bl, isi_str_tup, isi_str_lst, isi_str_non, isi_str_str, isN_non, notN_non, nonD_non, nonD_int, nonD_bl, nonD_tup, nonD_lst, nonD_str, Z_bTup, Z_bsC, Z_bsN, Z_bNm, Option.bind_some, Option.map_some, List.getElem?_cons_zero, List.getElem?_cons_succ, List.set_cons_zero, List.set_cons_succ, List.length_cons, List.length_nil, id, Bool.not_true, Bool.not_false, List.length_map, List.length_set, decide_true, decide_false, eq_self, if_true, if_false, Bool.false_eq_true, decide_eq_true_eq, not_true_eq_false, not_false_eq_true, true_and, and_true, Int.cast_ofNat_Int, Int.reduceLT, Int.reduceLE, Int.reduceEq, bindT, wipeE, backE, Z_seq, Z_pC, Z_v0, Z_vS, Z_iP, Z_p1, Z_p2, Z_i1, Z_i2, Z_psN, Z_psC, Z_isN, Z_isC, Z_pN, Z_iN, Z_bP, Z_bI, Z_liftB, Z_andP, Z_orP, Z_bNotP, Z_andI, Z_orI, Z_bNotI, Z_pAnd, Z_pOr, Z_pNot, Z_iAnd, Z_iOr, Z_iNot, Z_pIf, Z_iIf, Z_pChain, Z_iCall, Z_iMod, Z_ivSeq, Z_itSeq, Z_ivN, Z_itN, Z_sNx, Z_sBk, Z_sCt, Z_if, Z_sAsg, Z_sEx, Z_sRt, Z_sRtN, Z_sRtO, Z_sAug, Z_sTg, Z_sFor, Z_asB, Z_lstOf, Z_set, Z_app2, Z_appK, Z_sPar, Z_whl, Z_no, Z_ite', Z_some, Z_pComp, Z_iComp, Z_pSl, ZpO_some, ↓Z_forL_nil, ↓Z_forL_cons, ↓Z_compP_nil, ↓Z_compP_cons, ↓Z_compI_nil, ↓Z_compI_cons, ↓Z_bYes, ↓Z_iYes, Z_forL_nil, Z_forL_cons, Z_compP_nil, Z_compP_cons, Z_compI_nil, Z_compI_cons, hng]
    refine ⟨_, rfl, .inl ⟨rfl, ?_⟩⟩
    rintro ⟨u, v, rfl, hu⟩
    obtain ⟨q1, q2⟩ := fst_flp (v := v) hu
    exact hall _ q1 q2
theorem without_spec (u v : List Int) (a : Int) (hl : (u ++ a :: v).length < 1000) : C_without [TI (u ++ a :: v), .int (u.length : Nat)] = some (TI (u ++ v)) := by
  refine Z_run rfl ?_
  have e1 := sl_hi (u ++ a :: v) (n := (u.length : Nat)) (by omega)
  have e2 := sl_lo (u ++ a :: v) (n := (u.length : Nat) + 1) (by omega)
  rw [Int.toNat_natCast, List.take_left' rfl] at e1
  rw [show ((u.length : Int) + 1).toNat = u.length + 1 by omega, List.drop_append, List.drop_of_length_le (by omega), show u.length + 1 - u.length = 1 by omega, List.nil_append, List.drop_succ_cons, List.drop_zero] at e2
  rw [List.length_append, List.length_cons] at hl
  simp -dsimp only [↓Z_seq, ↓Z_pC, ↓Z_v0, ↓Z_vS, ↓Z_iP, ↓Z_p1, ↓Z_p2, ↓Z_i1, ↓Z_i2, ↓Z_psN, ↓Z_psC, ↓Z_isN, ↓Z_isC, ↓Z_pN, ↓Z_iN, ↓Z_bP, ↓Z_bI, ↓Z_liftB, ↓Z_andP, ↓Z_orP, ↓Z_bNotP, ↓Z_andI, ↓Z_orI, ↓Z_bNotI, ↓Z_pAnd, ↓Z_pOr, ↓Z_pNot, ↓Z_iAnd, ↓Z_iOr, ↓Z_iNot, ↓Z_pIf, ↓Z_iIf, ↓Z_pChain, ↓Z_iCall, ↓Z_iMod, ↓Z_ivSeq, ↓Z_itSeq, ↓Z_ivN, ↓Z_itN, ↓Z_sNx, ↓Z_sBk, ↓Z_sCt, ↓Z_if, ↓Z_sAsg, ↓Z_sEx, ↓Z_sRt, ↓Z_sRtN, ↓Z_sRtO, ↓Z_sAug, ↓Z_sTg, ↓Z_sFor, ↓Z_asB, ↓Z_lstOf, ↓Z_set, ↓Z_app2, ↓Z_appK, ↓Z_sPar, X_ex2, ↓Z_whl, ↓Z_no, ↓Z_ite', ↓Z_some, Z_map, ↓Z_pComp, ↓Z_iComp, ↓Z_pSl, pO_none, ↓ZpO_some, ZpO_int, Zx_nx, Zx_rt, Zx_bk, Zx_ct, Zf_nx, Zf_ct, Zf_bk, Zf_rt, Zr_rt, Zr_nx, Zr1_rt, Zr1_nx, wIf_t, wIf_f, wIf_not, sE, List.map_cons, List.map_nil, List.replicate_succ, List.replicate_zero, List.cons_append, List.nil_append, Nat.reduceSub, Nat.reduceAdd, nLen_lst, nLen_tup, nInt_int, nList_lst, nList_tup, nList_scr, nTuple_lst, nTuple_tup, nIx_lst, nIx_tup, seqOf_lst, seqOf_tup, gRev_eq, gPop_eq, nI2_i, nIc_ok, nCmp_i, nAdd_i, nEq_int, nNe_int, nEq_bl, nNe_bl, nEq_TI, nNe_TI, nEq_LI, nNe_LI, nIn_TI, nIn_LI, X_fld, max2, min2, nTupD0, nTupD1, nTupD2, nTupD3, nTupD4, nLstD0, nLstD1, nLstD2, nLstD3, nLstD4, isi_int_int, isi_int_bl, isi_int_tup, isi_int_lst, isi_int_non, isi_int_str, isi_bool_int, isi_bool_bl, isi_bool_tup, isi_bool_lst, isi_bool_non, isi_bool_str, isi_tuple_int, isi_tuple_bl, isi_tuple_tup, isi_tuple_lst, isi_tuple_non, isi_tuple_str, isi_list_int, isi_list_bl, isi_list_tup, isi_list_lst, isi_list_non, isi_list_str, isi_str_int, isi_str_bl, isi_str_tup, isi_str_lst, isi_str_non, isi_str_str, isN_non, notN_non, nonD_non, nonD_int, nonD_bl, nonD_tup, nonD_lst, nonD_str, Z_bTup, Z_bsC, Z_bsN, Z_bNm, Option.bind_some, Option.map_some, List.getElem?_cons_zero, List.getElem?_cons_succ, List.set_cons_zero, List.set_cons_succ, List.length_cons, List.length_nil, id, Bool.not_true, Bool.not_false, List.length_map, List.length_set, decide_true, decide_false, eq_self, if_true, if_false, Bool.false_eq_true, decide_eq_true_eq, not_true_eq_false, not_false_eq_true, true_and, and_true, Int.cast_ofNat_Int, Int.reduceLT, Int.reduceLE, Int.reduceEq, bindT, wipeE, backE, Z_seq, Z_pC, Z_v0, Z_vS, Z_iP, Z_p1, Z_p2, Z_i1, Z_i2, Z_psN, Z_psC, Z_isN, Z_isC, Z_pN, Z_iN, Z_bP, Z_bI, Z_liftB, Z_andP, Z_orP, Z_bNotP, Z_andI, Z_orI, Z_bNotI, Z_pAnd, Z_pOr, Z_pNot, Z_iAnd, Z_iOr, Z_iNot, Z_pIf, Z_iIf, Z_pChain, Z_iCall, Z_iMod, Z_ivSeq, Z_itSeq, Z_ivN, Z_itN, Z_sNx, Z_sBk, Z_sCt, Z_if, Z_sAsg, Z_sEx, Z_sRt, Z_sRtN, Z_sRtO, Z_sAug, Z_sTg, Z_sFor, Z_asB, Z_lstOf, Z_set, Z_app2, Z_appK, Z_sPar, Z_whl, Z_no, Z_ite', Z_some, Z_pComp, Z_iComp, Z_pSl, ZpO_some, ↓Z_forL_nil, ↓Z_forL_cons, ↓Z_compP_nil, ↓Z_compP_cons, ↓Z_compI_nil, ↓Z_compI_cons, ↓Z_bYes, ↓Z_iYes, Z_forL_nil, Z_forL_cons, Z_compP_nil, Z_compP_cons, Z_compI_nil, Z_compI_cons, s_without, e1, e2, cat_TI u v (by omega)]
end Com

set_option maxHeartbeats 4100000
/-! Sh9: rests, common prefixes, equivalence. -/
namespace Com
open PySem L2 T3
theorem LI_range (j : Nat) : LI ((List.range j).map fun (i : Nat) => (i : Int)) = (List.range j).map fun (i : Nat) => D.int (i : Int) := by
  show List.map D.int (List.map _ _) = _
  rw [List.map_map]
  rfl
theorem Gd.of {L : List (List Int)} {u w : List Int} (h : Gd L w) (s : ∀ x ∈ u, x ∈ w) : Gd L u := fun x hx => h x (s x hx)
theorem rest_spec {L : List (List Int)} {c : Int} {fd sd : D} {f s : List Int} (hf : seqOf fd = some (LI f)) (hs : nTuple [sd] = some (TI s)) (hw : inR L.length s) (gd : Gd L s) (gf : Gd L f) (hL : L.length < 100) (hl : s.length < 1000) :
    ∃ r, C_rest [OB c L, fd, sd] = some r ∧ ((r = .non ∧ ¬ ∃ t, Eq_ L s (f ++ t)) ∨ ∃ l t, r = TI t ∧ Eq_ L s (f ++ l) ∧ Lf L l t ∧ (∀ x ∈ l, x ∈ s) ∧ l.length ≤ s.length) := by
  refine Z_run0W rfl ?_
  simp -dsimp only [↓Z_seq, ↓Z_pC, ↓Z_v0, ↓Z_vS, ↓Z_iP, ↓Z_p1, ↓Z_p2, ↓Z_i1, ↓Z_i2, ↓Z_psN, ↓Z_psC, ↓Z_isN, ↓Z_isC, ↓Z_pN, ↓Z_iN, ↓Z_bP, ↓Z_bI, ↓Z_liftB, ↓Z_andP, ↓Z_orP, ↓Z_bNotP, ↓Z_andI, ↓Z_orI, ↓Z_bNotI, ↓Z_pAnd, ↓Z_pOr, ↓Z_pNot, ↓Z_iAnd, ↓Z_iOr, ↓Z_iNot, ↓Z_pIf, ↓Z_iIf, ↓Z_pChain, ↓Z_iCall, ↓Z_iMod, ↓Z_ivSeq, ↓Z_itSeq, ↓Z_ivN, ↓Z_itN, ↓Z_sNx, ↓Z_sBk, ↓Z_sCt, ↓Z_if, ↓Z_sAsg, ↓Z_sEx, ↓Z_sRt, ↓Z_sRtN, ↓Z_sRtO, ↓Z_sAug, ↓Z_sTg, ↓Z_sFor, ↓Z_asB, ↓Z_lstOf, ↓Z_set, ↓Z_app2, ↓Z_appK, ↓Z_sPar, X_ex2, ↓Z_whl, ↓Z_no, ↓Z_ite', ↓Z_some, Z_map, ↓Z_pComp, ↓Z_iComp, ↓Z_pSl, pO_none, ↓ZpO_some, ZpO_int, Zx_nx, Zx_rt, Zx_bk, Zx_ct, Zf_nx, Zf_ct, Zf_bk, Zf_rt, Zr_rt, Zr_nx, Zr1_rt, Zr1_nx, wIf_t, wIf_f, wIf_not, sE, List.map_cons, List.map_nil, List.replicate_succ, List.replicate_zero, List.cons_append, List.nil_append, Nat.reduceSub, Nat.reduceAdd, nLen_lst, nLen_tup, nInt_int, nList_lst, nList_tup, nList_scr, nTuple_lst, nTuple_tup, nIx_lst, nIx_tup, seqOf_lst, seqOf_tup, gRev_eq, gPop_eq, nI2_i, nIc_ok, nCmp_i, nAdd_i, nEq_int, nNe_int, nEq_bl, nNe_bl, nEq_TI, nNe_TI, nEq_LI, nNe_LI, nIn_TI, nIn_LI, X_fld, max2, min2, nTupD0, nTupD1, nTupD2, nTupD3, nTupD4, nLstD0, nLstD1, nLstD2, nLstD3, nLstD4, isi_int_int, isi_int_bl, isi_int_tup, isi_int_lst, isi_int_non, isi_int_str, isi_bool_int, isi_bool_bl, isi_bool_tup, isi_bool_lst, isi_bool_non, isi_bool_str, isi_tuple_int, isi_tuple_bl, isi_tuple_tup, isi_tuple_lst, isi_tuple_non, isi_tuple_str, isi_list_int, isi_list_bl, isi_list_tup, isi_list_lst, isi_list_non, isi_list_str, isi_str_int, isi_str_bl, isi_str_tup, isi_str_lst, isi_str_non, isi_str_str, isN_non, notN_non, nonD_non, nonD_int, nonD_bl, nonD_tup, nonD_lst, nonD_str, Z_bTup, Z_bsC, Z_bsN, Z_bNm, Option.bind_some, Option.map_some, List.getElem?_cons_zero, List.getElem?_cons_succ, List.set_cons_zero, List.set_cons_succ, List.length_cons, List.length_nil, id, Bool.not_true, Bool.not_false, List.length_map, List.length_set, decide_true, decide_false, eq_self, if_true, if_false, Bool.false_eq_true, decide_eq_true_eq, not_true_eq_false, not_false_eq_true, true_and, and_true, Int.cast_ofNat_Int, Int.reduceLT, Int.reduceLE, Int.reduceEq, bindT, wipeE, backE, Z_seq, Z_pC, Z_v0, Z_vS, Z_iP, Z_p1, Z_p2, Z_i1, Z_i2, Z_psN, Z_psC, Z_isN, Z_isC, Z_pN, Z_iN, Z_bP, Z_bI, Z_liftB, Z_andP, Z_orP, Z_bNotP, Z_andI, Z_orI, Z_bNotI, Z_pAnd, Z_pOr, Z_pNot, Z_iAnd, Z_iOr, Z_iNot, Z_pIf, Z_iIf, Z_pChain, Z_iCall, Z_iMod, Z_ivSeq, Z_itSeq, Z_ivN, Z_itN, Z_sNx, Z_sBk, Z_sCt, Z_if, Z_sAsg, Z_sEx, Z_sRt, Z_sRtN, Z_sRtO, Z_sAug, Z_sTg, Z_sFor, Z_asB, Z_lstOf, Z_set, Z_app2, Z_appK, Z_sPar, Z_whl, Z_no, Z_ite', Z_some, Z_pComp, Z_iComp, Z_pSl, ZpO_some, ↓Z_forL_nil, ↓Z_forL_cons, ↓Z_compP_nil, ↓Z_compP_cons, ↓Z_compI_nil, ↓Z_compI_cons, ↓Z_bYes, ↓Z_iYes, Z_forL_nil, Z_forL_cons, Z_compP_nil, Z_compP_cons, Z_compI_nil, Z_compI_cons, s_rest, hs, hf]
  refine Z_forA D.int f (fun i env => ∃ (l : List Int) (a b : Option D), Eq_ L s (f.take i ++ l) ∧ (∀ x ∈ l, x ∈ s) ∧ l.length ≤ s.length ∧ env = [some (OB c L), some fd, some sd, some (TI l), a, b]) _ ⟨s, _, _, by rw [List.take_zero]; exact Eq_.refl s, fun _ h => h, Nat.le_refl _, rfl⟩ ?_ ?_
  · rintro i x env hx ⟨l, a, b, he, hls, hll, rfl⟩
    obtain ⟨k, hk, hor⟩ := first_place_spec (c := c) (a := x) (isW_t l) (fun y hy => hw y (hls y hy)) hL (by omega)
    rcases hor with ⟨rfl, hno⟩ | ⟨u, v, rfl, hu, rfl⟩
    · have h1 : (-1 : Int) < 0 := by omega
      simp -dsimp only [↓Z_seq, ↓Z_pC, ↓Z_v0, ↓Z_vS, ↓Z_iP, ↓Z_p1, ↓Z_p2, ↓Z_i1, ↓Z_i2, ↓Z_psN, ↓Z_psC, ↓Z_isN, ↓Z_isC, ↓Z_pN, ↓Z_iN, ↓Z_bP, ↓Z_bI, ↓Z_liftB, ↓Z_andP, ↓Z_orP, ↓Z_bNotP, ↓Z_andI, ↓Z_orI, ↓Z_bNotI, ↓Z_pAnd, ↓Z_pOr, ↓Z_pNot, ↓Z_iAnd, ↓Z_iOr, ↓Z_iNot, ↓Z_pIf, ↓Z_iIf, ↓Z_pChain, ↓Z_iCall, ↓Z_iMod, ↓Z_ivSeq, ↓Z_itSeq, ↓Z_ivN, ↓Z_itN, ↓Z_sNx, ↓Z_sBk, ↓Z_sCt, ↓Z_if, ↓Z_sAsg, ↓Z_sEx, ↓Z_sRt, ↓Z_sRtN, ↓Z_sRtO, ↓Z_sAug, ↓Z_sTg, ↓Z_sFor, ↓Z_asB, ↓Z_lstOf, ↓Z_set, ↓Z_app2, ↓Z_appK, ↓Z_sPar, X_ex2, ↓Z_whl, ↓Z_no, ↓Z_ite', ↓Z_some, Z_map, ↓Z_pComp, ↓Z_iComp, ↓Z_pSl, pO_none, ↓ZpO_some, ZpO_int, Zx_nx, Zx_rt, Zx_bk, Zx_ct, Zf_nx, Zf_ct, Zf_bk, Zf_rt, Zr_rt, Zr_nx, Zr1_rt, Zr1_nx, wIf_t, wIf_f, wIf_not, sE, List.map_cons, List.map_nil, List.replicate_succ, List.replicate_zero, List.cons_append, List.nil_append, Nat.reduceSub, Nat.reduceAdd, nLen_lst, nLen_tup, nInt_int, nList_lst, nList_tup, nList_scr, nTuple_lst, nTuple_tup, nIx_lst, nIx_tup, seqOf_lst, seqOf_tup, gRev_eq, gPop_eq, nI2_i, nIc_ok, nCmp_i, nAdd_i, nEq_int, nNe_int, nEq_bl, nNe_bl, nEq_TI, nNe_TI, nEq_LI, nNe_LI, nIn_TI, nIn_LI, X_fld, max2, min2, nTupD0, nTupD1, nTupD2, nTupD3, nTupD4, nLstD0, nLstD1, nLstD2, nLstD3, nLstD4, isi_int_int, isi_int_bl, isi_int_tup, isi_int_lst, isi_int_non, isi_int_str, isi_bool_int, isi_bool_bl, isi_bool_tup, isi_bool_lst, isi_bool_non, isi_bool_str, isi_tuple_int, isi_tuple_bl, isi_tuple_tup, isi_tuple_lst, isi_tuple_non, isi_tuple_str, isi_list_int, isi_list_bl, isi_list_tup, isi_list_lst, isi_list_non, isi_list_str, isi_str_int, isi_str_bl, isi_str_tup, isi_str_lst, isi_str_non, isi_str_str, isN_non, notN_non, nonD_non, nonD_int, nonD_bl, nonD_tup, nonD_lst, nonD_str, Z_bTup, Z_bsC, Z_bsN, Z_bNm, Option.bind_some, Option.map_some, List.getElem?_cons_zero, List.getElem?_cons_succ, List.set_cons_zero, List.set_cons_succ, List.length_cons, List.length_nil, id, Bool.not_true, Bool.not_false, List.length_map, List.length_set, decide_true, decide_false, eq_self, if_true, if_false, Bool.false_eq_true, decide_eq_true_eq, not_true_eq_false, not_false_eq_true, true_and, and_true, Int.cast_ofNat_Int, Int.reduceLT, Int.reduceLE, Int.reduceEq, bindT, wipeE, backE, Z_seq, Z_pC, Z_v0, Z_vS, Z_iP, Z_p1, Z_p2, Z_i1, Z_i2, Z_psN, Z_psC, Z_isN, Z_isC, Z_pN, Z_iN, Z_bP, Z_bI, Z_liftB, Z_andP, Z_orP, Z_bNotP, Z_andI, Z_orI, Z_bNotI, Z_pAnd, Z_pOr, Z_pNot, Z_iAnd, Z_iOr, Z_iNot, Z_pIf, Z_iIf, Z_pChain, Z_iCall, Z_iMod, Z_ivSeq, Z_itSeq, Z_ivN, Z_itN, Z_sNx, Z_sBk, Z_sCt, Z_if, Z_sAsg, Z_sEx, Z_sRt, Z_sRtN, Z_sRtO, Z_sAug, Z_sTg, Z_sFor, Z_asB, Z_lstOf, Z_set, Z_app2, Z_appK, Z_sPar, Z_whl, Z_no, Z_ite', Z_some, Z_pComp, Z_iComp, Z_pSl, ZpO_some, ↓Z_forL_nil, ↓Z_forL_cons, ↓Z_compP_nil, ↓Z_compP_cons, ↓Z_compI_nil, ↓Z_compI_cons, ↓Z_bYes, ↓Z_iYes, Z_forL_nil, Z_forL_cons, Z_compP_nil, Z_compP_cons, Z_compI_nil, Z_compI_cons, hk, h1]
      refine .inl ?_
      rintro ⟨t, ht⟩
      have hfx : f = f.take i ++ x :: f.drop (i + 1) := by
        obtain ⟨hi, e⟩ := List.getElem?_eq_some_iff.mp hx
        rw [← e, ← List.drop_eq_getElem_cons, List.take_append_drop]
      rw [hfx] at ht
      have h2 : Eq_ L (f.take i ++ l) (f.take i ++ (x :: (f.drop (i + 1) ++ t))) := he.symm.trans (by simpa using ht)
      obtain ⟨u, v, e, h3, _⟩ := Eq_.next (gf x (List.mem_of_getElem? hx)) h2.cancel
      exact hno ⟨u, v, e, fun y hy => (h3 y hy).2⟩
    · have h1 : ¬ ((u.length : Nat) : Int) < 0 := by omega
      simp -dsimp only [↓Z_seq, ↓Z_pC, ↓Z_v0, ↓Z_vS, ↓Z_iP, ↓Z_p1, ↓Z_p2, ↓Z_i1, ↓Z_i2, ↓Z_psN, ↓Z_psC, ↓Z_isN, ↓Z_isC, ↓Z_pN, ↓Z_iN, ↓Z_bP, ↓Z_bI, ↓Z_liftB, ↓Z_andP, ↓Z_orP, ↓Z_bNotP, ↓Z_andI, ↓Z_orI, ↓Z_bNotI, ↓Z_pAnd, ↓Z_pOr, ↓Z_pNot, ↓Z_iAnd, ↓Z_iOr, ↓Z_iNot, ↓Z_pIf, ↓Z_iIf, ↓Z_pChain, ↓Z_iCall, ↓Z_iMod, ↓Z_ivSeq, ↓Z_itSeq, ↓Z_ivN, ↓Z_itN, ↓Z_sNx, ↓Z_sBk, ↓Z_sCt, ↓Z_if, ↓Z_sAsg, ↓Z_sEx, ↓Z_sRt, ↓Z_sRtN, ↓Z_sRtO, ↓Z_sAug, ↓Z_sTg, ↓Z_sFor, ↓Z_asB, ↓Z_lstOf, ↓Z_set, ↓Z_app2, ↓Z_appK, ↓Z_sPar, X_ex2, ↓Z_whl, ↓Z_no, ↓Z_ite', ↓Z_some, Z_map, ↓Z_pComp, ↓Z_iComp, ↓Z_pSl, pO_none, ↓ZpO_some, ZpO_int, Zx_nx, Zx_rt, Zx_bk, Zx_ct, Zf_nx, Zf_ct, Zf_bk, Zf_rt, Zr_rt, Zr_nx, Zr1_rt, Zr1_nx, wIf_t, wIf_f, wIf_not, sE, List.map_cons, List.map_nil, List.replicate_succ, List.replicate_zero, List.cons_append, List.nil_append, Nat.reduceSub, Nat.reduceAdd, nLen_lst, nLen_tup, nInt_int, nList_lst, nList_tup, nList_scr, nTuple_lst, nTuple_tup, nIx_lst, nIx_tup, seqOf_lst, seqOf_tup, gRev_eq, gPop_eq, nI2_i, nIc_ok, nCmp_i, nAdd_i, nEq_int, nNe_int, nEq_bl, nNe_bl, nEq_TI, nNe_TI, nEq_LI, nNe_LI, nIn_TI, nIn_LI, X_fld, max2, min2, nTupD0, nTupD1, nTupD2, nTupD3, nTupD4, nLstD0, nLstD1, nLstD2, nLstD3, nLstD4, isi_int_int, isi_int_bl, isi_int_tup, isi_int_lst, isi_int_non, isi_int_str, isi_bool_int, isi_bool_bl, isi_bool_tup, isi_bool_lst, isi_bool_non, isi_bool_str, isi_tuple_int, isi_tuple_bl, isi_tuple_tup, isi_tuple_lst, isi_tuple_non, isi_tuple_str, isi_list_int, isi_list_bl, isi_list_tup, isi_list_lst, isi_list_non, isi_list_str, isi_str_int, isi_str_bl, isi_str_tup, isi_str_lst, isi_str_non, isi_str_str, isN_non, notN_non, nonD_non, nonD_int, nonD_bl, nonD_tup, nonD_lst, nonD_str, Z_bTup, Z_bsC, Z_bsN, Z_bNm, Option.bind_some, Option.map_some, List.getElem?_cons_zero, List.getElem?_cons_succ, List.set_cons_zero, List.set_cons_succ, List.length_cons, List.length_nil, id, Bool.not_true, Bool.not_false, List.length_map, List.length_set, decide_true, decide_false, eq_self, if_true, if_false, Bool.false_eq_true, decide_eq_true_eq, not_true_eq_false, not_false_eq_true, true_and, and_true, Int.cast_ofNat_Int, Int.reduceLT, Int.reduceLE, Int.reduceEq, bindT, wipeE, backE, Z_seq, Z_pC, Z_v0, Z_vS, Z_iP, Z_p1, Z_p2, Z_i1, Z_i2, Z_psN, Z_psC, Z_isN, Z_isC, Z_pN, Z_iN, Z_bP, Z_bI, Z_liftB, Z_andP, Z_orP, Z_bNotP, Z_andI, Z_orI, Z_bNotI, Z_pAnd, Z_pOr, Z_pNot, Z_iAnd, Z_iOr, Z_iNot, Z_pIf, Z_iIf, Z_pChain, Z_iCall, Z_iMod, Z_ivSeq, Z_itSeq, Z_ivN, Z_itN, Z_sNx, Z_sBk, Z_sCt, Z_if, Z_sAsg, Z_sEx, Z_sRt, Z_sRtN, Z_sRtO, Z_sAug, Z_sTg, Z_sFor, Z_asB, Z_lstOf, Z_set, Z_app2, Z_appK, Z_sPar, Z_whl, Z_no, Z_ite', Z_some, Z_pComp, Z_iComp, Z_pSl, ZpO_some, ↓Z_forL_nil, ↓Z_forL_cons, ↓Z_compP_nil, ↓Z_compP_cons, ↓Z_compI_nil, ↓Z_compI_cons, ↓Z_bYes, ↓Z_iYes, Z_forL_nil, Z_forL_cons, Z_compP_nil, Z_compP_cons, Z_compI_nil, Z_compI_cons, hk, h1, without_spec u v x (by omega)]
      refine ⟨u ++ v, _, _, ?_, fun y hy => hls y ?_, ?_, rfl⟩
      · rw [take_snoc' hx, List.append_assoc]
        exact he.trans (Eq_.app (Eq_.refl _) (Eq_.front hu))
      · rcases List.mem_append.mp hy with h | h
        · exact List.mem_append_left _ h
        · exact List.mem_append_right _ (List.mem_cons_of_mem _ h)
      · rw [List.length_append] at hll ⊢
        rw [List.length_cons] at hll
        omega
  · rintro env ⟨l, a, b, he, hls, hll, rfl⟩
    rw [List.take_length] at he
    obtain ⟨t, ht, hlf⟩ := least_form_spec (c := c) (isW_t l) (fun y hy => hw y (hls y hy)) hL (by omega)
    simp -dsimp only [↓Z_seq, ↓Z_pC, ↓Z_v0, ↓Z_vS, ↓Z_iP, ↓Z_p1, ↓Z_p2, ↓Z_i1, ↓Z_i2, ↓Z_psN, ↓Z_psC, ↓Z_isN, ↓Z_isC, ↓Z_pN, ↓Z_iN, ↓Z_bP, ↓Z_bI, ↓Z_liftB, ↓Z_andP, ↓Z_orP, ↓Z_bNotP, ↓Z_andI, ↓Z_orI, ↓Z_bNotI, ↓Z_pAnd, ↓Z_pOr, ↓Z_pNot, ↓Z_iAnd, ↓Z_iOr, ↓Z_iNot, ↓Z_pIf, ↓Z_iIf, ↓Z_pChain, ↓Z_iCall, ↓Z_iMod, ↓Z_ivSeq, ↓Z_itSeq, ↓Z_ivN, ↓Z_itN, ↓Z_sNx, ↓Z_sBk, ↓Z_sCt, ↓Z_if, ↓Z_sAsg, ↓Z_sEx, ↓Z_sRt, ↓Z_sRtN, ↓Z_sRtO, ↓Z_sAug, ↓Z_sTg, ↓Z_sFor, ↓Z_asB, ↓Z_lstOf, ↓Z_set, ↓Z_app2, ↓Z_appK, ↓Z_sPar, X_ex2, ↓Z_whl, ↓Z_no, ↓Z_ite', ↓Z_some, Z_map, ↓Z_pComp, ↓Z_iComp, ↓Z_pSl, pO_none, ↓ZpO_some, ZpO_int, Zx_nx, Zx_rt, Zx_bk, Zx_ct, Zf_nx, Zf_ct, Zf_bk, Zf_rt, Zr_rt, Zr_nx, Zr1_rt, Zr1_nx, wIf_t, wIf_f, wIf_not, sE, List.map_cons, List.map_nil, List.replicate_succ, List.replicate_zero, List.cons_append, List.nil_append, Nat.reduceSub, Nat.reduceAdd, nLen_lst, nLen_tup, nInt_int, nList_lst, nList_tup, nList_scr, nTuple_lst, nTuple_tup, nIx_lst, nIx_tup, seqOf_lst, seqOf_tup, gRev_eq, gPop_eq, nI2_i, nIc_ok, nCmp_i, nAdd_i, nEq_int, nNe_int, nEq_bl, nNe_bl, nEq_TI, nNe_TI, nEq_LI, nNe_LI, nIn_TI, nIn_LI, X_fld, max2, min2, nTupD0, nTupD1, nTupD2, nTupD3, nTupD4, nLstD0, nLstD1, nLstD2, nLstD3, nLstD4, isi_int_int, isi_int_bl, isi_int_tup, isi_int_lst, isi_int_non, isi_int_str, isi_bool_int, isi_bool_bl, isi_bool_tup, isi_bool_lst, isi_bool_non, isi_bool_str, isi_tuple_int, isi_tuple_bl, isi_tuple_tup, isi_tuple_lst, isi_tuple_non, isi_tuple_str, isi_list_int, isi_list_bl, isi_list_tup, isi_list_lst, isi_list_non, isi_list_str, isi_str_int, isi_str_bl, isi_str_tup, isi_str_lst, isi_str_non, isi_str_str, isN_non, notN_non, nonD_non, nonD_int, nonD_bl, nonD_tup, nonD_lst, nonD_str, Z_bTup, Z_bsC, Z_bsN, Z_bNm, Option.bind_some, Option.map_some, List.getElem?_cons_zero, List.getElem?_cons_succ, List.set_cons_zero, List.set_cons_succ, List.length_cons, List.length_nil, id, Bool.not_true, Bool.not_false, List.length_map, List.length_set, decide_true, decide_false, eq_self, if_true, if_false, Bool.false_eq_true, decide_eq_true_eq, not_true_eq_false, not_false_eq_true, true_and, and_true, Int.cast_ofNat_Int, Int.reduceLT, Int.reduceLE, Int.reduceEq, bindT, wipeE, backE, Z_seq, Z_pC, Z_v0, Z_vS, Z_iP, Z_p1, Z_p2, Z_i1, Z_i2, Z_psN, Z_psC, Z_isN, Z_isC, Z_pN, Z_iN, Z_bP, Z_bI, Z_liftB, Z_andP, Z_orP, Z_bNotP, Z_andI, Z_orI, Z_bNotI, Z_pAnd, Z_pOr, Z_pNot, Z_iAnd, Z_iOr, Z_iNot, Z_pIf, Z_iIf, Z_pChain, Z_iCall, Z_iMod, Z_ivSeq, Z_itSeq, Z_ivN, Z_itN, Z_sNx, Z_sBk, Z_sCt, Z_if, Z_sAsg, Z_sEx, Z_sRt, Z_sRtN, Z_sRtO, Z_sAug, Z_sTg, Z_sFor, Z_asB, Z_lstOf, Z_set, Z_app2, Z_appK, Z_sPar, Z_whl, Z_no, Z_ite', Z_some, Z_pComp, Z_iComp, Z_pSl, ZpO_some, ↓Z_forL_nil, ↓Z_forL_cons, ↓Z_compP_nil, ↓Z_compP_cons, ↓Z_compI_nil, ↓Z_compI_cons, ↓Z_bYes, ↓Z_iYes, Z_forL_nil, Z_forL_cons, Z_compP_nil, Z_compP_cons, Z_compI_nil, Z_compI_cons, ht]
    exact .inr ⟨l, t, rfl, he, hlf, hls, hll⟩
structure CP (L : List (List Int)) (x u : List Int) (n : Nat) (f x' u' : List Int) (at_ : Nat) : Prop where
  hn : n = x'.length * (L.length + 1) + (L.length - at_)
  hat : at_ ≤ L.length
  e1 : Eq_ L x (f ++ x')
  e2 : Eq_ L u (f ++ u')
  nc : ∀ d : Nat, d < at_ → Fst L x' (d : Int) → Fst L u' (d : Int) → False
  m1 : ∀ y ∈ x', y ∈ x
  m2 : ∀ y ∈ u', y ∈ u
  m3 : ∀ y ∈ f, y ∈ x
  l1 : f.length + x'.length = x.length
  l2 : f.length + u'.length = u.length
theorem common_prefix_spec {L : List (List Int)} {c : Int} {xd ud : D} {x u : List Int} (hx : nTuple [xd] = some (TI x)) (hu : nTuple [ud] = some (TI u)) (hxr : inR L.length x) (hur : inR L.length u) (hL : L.length < 100) (hlx : x.length < 1000) (hlu : u.length < 1000) :
    ∃ f p x' u', C_common_prefix [OB c L, xd, ud] = some (TI p) ∧ Lf L f p ∧ Eq_ L x (f ++ x') ∧ Eq_ L u (f ++ u') ∧ (∀ a, Fst L x' a → Fst L u' a → False) ∧ (∀ y ∈ x', y ∈ x) ∧ (∀ y ∈ u', y ∈ u) ∧ (∀ y ∈ f, y ∈ x) ∧ f.length + x'.length = x.length ∧ f.length + u'.length = u.length := by
  suffices z : ∃ r, C_common_prefix [OB c L, xd, ud] = some r ∧ ∃ f p x' u', r = TI p ∧ Lf L f p ∧ Eq_ L x (f ++ x') ∧ Eq_ L u (f ++ u') ∧ (∀ a, Fst L x' a → Fst L u' a → False) ∧ (∀ y ∈ x', y ∈ x) ∧ (∀ y ∈ u', y ∈ u) ∧ (∀ y ∈ f, y ∈ x) ∧ f.length + x'.length = x.length ∧ f.length + u'.length = u.length by
    obtain ⟨r, e, f, p, x', u', rfl, h⟩ := z
    exact ⟨f, p, x', u', e, h⟩
  refine Z_run0W rfl ?_
  simp -dsimp only [↓Z_seq, ↓Z_pC, ↓Z_v0, ↓Z_vS, ↓Z_iP, ↓Z_p1, ↓Z_p2, ↓Z_i1, ↓Z_i2, ↓Z_psN, ↓Z_psC, ↓Z_isN, ↓Z_isC, ↓Z_pN, ↓Z_iN, ↓Z_bP, ↓Z_bI, ↓Z_liftB, ↓Z_andP, ↓Z_orP, ↓Z_bNotP, ↓Z_andI, ↓Z_orI, ↓Z_bNotI, ↓Z_pAnd, ↓Z_pOr, ↓Z_pNot, ↓Z_iAnd, ↓Z_iOr, ↓Z_iNot, ↓Z_pIf, ↓Z_iIf, ↓Z_pChain, ↓Z_iCall, ↓Z_iMod, ↓Z_ivSeq, ↓Z_itSeq, ↓Z_ivN, ↓Z_itN, ↓Z_sNx, ↓Z_sBk, ↓Z_sCt, ↓Z_if, ↓Z_sAsg, ↓Z_sEx, ↓Z_sRt, ↓Z_sRtN, ↓Z_sRtO, ↓Z_sAug, ↓Z_sTg, ↓Z_sFor, ↓Z_asB, ↓Z_lstOf, ↓Z_set, ↓Z_app2, ↓Z_appK, ↓Z_sPar, X_ex2, ↓Z_whl, ↓Z_no, ↓Z_ite', ↓Z_some, Z_map, ↓Z_pComp, ↓Z_iComp, ↓Z_pSl, pO_none, ↓ZpO_some, ZpO_int, Zx_nx, Zx_rt, Zx_bk, Zx_ct, Zf_nx, Zf_ct, Zf_bk, Zf_rt, Zr_rt, Zr_nx, Zr1_rt, Zr1_nx, wIf_t, wIf_f, wIf_not, sE, List.map_cons, List.map_nil, List.replicate_succ, List.replicate_zero, List.cons_append, List.nil_append, Nat.reduceSub, Nat.reduceAdd, nLen_lst, nLen_tup, nInt_int, nList_lst, nList_tup, nList_scr, nTuple_lst, nTuple_tup, nIx_lst, nIx_tup, seqOf_lst, seqOf_tup, gRev_eq, gPop_eq, nI2_i, nIc_ok, nCmp_i, nAdd_i, nEq_int, nNe_int, nEq_bl, nNe_bl, nEq_TI, nNe_TI, nEq_LI, nNe_LI, nIn_TI, nIn_LI, X_fld, max2, min2, nTupD0, nTupD1, nTupD2, nTupD3, nTupD4, nLstD0, nLstD1, nLstD2, nLstD3, nLstD4, isi_int_int, isi_int_bl, isi_int_tup, isi_int_lst, isi_int_non, isi_int_str, isi_bool_int, isi_bool_bl, isi_bool_tup, isi_bool_lst, isi_bool_non, isi_bool_str, isi_tuple_int, isi_tuple_bl, isi_tuple_tup, isi_tuple_lst, isi_tuple_non, isi_tuple_str, isi_list_int, isi_list_bl, isi_list_tup, isi_list_lst, isi_list_non, isi_list_str, isi_str_int, isi_str_bl, isi_str_tup, isi_str_lst, isi_str_non, isi_str_str, isN_non, notN_non, nonD_non, nonD_int, nonD_bl, nonD_tup, nonD_lst, nonD_str, Z_bTup, Z_bsC, Z_bsN, Z_bNm, Option.bind_some, Option.map_some, List.getElem?_cons_zero, List.getElem?_cons_succ, List.set_cons_zero, List.set_cons_succ, List.length_cons, List.length_nil, id, Bool.not_true, Bool.not_false, List.length_map, List.length_set, decide_true, decide_false, eq_self, if_true, if_false, Bool.false_eq_true, decide_eq_true_eq, not_true_eq_false, not_false_eq_true, true_and, and_true, Int.cast_ofNat_Int, Int.reduceLT, Int.reduceLE, Int.reduceEq, bindT, wipeE, backE, Z_seq, Z_pC, Z_v0, Z_vS, Z_iP, Z_p1, Z_p2, Z_i1, Z_i2, Z_psN, Z_psC, Z_isN, Z_isC, Z_pN, Z_iN, Z_bP, Z_bI, Z_liftB, Z_andP, Z_orP, Z_bNotP, Z_andI, Z_orI, Z_bNotI, Z_pAnd, Z_pOr, Z_pNot, Z_iAnd, Z_iOr, Z_iNot, Z_pIf, Z_iIf, Z_pChain, Z_iCall, Z_iMod, Z_ivSeq, Z_itSeq, Z_ivN, Z_itN, Z_sNx, Z_sBk, Z_sCt, Z_if, Z_sAsg, Z_sEx, Z_sRt, Z_sRtN, Z_sRtO, Z_sAug, Z_sTg, Z_sFor, Z_asB, Z_lstOf, Z_set, Z_app2, Z_appK, Z_sPar, Z_whl, Z_no, Z_ite', Z_some, Z_pComp, Z_iComp, Z_pSl, ZpO_some, ↓Z_forL_nil, ↓Z_forL_cons, ↓Z_compP_nil, ↓Z_compP_cons, ↓Z_compI_nil, ↓Z_compI_cons, ↓Z_bYes, ↓Z_iYes, Z_forL_nil, Z_forL_cons, Z_compP_nil, Z_compP_cons, Z_compI_nil, Z_compI_cons, s_common_prefix, hx, hu]
  refine Z_whL (fun n env => ∃ (f x' u' : List Int) (at_ : Nat) (a b : Option D), CP L x u n f x' u' at_ ∧
    env = [some (OB c L), some xd, some ud, some (TI x'), some (TI u'), some (.lst (LI f)), some (.int (at_ : Int)), a, b]) (x.length * (L.length + 1) + L.length) _ (by
      have : x.length * (L.length + 1) ≤ 1000 * 101 := Nat.mul_le_mul (by omega) (by omega)
      unfold fuel
      omega) ⟨[], x, u, 0, _, _, ⟨rfl, Nat.zero_le _, Eq_.refl _, Eq_.refl _, (fun d h => absurd h (Nat.not_lt_zero d)), fun _ h => h, fun _ h => h, (fun _ h => nomatch h), by simp, by simp⟩, rfl⟩ ?_
  rintro n env ⟨f, x', u', at_, a, b, hC, rfl⟩
  have rx : inR L.length x' := fun y hy => hxr y (hC.m1 y hy)
  have ru : inR L.length u' := fun y hy => hur y (hC.m2 y hy)
  have q1 := hC.l1
  have q2 := hC.l2
  by_cases hlt : (at_ : Int) < (L.length : Nat)
  · obtain ⟨k, hk, hko⟩ := first_place_spec (c := c) (a := (at_ : Int)) (isW_t x') rx hL (by omega)
    obtain ⟨j, hj, hjo⟩ := first_place_spec (c := c) (a := (at_ : Int)) (isW_t u') ru hL (by omega)
    have hno : ¬ (Fst L x' (at_ : Int) ∧ Fst L u' (at_ : Int)) → CP L x u (x'.length * (L.length + 1) + (L.length - (at_ + 1))) f x' u' (at_ + 1) := fun q =>
      ⟨rfl, by omega, hC.e1, hC.e2, fun d hd f1 f2 => by
        rcases Nat.lt_succ_iff_lt_or_eq.mp hd with h | h
        · exact hC.nc d h f1 f2
        · subst h; exact q ⟨f1, f2⟩, hC.m1, hC.m2, hC.m3, hC.l1, hC.l2⟩
    have hnn := hC.hn
    rcases hko with ⟨rfl, hn1⟩ | ⟨u1, v1, ex, hu1, rfl⟩
    · have h1 : ¬ (0 : Int) ≤ -1 := by omega
      simp -dsimp only [↓Z_seq, ↓Z_pC, ↓Z_v0, ↓Z_vS, ↓Z_iP, ↓Z_p1, ↓Z_p2, ↓Z_i1, ↓Z_i2, ↓Z_psN, ↓Z_psC, ↓Z_isN, ↓Z_isC, ↓Z_pN, ↓Z_iN, ↓Z_bP, ↓Z_bI, ↓Z_liftB, ↓Z_andP, ↓Z_orP, ↓Z_bNotP, ↓Z_andI, ↓Z_orI, ↓Z_bNotI, ↓Z_pAnd, ↓Z_pOr, ↓Z_pNot, ↓Z_iAnd, ↓Z_iOr, ↓Z_iNot, ↓Z_pIf, ↓Z_iIf, ↓Z_pChain, ↓Z_iCall, ↓Z_iMod, ↓Z_ivSeq, ↓Z_itSeq, ↓Z_ivN, ↓Z_itN, ↓Z_sNx, ↓Z_sBk, ↓Z_sCt, ↓Z_if, ↓Z_sAsg, ↓Z_sEx, ↓Z_sRt, ↓Z_sRtN, ↓Z_sRtO, ↓Z_sAug, ↓Z_sTg, ↓Z_sFor, ↓Z_asB, ↓Z_lstOf, ↓Z_set, ↓Z_app2, ↓Z_appK, ↓Z_sPar, X_ex2, ↓Z_whl, ↓Z_no, ↓Z_ite', ↓Z_some, Z_map, ↓Z_pComp, ↓Z_iComp, ↓Z_pSl, pO_none, ↓ZpO_some, ZpO_int, Zx_nx, Zx_rt, Zx_bk, Zx_ct, Zf_nx, Zf_ct, Zf_bk, Zf_rt, Zr_rt, Zr_nx, Zr1_rt, Zr1_nx, wIf_t, wIf_f, wIf_not, sE, List.map_cons, List.map_nil, List.replicate_succ, List.replicate_zero, List.cons_append, List.nil_append, Nat.reduceSub, Nat.reduceAdd, nLen_lst, nLen_tup, nInt_int, nList_lst, nList_tup, nList_scr, nTuple_lst, nTuple_tup, nIx_lst, nIx_tup, seqOf_lst, seqOf_tup, gRev_eq, gPop_eq, nI2_i, nIc_ok, nCmp_i, nAdd_i, nEq_int, nNe_int, nEq_bl, nNe_bl, nEq_TI, nNe_TI, nEq_LI, nNe_LI, nIn_TI, nIn_LI, X_fld, max2, min2, nTupD0, nTupD1, nTupD2, nTupD3, nTupD4, nLstD0, nLstD1, nLstD2, nLstD3, nLstD4, isi_int_int, isi_int_bl, isi_int_tup, isi_int_lst, isi_int_non, isi_int_str, isi_bool_int, isi_bool_bl, isi_bool_tup, isi_bool_lst, isi_bool_non, isi_bool_str, isi_tuple_int, isi_tuple_bl, isi_tuple_tup, isi_tuple_lst, isi_tuple_non, isi_tuple_str, isi_list_int, isi_list_bl, isi_list_tup, isi_list_lst, isi_list_non, isi_list_str, isi_str_int, isi_str_bl, isi_str_tup, isi_str_lst, isi_str_non, isi_str_str, isN_non, notN_non, nonD_non, nonD_int, nonD_bl, nonD_tup, nonD_lst, nonD_str, Z_bTup, Z_bsC, Z_bsN, Z_bNm, Option.bind_some, Option.map_some, List.getElem?_cons_zero, List.getElem?_cons_succ, List.set_cons_zero, List.set_cons_succ, List.length_cons, List.length_nil, id, Bool.not_true, Bool.not_false, List.length_map, List.length_set, decide_true, decide_false, eq_self, if_true, if_false, Bool.false_eq_true, decide_eq_true_eq, not_true_eq_false, not_false_eq_true, true_and, and_true, Int.cast_ofNat_Int, Int.reduceLT, Int.reduceLE, Int.reduceEq, bindT, wipeE, backE, Z_seq, Z_pC, Z_v0, Z_vS, Z_iP, Z_p1, Z_p2, Z_i1, Z_i2, Z_psN, Z_psC, Z_isN, Z_isC, Z_pN, Z_iN, Z_bP, Z_bI, Z_liftB, Z_andP, Z_orP, Z_bNotP, Z_andI, Z_orI, Z_bNotI, Z_pAnd, Z_pOr, Z_pNot, Z_iAnd, Z_iOr, Z_iNot, Z_pIf, Z_iIf, Z_pChain, Z_iCall, Z_iMod, Z_ivSeq, Z_itSeq, Z_ivN, Z_itN, Z_sNx, Z_sBk, Z_sCt, Z_if, Z_sAsg, Z_sEx, Z_sRt, Z_sRtN, Z_sRtO, Z_sAug, Z_sTg, Z_sFor, Z_asB, Z_lstOf, Z_set, Z_app2, Z_appK, Z_sPar, Z_whl, Z_no, Z_ite', Z_some, Z_pComp, Z_iComp, Z_pSl, ZpO_some, ↓Z_forL_nil, ↓Z_forL_cons, ↓Z_compP_nil, ↓Z_compP_cons, ↓Z_compI_nil, ↓Z_compI_cons, ↓Z_bYes, ↓Z_iYes, Z_forL_nil, Z_forL_cons, Z_compP_nil, Z_compP_cons, Z_compI_nil, Z_compI_cons, hlt, hk, hj, h1]
      exact ⟨_, by omega, f, x', u', at_ + 1, _, _, hno fun h => hn1 h.1, rfl⟩
    · have h1 : (0 : Int) ≤ (u1.length : Nat) := by omega
      rcases hjo with ⟨rfl, hn2⟩ | ⟨u2, v2, eu, hu2, rfl⟩
      · have h2 : ¬ (0 : Int) ≤ -1 := by omega
        simp -dsimp only [↓Z_seq, ↓Z_pC, ↓Z_v0, ↓Z_vS, ↓Z_iP, ↓Z_p1, ↓Z_p2, ↓Z_i1, ↓Z_i2, ↓Z_psN, ↓Z_psC, ↓Z_isN, ↓Z_isC, ↓Z_pN, ↓Z_iN, ↓Z_bP, ↓Z_bI, ↓Z_liftB, ↓Z_andP, ↓Z_orP, ↓Z_bNotP, ↓Z_andI, ↓Z_orI, ↓Z_bNotI, ↓Z_pAnd, ↓Z_pOr, ↓Z_pNot, ↓Z_iAnd, ↓Z_iOr, ↓Z_iNot, ↓Z_pIf, ↓Z_iIf, ↓Z_pChain, ↓Z_iCall, ↓Z_iMod, ↓Z_ivSeq, ↓Z_itSeq, ↓Z_ivN, ↓Z_itN, ↓Z_sNx, ↓Z_sBk, ↓Z_sCt, ↓Z_if, ↓Z_sAsg, ↓Z_sEx, ↓Z_sRt, ↓Z_sRtN, ↓Z_sRtO, ↓Z_sAug, ↓Z_sTg, ↓Z_sFor, ↓Z_asB, ↓Z_lstOf, ↓Z_set, ↓Z_app2, ↓Z_appK, ↓Z_sPar, X_ex2, ↓Z_whl, ↓Z_no, ↓Z_ite', ↓Z_some, Z_map, ↓Z_pComp, ↓Z_iComp, ↓Z_pSl, pO_none, ↓ZpO_some, ZpO_int, Zx_nx, Zx_rt, Zx_bk, Zx_ct, Zf_nx, Zf_ct, Zf_bk, Zf_rt, Zr_rt, Zr_nx, Zr1_rt, Zr1_nx, wIf_t, wIf_f, wIf_not, sE, List.map_cons, List.map_nil, List.replicate_succ, List.replicate_zero, List.cons_append, List.nil_append, Nat.reduceSub, Nat.reduceAdd, nLen_lst, nLen_tup, nInt_int, nList_lst, nList_tup, nList_scr, nTuple_lst, nTuple_tup, nIx_lst, nIx_tup, seqOf_lst, seqOf_tup, gRev_eq, gPop_eq, nI2_i, nIc_ok, nCmp_i, nAdd_i, nEq_int, nNe_int, nEq_bl, nNe_bl, nEq_TI, nNe_TI, nEq_LI, nNe_LI, nIn_TI, nIn_LI, X_fld, max2, min2, nTupD0, nTupD1, nTupD2, nTupD3, nTupD4, nLstD0, nLstD1, nLstD2, nLstD3, nLstD4, isi_int_int, isi_int_bl, isi_int_tup, isi_int_lst, isi_int_non, isi_int_str, isi_bool_int, isi_bool_bl, isi_bool_tup, isi_bool_lst, isi_bool_non, isi_bool_str, isi_tuple_int, isi_tuple_bl, isi_tuple_tup, isi_tuple_lst, isi_tuple_non, isi_tuple_str, isi_list_int, isi_list_bl, isi_list_tup, isi_list_lst, isi_list_non, isi_list_str, isi_str_int, isi_str_bl, isi_str_tup, isi_str_lst, isi_str_non, isi_str_str, isN_non, notN_non, nonD_non, nonD_int, nonD_bl, nonD_tup, nonD_lst, nonD_str, Z_bTup, Z_bsC, Z_bsN, Z_bNm, Option.bind_some, Option.map_some, List.getElem?_cons_zero, List.getElem?_cons_succ, List.set_cons_zero, List.set_cons_succ, List.length_cons, List.length_nil, id, Bool.not_true, Bool.not_false, List.length_map, List.length_set, decide_true, decide_false, eq_self, if_true, if_false, Bool.false_eq_true, decide_eq_true_eq, not_true_eq_false, not_false_eq_true, true_and, and_true, Int.cast_ofNat_Int, Int.reduceLT, Int.reduceLE, Int.reduceEq, bindT, wipeE, backE, Z_seq, Z_pC, Z_v0, Z_vS, Z_iP, Z_p1, Z_p2, Z_i1, Z_i2, Z_psN, Z_psC, Z_isN, Z_isC, Z_pN, Z_iN, Z_bP, Z_bI, Z_liftB, Z_andP, Z_orP, Z_bNotP, Z_andI, Z_orI, Z_bNotI, Z_pAnd, Z_pOr, Z_pNot, Z_iAnd, Z_iOr, Z_iNot, Z_pIf, Z_iIf, Z_pChain, Z_iCall, Z_iMod, Z_ivSeq, Z_itSeq, Z_ivN, Z_itN, Z_sNx, Z_sBk, Z_sCt, Z_if, Z_sAsg, Z_sEx, Z_sRt, Z_sRtN, Z_sRtO, Z_sAug, Z_sTg, Z_sFor, Z_asB, Z_lstOf, Z_set, Z_app2, Z_appK, Z_sPar, Z_whl, Z_no, Z_ite', Z_some, Z_pComp, Z_iComp, Z_pSl, ZpO_some, ↓Z_forL_nil, ↓Z_forL_cons, ↓Z_compP_nil, ↓Z_compP_cons, ↓Z_compI_nil, ↓Z_compI_cons, ↓Z_bYes, ↓Z_iYes, Z_forL_nil, Z_forL_cons, Z_compP_nil, Z_compP_cons, Z_compI_nil, Z_compI_cons, hlt, hk, hj, h1, h2]
        exact ⟨_, by omega, f, x', u', at_ + 1, _, _, hno fun h => hn2 h.2, rfl⟩
      · have h2 : (0 : Int) ≤ (u2.length : Nat) := by omega
        subst ex
        subst eu
        simp -dsimp only [↓Z_seq, ↓Z_pC, ↓Z_v0, ↓Z_vS, ↓Z_iP, ↓Z_p1, ↓Z_p2, ↓Z_i1, ↓Z_i2, ↓Z_psN, ↓Z_psC, ↓Z_isN, ↓Z_isC, ↓Z_pN, ↓Z_iN, ↓Z_bP, ↓Z_bI, ↓Z_liftB, ↓Z_andP, ↓Z_orP, ↓Z_bNotP, ↓Z_andI, ↓Z_orI, ↓Z_bNotI, ↓Z_pAnd, ↓Z_pOr, ↓Z_pNot, ↓Z_iAnd, ↓Z_iOr, ↓Z_iNot, ↓Z_pIf, ↓Z_iIf, ↓Z_pChain, ↓Z_iCall, ↓Z_iMod, ↓Z_ivSeq, ↓Z_itSeq, ↓Z_ivN, ↓Z_itN, ↓Z_sNx, ↓Z_sBk, ↓Z_sCt, ↓Z_if, ↓Z_sAsg, ↓Z_sEx, ↓Z_sRt, ↓Z_sRtN, ↓Z_sRtO, ↓Z_sAug, ↓Z_sTg, ↓Z_sFor, ↓Z_asB, ↓Z_lstOf, ↓Z_set, ↓Z_app2, ↓Z_appK, ↓Z_sPar, X_ex2, ↓Z_whl, ↓Z_no, ↓Z_ite', ↓Z_some, Z_map, ↓Z_pComp, ↓Z_iComp, ↓Z_pSl, pO_none, ↓ZpO_some, ZpO_int, Zx_nx, Zx_rt, Zx_bk, Zx_ct, Zf_nx, Zf_ct, Zf_bk, Zf_rt, Zr_rt, Zr_nx, Zr1_rt, Zr1_nx, wIf_t, wIf_f, wIf_not, sE, List.map_cons, List.map_nil, List.replicate_succ, List.replicate_zero, List.cons_append, List.nil_append, Nat.reduceSub, Nat.reduceAdd, nLen_lst, nLen_tup, nInt_int, nList_lst, nList_tup, nList_scr, nTuple_lst, nTuple_tup, nIx_lst, nIx_tup, seqOf_lst, seqOf_tup, gRev_eq, gPop_eq, nI2_i, nIc_ok, nCmp_i, nAdd_i, nEq_int, nNe_int, nEq_bl, nNe_bl, nEq_TI, nNe_TI, nEq_LI, nNe_LI, nIn_TI, nIn_LI, X_fld, max2, min2, nTupD0, nTupD1, nTupD2, nTupD3, nTupD4, nLstD0, nLstD1, nLstD2, nLstD3, nLstD4, isi_int_int, isi_int_bl, isi_int_tup, isi_int_lst, isi_int_non, isi_int_str, isi_bool_int, isi_bool_bl, isi_bool_tup, isi_bool_lst, isi_bool_non, isi_bool_str, isi_tuple_int, isi_tuple_bl, isi_tuple_tup, isi_tuple_lst, isi_tuple_non, isi_tuple_str, isi_list_int, isi_list_bl, isi_list_tup, isi_list_lst, isi_list_non, isi_list_str, isi_str_int, isi_str_bl, isi_str_tup, isi_str_lst, isi_str_non, isi_str_str, isN_non, notN_non, nonD_non, nonD_int, nonD_bl, nonD_tup, nonD_lst, nonD_str, Z_bTup, Z_bsC, Z_bsN, Z_bNm, Option.bind_some, Option.map_some, List.getElem?_cons_zero, List.getElem?_cons_succ, List.set_cons_zero, List.set_cons_succ, List.length_cons, List.length_nil, id, Bool.not_true, Bool.not_false, List.length_map, List.length_set, decide_true, decide_false, eq_self, if_true, if_false, Bool.false_eq_true, decide_eq_true_eq, not_true_eq_false, not_false_eq_true, true_and, and_true, Int.cast_ofNat_Int, Int.reduceLT, Int.reduceLE, Int.reduceEq, bindT, wipeE, backE, Z_seq, Z_pC, Z_v0, Z_vS, Z_iP, Z_p1, Z_p2, Z_i1, Z_i2, Z_psN, Z_psC, Z_isN, Z_isC, Z_pN, Z_iN, Z_bP, Z_bI, Z_liftB, Z_andP, Z_orP, Z_bNotP, Z_andI, Z_orI, Z_bNotI, Z_pAnd, Z_pOr, Z_pNot, Z_iAnd, Z_iOr, Z_iNot, Z_pIf, Z_iIf, Z_pChain, Z_iCall, Z_iMod, Z_ivSeq, Z_itSeq, Z_ivN, Z_itN, Z_sNx, Z_sBk, Z_sCt, Z_if, Z_sAsg, Z_sEx, Z_sRt, Z_sRtN, Z_sRtO, Z_sAug, Z_sTg, Z_sFor, Z_asB, Z_lstOf, Z_set, Z_app2, Z_appK, Z_sPar, Z_whl, Z_no, Z_ite', Z_some, Z_pComp, Z_iComp, Z_pSl, ZpO_some, ↓Z_forL_nil, ↓Z_forL_cons, ↓Z_compP_nil, ↓Z_compP_cons, ↓Z_compI_nil, ↓Z_compI_cons, ↓Z_bYes, ↓Z_iYes, Z_forL_nil, Z_forL_cons, Z_compP_nil, Z_compP_cons, Z_compI_nil, Z_compI_cons, hlt, hk, hj, h1, h2, gApp_eq (show (LI f).length < sizeLine from size_lt (by rw [List.length_map]; omega)), LI_app1, without_spec u1 v1 _ (show (u1 ++ (at_ : Int) :: v1).length < 1000 by omega), without_spec u2 v2 _ (show (u2 ++ (at_ : Int) :: v2).length < 1000 by omega)]
        rw [List.length_append, List.length_cons] at q1 q2
        rw [List.length_append, List.length_cons] at hnn
        refine ⟨(u1 ++ v1).length * (L.length + 1) + L.length, ?_, f ++ [(at_ : Int)], u1 ++ v1, u2 ++ v2, 0, _, _, ⟨rfl, Nat.zero_le _, ?_, ?_, (fun d h => absurd h (Nat.not_lt_zero d)), fun y hy => hC.m1 y ?_, fun y hy => hC.m2 y ?_, fun y hy => ?_, ?_, ?_⟩, rfl⟩
        · rw [List.length_append, hnn, show u1.length + (v1.length + 1) = u1.length + v1.length + 1 by omega, Nat.succ_mul]
          omega
        · rw [List.append_assoc]
          exact hC.e1.trans (Eq_.app (Eq_.refl _) (Eq_.front hu1))
        · rw [List.append_assoc]
          exact hC.e2.trans (Eq_.app (Eq_.refl _) (Eq_.front hu2))
        · rcases List.mem_append.mp hy with h | h
          · exact List.mem_append_left _ h
          · exact List.mem_append_right _ (List.mem_cons_of_mem _ h)
        · rcases List.mem_append.mp hy with h | h
          · exact List.mem_append_left _ h
          · exact List.mem_append_right _ (List.mem_cons_of_mem _ h)
        · rcases List.mem_append.mp hy with h | h
          · exact hC.m3 y h
          · rw [List.mem_singleton.mp h]
            exact hC.m1 _ (by simp)
        · rw [List.length_append, List.length_append, List.length_singleton]; omega
        · rw [List.length_append, List.length_append, List.length_singleton]; omega
  · have rf : inR L.length f := fun y hy => hxr y (hC.m3 y hy)
    obtain ⟨t, ht, hlf⟩ := least_form_spec (c := c) (isW_l f) rf hL (by omega)
    simp -dsimp only [↓Z_seq, ↓Z_pC, ↓Z_v0, ↓Z_vS, ↓Z_iP, ↓Z_p1, ↓Z_p2, ↓Z_i1, ↓Z_i2, ↓Z_psN, ↓Z_psC, ↓Z_isN, ↓Z_isC, ↓Z_pN, ↓Z_iN, ↓Z_bP, ↓Z_bI, ↓Z_liftB, ↓Z_andP, ↓Z_orP, ↓Z_bNotP, ↓Z_andI, ↓Z_orI, ↓Z_bNotI, ↓Z_pAnd, ↓Z_pOr, ↓Z_pNot, ↓Z_iAnd, ↓Z_iOr, ↓Z_iNot, ↓Z_pIf, ↓Z_iIf, ↓Z_pChain, ↓Z_iCall, ↓Z_iMod, ↓Z_ivSeq, ↓Z_itSeq, ↓Z_ivN, ↓Z_itN, ↓Z_sNx, ↓Z_sBk, ↓Z_sCt, ↓Z_if, ↓Z_sAsg, ↓Z_sEx, ↓Z_sRt, ↓Z_sRtN, ↓Z_sRtO, ↓Z_sAug, ↓Z_sTg, ↓Z_sFor, ↓Z_asB, ↓Z_lstOf, ↓Z_set, ↓Z_app2, ↓Z_appK, ↓Z_sPar, X_ex2, ↓Z_whl, ↓Z_no, ↓Z_ite', ↓Z_some, Z_map, ↓Z_pComp, ↓Z_iComp, ↓Z_pSl, pO_none, ↓ZpO_some, ZpO_int, Zx_nx, Zx_rt, Zx_bk, Zx_ct, Zf_nx, Zf_ct, Zf_bk, Zf_rt, Zr_rt, Zr_nx, Zr1_rt, Zr1_nx, wIf_t, wIf_f, wIf_not, sE, List.map_cons, List.map_nil, List.replicate_succ, List.replicate_zero, List.cons_append, List.nil_append, Nat.reduceSub, Nat.reduceAdd, nLen_lst, nLen_tup, nInt_int, nList_lst, nList_tup, nList_scr, nTuple_lst, nTuple_tup, nIx_lst, nIx_tup, seqOf_lst, seqOf_tup, gRev_eq, gPop_eq, nI2_i, nIc_ok, nCmp_i, nAdd_i, nEq_int, nNe_int, nEq_bl, nNe_bl, nEq_TI, nNe_TI, nEq_LI, nNe_LI, nIn_TI, nIn_LI, X_fld, max2, min2, nTupD0, nTupD1, nTupD2, nTupD3, nTupD4, nLstD0, nLstD1, nLstD2, nLstD3, nLstD4, isi_int_int, isi_int_bl, isi_int_tup, isi_int_lst, isi_int_non, isi_int_str, isi_bool_int, isi_bool_bl, isi_bool_tup, isi_bool_lst, isi_bool_non, isi_bool_str, isi_tuple_int, isi_tuple_bl, isi_tuple_tup, isi_tuple_lst, isi_tuple_non, isi_tuple_str, isi_list_int, isi_list_bl, isi_list_tup, isi_list_lst, isi_list_non, isi_list_str, isi_str_int, isi_str_bl, isi_str_tup, isi_str_lst, isi_str_non, isi_str_str, isN_non, notN_non, nonD_non, nonD_int, nonD_bl, nonD_tup, nonD_lst, nonD_str, Z_bTup, Z_bsC, Z_bsN, Z_bNm, Option.bind_some, Option.map_some, List.getElem?_cons_zero, List.getElem?_cons_succ, List.set_cons_zero, List.set_cons_succ, List.length_cons, List.length_nil, id, Bool.not_true, Bool.not_false, List.length_map, List.length_set, decide_true, decide_false, eq_self, if_true, if_false, Bool.false_eq_true, decide_eq_true_eq, not_true_eq_false, not_false_eq_true, true_and, and_true, Int.cast_ofNat_Int, Int.reduceLT, Int.reduceLE, Int.reduceEq, bindT, wipeE, backE, Z_seq, Z_pC, Z_v0, Z_vS, Z_iP, Z_p1, Z_p2, Z_i1, Z_i2, Z_psN, Z_psC, Z_isN, Z_isC, Z_pN, Z_iN, Z_bP, Z_bI, Z_liftB, Z_andP, Z_orP, Z_bNotP, Z_andI, Z_orI, Z_bNotI, Z_pAnd, Z_pOr, Z_pNot, Z_iAnd, Z_iOr, Z_iNot, Z_pIf, Z_iIf, Z_pChain, Z_iCall, Z_iMod, Z_ivSeq, Z_itSeq, Z_ivN, Z_itN, Z_sNx, Z_sBk, Z_sCt, Z_if, Z_sAsg, Z_sEx, Z_sRt, Z_sRtN, Z_sRtO, Z_sAug, Z_sTg, Z_sFor, Z_asB, Z_lstOf, Z_set, Z_app2, Z_appK, Z_sPar, Z_whl, Z_no, Z_ite', Z_some, Z_pComp, Z_iComp, Z_pSl, ZpO_some, ↓Z_forL_nil, ↓Z_forL_cons, ↓Z_compP_nil, ↓Z_compP_cons, ↓Z_compI_nil, ↓Z_compI_cons, ↓Z_bYes, ↓Z_iYes, Z_forL_nil, Z_forL_cons, Z_compP_nil, Z_compP_cons, Z_compI_nil, Z_compI_cons, hlt, ht]
    refine ⟨f, t, x', u', rfl, hlf, hC.e1, hC.e2, fun d f1 f2 => ?_, hC.m1, hC.m2, hC.m3, hC.l1, hC.l2⟩
    have hd := rx d f1.mem
    obtain ⟨dn, rfl⟩ : ∃ n : Nat, d = (n : Int) := ⟨d.toNat, by omega⟩
    exact hC.nc dn (by have := hC.hat; omega) f1 f2
/-- in places of the alphabet -/
def eqB (L : List (List Int)) (c : Nat) (u v : List Int) : Bool := decide (∀ p : Nat, p < c → proj L (p : Int) u = proj L (p : Int) v)
theorem eqB_iff {L : List (List Int)} {c : Nat} {u v : List Int} (hL : ∀ l ∈ L, GL (c : Int) l) (hu : inR L.length u) (hv : inR L.length v) : eqB L c u v = true ↔ Eq_ L u v := by
  unfold eqB
  rw [decide_eq_true_eq]
  constructor
  · intro h p
    by_cases hp : 0 ≤ p ∧ p < (c : Int)
    · obtain ⟨n, rfl⟩ : ∃ n : Nat, p = (n : Int) := ⟨p.toNat, by omega⟩
      exact h n (by omega)
    · have z : ∀ {w : List Int}, inR L.length w → proj L p w = [] := fun hw => proj_none fun y hy hq => by
        have := (hL _ (lt_mem (hw y hy).1 (hw y hy).2)).2.2.2 p hq
        omega
      rw [z hu, z hv]
  · exact fun h p _ => h p
theorem equivalent_spec {L : List (List Int)} {c : Nat} {a b : D} {u v : List Int} (hc : c < 100) (ha : ∀ p : Int, C_place_word [OB (c : Int) L, a, .int p] = some (TI (proj L p u))) (hb : ∀ p : Int, C_place_word [OB (c : Int) L, b, .int p] = some (TI (proj L p v))) :
    C_equivalent [OB (c : Int) L, a, b] = some (.bl (eqB L c u v)) := by
  refine Z_run rfl ?_
  simp -dsimp only [↓Z_seq, ↓Z_pC, ↓Z_v0, ↓Z_vS, ↓Z_iP, ↓Z_p1, ↓Z_p2, ↓Z_i1, ↓Z_i2, ↓Z_psN, ↓Z_psC, ↓Z_isN, ↓Z_isC, ↓Z_pN, ↓Z_iN, ↓Z_bP, ↓Z_bI, ↓Z_liftB, ↓Z_andP, ↓Z_orP, ↓Z_bNotP, ↓Z_andI, ↓Z_orI, ↓Z_bNotI, ↓Z_pAnd, ↓Z_pOr, ↓Z_pNot, ↓Z_iAnd, ↓Z_iOr, ↓Z_iNot, ↓Z_pIf, ↓Z_iIf, ↓Z_pChain, ↓Z_iCall, ↓Z_iMod, ↓Z_ivSeq, ↓Z_itSeq, ↓Z_ivN, ↓Z_itN, ↓Z_sNx, ↓Z_sBk, ↓Z_sCt, ↓Z_if, ↓Z_sAsg, ↓Z_sEx, ↓Z_sRt, ↓Z_sRtN, ↓Z_sRtO, ↓Z_sAug, ↓Z_sTg, ↓Z_sFor, ↓Z_asB, ↓Z_lstOf, ↓Z_set, ↓Z_app2, ↓Z_appK, ↓Z_sPar, X_ex2, ↓Z_whl, ↓Z_no, ↓Z_ite', ↓Z_some, Z_map, ↓Z_pComp, ↓Z_iComp, ↓Z_pSl, pO_none, ↓ZpO_some, ZpO_int, Zx_nx, Zx_rt, Zx_bk, Zx_ct, Zf_nx, Zf_ct, Zf_bk, Zf_rt, Zr_rt, Zr_nx, Zr1_rt, Zr1_nx, wIf_t, wIf_f, wIf_not, sE, List.map_cons, List.map_nil, List.replicate_succ, List.replicate_zero, List.cons_append, List.nil_append, Nat.reduceSub, Nat.reduceAdd, nLen_lst, nLen_tup, nInt_int, nList_lst, nList_tup, nList_scr, nTuple_lst, nTuple_tup, nIx_lst, nIx_tup, seqOf_lst, seqOf_tup, gRev_eq, gPop_eq, nI2_i, nIc_ok, nCmp_i, nAdd_i, nEq_int, nNe_int, nEq_bl, nNe_bl, nEq_TI, nNe_TI, nEq_LI, nNe_LI, nIn_TI, nIn_LI, X_fld, max2, min2, nTupD0, nTupD1, nTupD2, nTupD3, nTupD4, nLstD0, nLstD1, nLstD2, nLstD3, nLstD4, isi_int_int, isi_int_bl, isi_int_tup, isi_int_lst, isi_int_non, isi_int_str, isi_bool_int, isi_bool_bl, isi_bool_tup, isi_bool_lst, isi_bool_non, isi_bool_str, isi_tuple_int, isi_tuple_bl, isi_tuple_tup, isi_tuple_lst, isi_tuple_non, isi_tuple_str, isi_list_int, isi_list_bl, isi_list_tup, isi_list_lst, isi_list_non, isi_list_str, isi_str_int, isi_str_bl, isi_str_tup, isi_str_lst, isi_str_non, isi_str_str, isN_non, notN_non, nonD_non, nonD_int, nonD_bl, nonD_tup, nonD_lst, nonD_str, Z_bTup, Z_bsC, Z_bsN, Z_bNm, Option.bind_some, Option.map_some, List.getElem?_cons_zero, List.getElem?_cons_succ, List.set_cons_zero, List.set_cons_succ, List.length_cons, List.length_nil, id, Bool.not_true, Bool.not_false, List.length_map, List.length_set, decide_true, decide_false, eq_self, if_true, if_false, Bool.false_eq_true, decide_eq_true_eq, not_true_eq_false, not_false_eq_true, true_and, and_true, Int.cast_ofNat_Int, Int.reduceLT, Int.reduceLE, Int.reduceEq, bindT, wipeE, backE, Z_seq, Z_pC, Z_v0, Z_vS, Z_iP, Z_p1, Z_p2, Z_i1, Z_i2, Z_psN, Z_psC, Z_isN, Z_isC, Z_pN, Z_iN, Z_bP, Z_bI, Z_liftB, Z_andP, Z_orP, Z_bNotP, Z_andI, Z_orI, Z_bNotI, Z_pAnd, Z_pOr, Z_pNot, Z_iAnd, Z_iOr, Z_iNot, Z_pIf, Z_iIf, Z_pChain, Z_iCall, Z_iMod, Z_ivSeq, Z_itSeq, Z_ivN, Z_itN, Z_sNx, Z_sBk, Z_sCt, Z_if, Z_sAsg, Z_sEx, Z_sRt, Z_sRtN, Z_sRtO, Z_sAug, Z_sTg, Z_sFor, Z_asB, Z_lstOf, Z_set, Z_app2, Z_appK, Z_sPar, Z_whl, Z_no, Z_ite', Z_some, Z_pComp, Z_iComp, Z_pSl, ZpO_some, ↓Z_forL_nil, ↓Z_forL_cons, ↓Z_compP_nil, ↓Z_compP_cons, ↓Z_compI_nil, ↓Z_compI_cons, ↓Z_bYes, ↓Z_iYes, Z_forL_nil, Z_forL_cons, Z_compP_nil, Z_compP_cons, Z_compI_nil, Z_compI_cons, s_equivalent, rngN (show c < 1000000 by omega)]
  refine Z_forR (fun k env => (∀ p : Nat, p < k → proj L (p : Int) u = proj L (p : Int) v) ∧ ∃ o, env = [some (OB (c : Int) L), some a, some b, o]) _ ⟨fun p hp => absurd hp (Nat.not_lt_zero p), _, rfl⟩ ?_ ?_
  · rintro k env hk ⟨hall, o, rfl⟩
    simp -dsimp only [↓Z_seq, ↓Z_pC, ↓Z_v0, ↓Z_vS, ↓Z_iP, ↓Z_p1, ↓Z_p2, ↓Z_i1, ↓Z_i2, ↓Z_psN, ↓Z_psC, ↓Z_isN, ↓Z_isC, ↓Z_pN, ↓Z_iN, ↓Z_bP, ↓Z_bI, ↓Z_liftB, ↓Z_andP, ↓Z_orP, ↓Z_bNotP, ↓Z_andI, ↓Z_orI, ↓Z_bNotI, ↓Z_pAnd, ↓Z_pOr, ↓Z_pNot, ↓Z_iAnd, ↓Z_iOr, ↓Z_iNot, ↓Z_pIf, ↓Z_iIf, ↓Z_pChain, ↓Z_iCall, ↓Z_iMod, ↓Z_ivSeq, ↓Z_itSeq, ↓Z_ivN, ↓Z_itN, ↓Z_sNx, ↓Z_sBk, ↓Z_sCt, ↓Z_if, ↓Z_sAsg, ↓Z_sEx, ↓Z_sRt, ↓Z_sRtN, ↓Z_sRtO, ↓Z_sAug, ↓Z_sTg, ↓Z_sFor, ↓Z_asB, ↓Z_lstOf, ↓Z_set, ↓Z_app2, ↓Z_appK, ↓Z_sPar, X_ex2, ↓Z_whl, ↓Z_no, ↓Z_ite', ↓Z_some, Z_map, ↓Z_pComp, ↓Z_iComp, ↓Z_pSl, pO_none, ↓ZpO_some, ZpO_int, Zx_nx, Zx_rt, Zx_bk, Zx_ct, Zf_nx, Zf_ct, Zf_bk, Zf_rt, Zr_rt, Zr_nx, Zr1_rt, Zr1_nx, wIf_t, wIf_f, wIf_not, sE, List.map_cons, List.map_nil, List.replicate_succ, List.replicate_zero, List.cons_append, List.nil_append, Nat.reduceSub, Nat.reduceAdd, nLen_lst, nLen_tup, nInt_int, nList_lst, nList_tup, nList_scr, nTuple_lst, nTuple_tup, nIx_lst, nIx_tup, seqOf_lst, seqOf_tup, gRev_eq, gPop_eq, nI2_i, nIc_ok, nCmp_i, nAdd_i, nEq_int, nNe_int, nEq_bl, nNe_bl, nEq_TI, nNe_TI, nEq_LI, nNe_LI, nIn_TI, nIn_LI, X_fld, max2, min2, nTupD0, nTupD1, nTupD2, nTupD3, nTupD4, nLstD0, nLstD1, nLstD2, nLstD3, nLstD4, isi_int_int, isi_int_bl, isi_int_tup, isi_int_lst, isi_int_non, isi_int_str, isi_bool_int, isi_bool_bl, isi_bool_tup, isi_bool_lst, isi_bool_non, isi_bool_str, isi_tuple_int, isi_tuple_bl, isi_tuple_tup, isi_tuple_lst, isi_tuple_non, isi_tuple_str, isi_list_int, isi_list_bl, isi_list_tup, isi_list_lst, isi_list_non, isi_list_str, isi_str_int, isi_str_bl, isi_str_tup, isi_str_lst, isi_str_non, isi_str_str, isN_non, notN_non, nonD_non, nonD_int, nonD_bl, nonD_tup, nonD_lst, nonD_str, Z_bTup, Z_bsC, Z_bsN, Z_bNm, Option.bind_some, Option.map_some, List.getElem?_cons_zero, List.getElem?_cons_succ, List.set_cons_zero, List.set_cons_succ, List.length_cons, List.length_nil, id, Bool.not_true, Bool.not_false, List.length_map, List.length_set, decide_true, decide_false, eq_self, if_true, if_false, Bool.false_eq_true, decide_eq_true_eq, not_true_eq_false, not_false_eq_true, true_and, and_true, Int.cast_ofNat_Int, Int.reduceLT, Int.reduceLE, Int.reduceEq, bindT, wipeE, backE, Z_seq, Z_pC, Z_v0, Z_vS, Z_iP, Z_p1, Z_p2, Z_i1, Z_i2, Z_psN, Z_psC, Z_isN, Z_isC, Z_pN, Z_iN, Z_bP, Z_bI, Z_liftB, Z_andP, Z_orP, Z_bNotP, Z_andI, Z_orI, Z_bNotI, Z_pAnd, Z_pOr, Z_pNot, Z_iAnd, Z_iOr, Z_iNot, Z_pIf, Z_iIf, Z_pChain, Z_iCall, Z_iMod, Z_ivSeq, Z_itSeq, Z_ivN, Z_itN, Z_sNx, Z_sBk, Z_sCt, Z_if, Z_sAsg, Z_sEx, Z_sRt, Z_sRtN, Z_sRtO, Z_sAug, Z_sTg, Z_sFor, Z_asB, Z_lstOf, Z_set, Z_app2, Z_appK, Z_sPar, Z_whl, Z_no, Z_ite', Z_some, Z_pComp, Z_iComp, Z_pSl, ZpO_some, ↓Z_forL_nil, ↓Z_forL_cons, ↓Z_compP_nil, ↓Z_compP_cons, ↓Z_compI_nil, ↓Z_compI_cons, ↓Z_bYes, ↓Z_iYes, Z_forL_nil, Z_forL_cons, Z_compP_nil, Z_compP_cons, Z_compI_nil, Z_compI_cons, ha, hb]
    refine wIf_dec (fun h => ?_) (fun h => ?_)
    · simp -dsimp only [↓Z_seq, ↓Z_pC, ↓Z_v0, ↓Z_vS, ↓Z_iP, ↓Z_p1, ↓Z_p2, ↓Z_i1, ↓Z_i2, ↓Z_psN, ↓Z_psC, ↓Z_isN, ↓Z_isC, ↓Z_pN, ↓Z_iN, ↓Z_bP, ↓Z_bI, ↓Z_liftB, ↓Z_andP, ↓Z_orP, ↓Z_bNotP, ↓Z_andI, ↓Z_orI, ↓Z_bNotI, ↓Z_pAnd, ↓Z_pOr, ↓Z_pNot, ↓Z_iAnd, ↓Z_iOr, ↓Z_iNot, ↓Z_pIf, ↓Z_iIf, ↓Z_pChain, ↓Z_iCall, ↓Z_iMod, ↓Z_ivSeq, ↓Z_itSeq, ↓Z_ivN, ↓Z_itN, ↓Z_sNx, ↓Z_sBk, ↓Z_sCt, ↓Z_if, ↓Z_sAsg, ↓Z_sEx, ↓Z_sRt, ↓Z_sRtN, ↓Z_sRtO, ↓Z_sAug, ↓Z_sTg, ↓Z_sFor, ↓Z_asB, ↓Z_lstOf, ↓Z_set, ↓Z_app2, ↓Z_appK, ↓Z_sPar, X_ex2, ↓Z_whl, ↓Z_no, ↓Z_ite', ↓Z_some, Z_map, ↓Z_pComp, ↓Z_iComp, ↓Z_pSl, pO_none, ↓ZpO_some, ZpO_int, Zx_nx, Zx_rt, Zx_bk, Zx_ct, Zf_nx, Zf_ct, Zf_bk, Zf_rt, Zr_rt, Zr_nx, Zr1_rt, Zr1_nx, wIf_t, wIf_f, wIf_not, sE, List.map_cons, List.map_nil, List.replicate_succ, List.replicate_zero, List.cons_append, List.nil_append, Nat.reduceSub, Nat.reduceAdd, nLen_lst, nLen_tup, nInt_int, nList_lst, nList_tup, nList_scr, nTuple_lst, nTuple_tup, nIx_lst, nIx_tup, seqOf_lst, seqOf_tup, gRev_eq, gPop_eq, nI2_i, nIc_ok, nCmp_i, nAdd_i, nEq_int, nNe_int, nEq_bl, nNe_bl, nEq_TI, nNe_TI, nEq_LI, nNe_LI, nIn_TI, nIn_LI, X_fld, max2, min2, nTupD0, nTupD1, nTupD2, nTupD3, nTupD4, nLstD0, nLstD1, nLstD2, nLstD3, nLstD4, isi_int_int, isi_int_bl, isi_int_tup, isi_int_lst, isi_int_non, isi_int_str, isi_bool_int, isi_bool_bl, isi_bool_tup, isi_bool_lst, isi_bool_non, isi_bool_str, isi_tuple_int, isi_tuple_bl, isi_tuple_tup, isi_tuple_lst, isi_tuple_non, isi_tuple_str, isi_list_int, isi_list_bl, isi_list_tup, isi_list_lst, isi_list_non, isi_list_str, isi_str_int, isi_str_bl, isi_str_tup, isi_str_lst, isi_str_non, isi_str_str, isN_non, notN_non, nonD_non, nonD_int, nonD_bl, nonD_tup, nonD_lst, nonD_str, Z_bTup, Z_bsC, Z_bsN, Z_bNm, Option.bind_some, Option.map_some, List.getElem?_cons_zero, List.getElem?_cons_succ, List.set_cons_zero, List.set_cons_succ, List.length_cons, List.length_nil, id, Bool.not_true, Bool.not_false, List.length_map, List.length_set, decide_true, decide_false, eq_self, if_true, if_false, Bool.false_eq_true, decide_eq_true_eq, not_true_eq_false, not_false_eq_true, true_and, and_true, Int.cast_ofNat_Int, Int.reduceLT, Int.reduceLE, Int.reduceEq, bindT, wipeE, backE, Z_seq, Z_pC, Z_v0, Z_vS, Z_iP, Z_p1, Z_p2, Z_i1, Z_i2, Z_psN, Z_psC, Z_isN, Z_isC, Z_pN, Z_iN, Z_bP, Z_bI, Z_liftB, Z_andP, Z_orP, Z_bNotP, Z_andI, Z_orI, Z_bNotI, Z_pAnd, Z_pOr, Z_pNot, Z_iAnd, Z_iOr, Z_iNot, Z_pIf, Z_iIf, Z_pChain, Z_iCall, Z_iMod, Z_ivSeq, Z_itSeq, Z_ivN, Z_itN, Z_sNx, Z_sBk, Z_sCt, Z_if, Z_sAsg, Z_sEx, Z_sRt, Z_sRtN, Z_sRtO, Z_sAug, Z_sTg, Z_sFor, Z_asB, Z_lstOf, Z_set, Z_app2, Z_appK, Z_sPar, Z_whl, Z_no, Z_ite', Z_some, Z_pComp, Z_iComp, Z_pSl, ZpO_some, ↓Z_forL_nil, ↓Z_forL_cons, ↓Z_compP_nil, ↓Z_compP_cons, ↓Z_compI_nil, ↓Z_compI_cons, ↓Z_bYes, ↓Z_iYes, Z_forL_nil, Z_forL_cons, Z_compP_nil, Z_compP_cons, Z_compI_nil, Z_compI_cons]
      refine ⟨fun p hp => ?_, _, rfl⟩
      rcases Nat.lt_succ_iff_lt_or_eq.mp hp with hp | hp
      · exact hall p hp
      · rw [hp]; exact h
    · simp -dsimp only [↓Z_seq, ↓Z_pC, ↓Z_v0, ↓Z_vS, ↓Z_iP, ↓Z_p1, ↓Z_p2, ↓Z_i1, ↓Z_i2, ↓Z_psN, ↓Z_psC, ↓Z_isN, ↓Z_isC, ↓Z_pN, ↓Z_iN, ↓Z_bP, ↓Z_bI, ↓Z_liftB, ↓Z_andP, ↓Z_orP, ↓Z_bNotP, ↓Z_andI, ↓Z_orI, ↓Z_bNotI, ↓Z_pAnd, ↓Z_pOr, ↓Z_pNot, ↓Z_iAnd, ↓Z_iOr, ↓Z_iNot, ↓Z_pIf, ↓Z_iIf, ↓Z_pChain, ↓Z_iCall, ↓Z_iMod, ↓Z_ivSeq, ↓Z_itSeq, ↓Z_ivN, ↓Z_itN, ↓Z_sNx, ↓Z_sBk, ↓Z_sCt, ↓Z_if, ↓Z_sAsg, ↓Z_sEx, ↓Z_sRt, ↓Z_sRtN, ↓Z_sRtO, ↓Z_sAug, ↓Z_sTg, ↓Z_sFor, ↓Z_asB, ↓Z_lstOf, ↓Z_set, ↓Z_app2, ↓Z_appK, ↓Z_sPar, X_ex2, ↓Z_whl, ↓Z_no, ↓Z_ite', ↓Z_some, Z_map, ↓Z_pComp, ↓Z_iComp, ↓Z_pSl, pO_none, ↓ZpO_some, ZpO_int, Zx_nx, Zx_rt, Zx_bk, Zx_ct, Zf_nx, Zf_ct, Zf_bk, Zf_rt, Zr_rt, Zr_nx, Zr1_rt, Zr1_nx, wIf_t, wIf_f, wIf_not, sE, List.map_cons, List.map_nil, List.replicate_succ, List.replicate_zero, List.cons_append, List.nil_append, Nat.reduceSub, Nat.reduceAdd, nLen_lst, nLen_tup, nInt_int, nList_lst, nList_tup, nList_scr, nTuple_lst, nTuple_tup, nIx_lst, nIx_tup, seqOf_lst, seqOf_tup, gRev_eq, gPop_eq, nI2_i, nIc_ok, nCmp_i, nAdd_i, nEq_int, nNe_int, nEq_bl, nNe_bl, nEq_TI, nNe_TI, nEq_LI, nNe_LI, nIn_TI, nIn_LI, X_fld, max2, min2, nTupD0, nTupD1, nTupD2, nTupD3, nTupD4, nLstD0, nLstD1, nLstD2, nLstD3, nLstD4, isi_int_int, isi_int_bl, isi_int_tup, isi_int_lst, isi_int_non, isi_int_str, isi_bool_int, isi_bool_bl, isi_bool_tup, isi_bool_lst, isi_bool_non, isi_bool_str, isi_tuple_int, isi_tuple_bl, isi_tuple_tup, isi_tuple_lst, isi_tuple_non, isi_tuple_str, isi_list_int, isi_list_bl, isi_list_tup, isi_list_lst, isi_list_non, isi_list_str, isi_str_int, isi_str_bl, isi_str_tup, isi_str_lst, isi_str_non, isi_str_str, isN_non, notN_non, nonD_non, nonD_int, nonD_bl, nonD_tup, nonD_lst, nonD_str, Z_bTup, Z_bsC, Z_bsN, Z_bNm, Option.bind_some, Option.map_some, List.getElem?_cons_zero, List.getElem?_cons_succ, List.set_cons_zero, List.set_cons_succ, List.length_cons, List.length_nil, id, Bool.not_true, Bool.not_false, List.length_map, List.length_set, decide_true, decide_false, eq_self, if_true, if_false, Bool.false_eq_true, decide_eq_true_eq, not_true_eq_false, not_false_eq_true, true_and, and_true, Int.cast_ofNat_Int, Int.reduceLT, Int.reduceLE, Int.reduceEq, bindT, wipeE, backE, Z_seq, Z_pC, Z_v0, Z_vS, Z_iP, Z_p1, Z_p2, Z_i1, Z_i2, Z_psN, Z_psC, Z_isN, Z_isC, Z_pN, Z_iN, Z_bP, Z_bI, Z_liftB, Z_andP, Z_orP, Z_bNotP, Z_andI, Z_orI, Z_bNotI, Z_pAnd, Z_pOr, Z_pNot, Z_iAnd, Z_iOr, Z_iNot, Z_pIf, Z_iIf, Z_pChain, Z_iCall, Z_iMod, Z_ivSeq, Z_itSeq, Z_ivN, Z_itN, Z_sNx, Z_sBk, Z_sCt, Z_if, Z_sAsg, Z_sEx, Z_sRt, Z_sRtN, Z_sRtO, Z_sAug, Z_sTg, Z_sFor, Z_asB, Z_lstOf, Z_set, Z_app2, Z_appK, Z_sPar, Z_whl, Z_no, Z_ite', Z_some, Z_pComp, Z_iComp, Z_pSl, ZpO_some, ↓Z_forL_nil, ↓Z_forL_cons, ↓Z_compP_nil, ↓Z_compP_cons, ↓Z_compI_nil, ↓Z_compI_cons, ↓Z_bYes, ↓Z_iYes, Z_forL_nil, Z_forL_cons, Z_compP_nil, Z_compP_cons, Z_compI_nil, Z_compI_cons]
      unfold eqB
      rw [decide_eq_false fun h2 => h (h2 k hk)]
  · rintro env ⟨hall, o, rfl⟩
    simp -dsimp only [↓Z_seq, ↓Z_pC, ↓Z_v0, ↓Z_vS, ↓Z_iP, ↓Z_p1, ↓Z_p2, ↓Z_i1, ↓Z_i2, ↓Z_psN, ↓Z_psC, ↓Z_isN, ↓Z_isC, ↓Z_pN, ↓Z_iN, ↓Z_bP, ↓Z_bI, ↓Z_liftB, ↓Z_andP, ↓Z_orP, ↓Z_bNotP, ↓Z_andI, ↓Z_orI, ↓Z_bNotI, ↓Z_pAnd, ↓Z_pOr, ↓Z_pNot, ↓Z_iAnd, ↓Z_iOr, ↓Z_iNot, ↓Z_pIf, ↓Z_iIf, ↓Z_pChain, ↓Z_iCall, ↓Z_iMod, ↓Z_ivSeq, ↓Z_itSeq, ↓Z_ivN, ↓Z_itN, ↓Z_sNx, ↓Z_sBk, ↓Z_sCt, ↓Z_if, ↓Z_sAsg, ↓Z_sEx, ↓Z_sRt, ↓Z_sRtN, ↓Z_sRtO, ↓Z_sAug, ↓Z_sTg, ↓Z_sFor, ↓Z_asB, ↓Z_lstOf, ↓Z_set, ↓Z_app2, ↓Z_appK, ↓Z_sPar, X_ex2, ↓Z_whl, ↓Z_no, ↓Z_ite', ↓Z_some, Z_map, ↓Z_pComp, ↓Z_iComp, ↓Z_pSl, pO_none, ↓ZpO_some, ZpO_int, Zx_nx, Zx_rt, Zx_bk, Zx_ct, Zf_nx, Zf_ct, Zf_bk, Zf_rt, Zr_rt, Zr_nx, Zr1_rt, Zr1_nx, wIf_t, wIf_f, wIf_not, sE, List.map_cons, List.map_nil, List.replicate_succ, List.replicate_zero, List.cons_append, List.nil_append, Nat.reduceSub, Nat.reduceAdd, nLen_lst, nLen_tup, nInt_int, nList_lst, nList_tup, nList_scr, nTuple_lst, nTuple_tup, nIx_lst, nIx_tup, seqOf_lst, seqOf_tup, gRev_eq, gPop_eq, nI2_i, nIc_ok, nCmp_i, nAdd_i, nEq_int, nNe_int, nEq_bl, nNe_bl, nEq_TI, nNe_TI, nEq_LI, nNe_LI, nIn_TI, nIn_LI, X_fld, max2, min2, nTupD0, nTupD1, nTupD2, nTupD3, nTupD4, nLstD0, nLstD1, nLstD2, nLstD3, nLstD4, isi_int_int, isi_int_bl, isi_int_tup, isi_int_lst, isi_int_non, isi_int_str, isi_bool_int, isi_bool_bl, isi_bool_tup, isi_bool_lst, isi_bool_non, isi_bool_str, isi_tuple_int, isi_tuple_bl, isi_tuple_tup, isi_tuple_lst, isi_tuple_non, isi_tuple_str, isi_list_int, isi_list_bl, isi_list_tup, isi_list_lst, isi_list_non, isi_list_str, isi_str_int, isi_str_bl, isi_str_tup, isi_str_lst, isi_str_non, isi_str_str, isN_non, notN_non, nonD_non, nonD_int, nonD_bl, nonD_tup, nonD_lst, nonD_str, Z_bTup, Z_bsC, Z_bsN, Z_bNm, Option.bind_some, Option.map_some, List.getElem?_cons_zero, List.getElem?_cons_succ, List.set_cons_zero, List.set_cons_succ, List.length_cons, List.length_nil, id, Bool.not_true, Bool.not_false, List.length_map, List.length_set, decide_true, decide_false, eq_self, if_true, if_false, Bool.false_eq_true, decide_eq_true_eq, not_true_eq_false, not_false_eq_true, true_and, and_true, Int.cast_ofNat_Int, Int.reduceLT, Int.reduceLE, Int.reduceEq, bindT, wipeE, backE, Z_seq, Z_pC, Z_v0, Z_vS, Z_iP, Z_p1, Z_p2, Z_i1, Z_i2, Z_psN, Z_psC, Z_isN, Z_isC, Z_pN, Z_iN, Z_bP, Z_bI, Z_liftB, Z_andP, Z_orP, Z_bNotP, Z_andI, Z_orI, Z_bNotI, Z_pAnd, Z_pOr, Z_pNot, Z_iAnd, Z_iOr, Z_iNot, Z_pIf, Z_iIf, Z_pChain, Z_iCall, Z_iMod, Z_ivSeq, Z_itSeq, Z_ivN, Z_itN, Z_sNx, Z_sBk, Z_sCt, Z_if, Z_sAsg, Z_sEx, Z_sRt, Z_sRtN, Z_sRtO, Z_sAug, Z_sTg, Z_sFor, Z_asB, Z_lstOf, Z_set, Z_app2, Z_appK, Z_sPar, Z_whl, Z_no, Z_ite', Z_some, Z_pComp, Z_iComp, Z_pSl, ZpO_some, ↓Z_forL_nil, ↓Z_forL_cons, ↓Z_compP_nil, ↓Z_compP_cons, ↓Z_compI_nil, ↓Z_compI_cons, ↓Z_bYes, ↓Z_iYes, Z_forL_nil, Z_forL_cons, Z_compP_nil, Z_compP_cons, Z_compI_nil, Z_compI_cons]
    unfold eqB
    rw [decide_eq_true hall]
theorem cut_lst_hi (w : List Int) {n : Int} (h : 0 ≤ n) : nSl (.lst (LI w)) none (some n) = some (.lst (LI (w.take n.toNat))) := by
  have e : n = (n.toNat : Int) := by omega
  show some (D.lst (cutL (LI w) none (some n))) = _
  rw [e, cut_hi]
  show some (D.lst ((List.map D.int w).take _)) = _
  rw [← List.map_take]
  rfl
theorem cut_lst_lo (w : List Int) {n : Int} (h : 0 ≤ n) : nSl (.lst (LI w)) (some n) none = some (.lst (LI (w.drop n.toNat))) := by
  have e : n = (n.toNat : Int) := by omega
  show some (D.lst (cutL (LI w) (some n) none)) = _
  rw [e, cut_lo]
  show some (D.lst ((List.map D.int w).drop _)) = _
  rw [← List.map_drop]
  rfl
theorem cat_LI (a b : List Int) (h : a.length + b.length < 100000) : nAdd (.lst (LI a)) (.lst (LI b)) = some (.lst (LI (a ++ b))) := by
  rw [show LI (a ++ b) = LI a ++ LI b from List.map_append]
  exact nCat_lst (by rw [List.length_map, List.length_map]; exact h)
theorem law_least_spec {L : List (List Int)} {w : List Int} (hw : inR L.length w) (hL : ∀ l ∈ L, l.length < 64) (hl : w.length < 1000) : ∃ t, C__law_least [.lst (LT L), TI w] = some (TI t) ∧ Lf L w t := by
  suffices z : ∃ r, C__law_least [.lst (LT L), TI w] = some r ∧ ∃ t, r = TI t ∧ Lf L w t by
    obtain ⟨r, e, t, rfl, h⟩ := z
    exact ⟨t, e, h⟩
  have hng : nNeg (.int 1) = some (.int (-1)) := rfl
  refine Z_run0W rfl ?_
  simp -dsimp only [↓Z_seq, ↓Z_pC, ↓Z_v0, ↓Z_vS, ↓Z_iP, ↓Z_p1, ↓Z_p2, ↓Z_i1, ↓Z_i2, ↓Z_psN, ↓Z_psC, ↓Z_isN, ↓Z_isC, ↓Z_pN, ↓Z_iN, ↓Z_bP, ↓Z_bI, ↓Z_liftB, ↓Z_andP, ↓Z_orP, ↓Z_bNotP, ↓Z_andI, ↓Z_orI, ↓Z_bNotI, ↓Z_pAnd, ↓Z_pOr, ↓Z_pNot, ↓Z_iAnd, ↓Z_iOr, ↓Z_iNot, ↓Z_pIf, ↓Z_iIf, ↓Z_pChain, ↓Z_iCall, ↓Z_iMod, ↓Z_ivSeq, ↓Z_itSeq, ↓Z_ivN, ↓Z_itN, ↓Z_sNx, ↓Z_sBk, ↓Z_sCt, ↓Z_if, ↓Z_sAsg, ↓Z_sEx, ↓Z_sRt, ↓Z_sRtN, ↓Z_sRtO, ↓Z_sAug, ↓Z_sTg, ↓Z_sFor, ↓Z_asB, ↓Z_lstOf, ↓Z_set, ↓Z_app2, ↓Z_appK, ↓Z_sPar, X_ex2, ↓Z_whl, ↓Z_no, ↓Z_ite', ↓Z_some, Z_map, ↓Z_pComp, ↓Z_iComp, ↓Z_pSl, pO_none, ↓ZpO_some, ZpO_int, Zx_nx, Zx_rt, Zx_bk, Zx_ct, Zf_nx, Zf_ct, Zf_bk, Zf_rt, Zr_rt, Zr_nx, Zr1_rt, Zr1_nx, wIf_t, wIf_f, wIf_not, sE, List.map_cons, List.map_nil, List.replicate_succ, List.replicate_zero, List.cons_append, List.nil_append, Nat.reduceSub, Nat.reduceAdd, nLen_lst, nLen_tup, nInt_int, nList_lst, nList_tup, nList_scr, nTuple_lst, nTuple_tup, nIx_lst, nIx_tup, seqOf_lst, seqOf_tup, gRev_eq, gPop_eq, nI2_i, nIc_ok, nCmp_i, nAdd_i, nEq_int, nNe_int, nEq_bl, nNe_bl, nEq_TI, nNe_TI, nEq_LI, nNe_LI, nIn_TI, nIn_LI, X_fld, max2, min2, nTupD0, nTupD1, nTupD2, nTupD3, nTupD4, nLstD0, nLstD1, nLstD2, nLstD3, nLstD4, isi_int_int, isi_int_bl, isi_int_tup, isi_int_lst, isi_int_non, isi_int_str, isi_bool_int, isi_bool_bl, isi_bool_tup, isi_bool_lst, isi_bool_non, isi_bool_str, isi_tuple_int, isi_tuple_bl, isi_tuple_tup, isi_tuple_lst, isi_tuple_non, isi_tuple_str, isi_list_int, isi_list_bl, isi_list_tup, isi_list_lst, isi_list_non, isi_list_str, isi_str_int, isi_str_bl, isi_str_tup, isi_str_lst, isi_str_non, isi_str_str, isN_non, notN_non, nonD_non, nonD_int, nonD_bl, nonD_tup, nonD_lst, nonD_str, Z_bTup, Z_bsC, Z_bsN, Z_bNm, Option.bind_some, Option.map_some, List.getElem?_cons_zero, List.getElem?_cons_succ, List.set_cons_zero, List.set_cons_succ, List.length_cons, List.length_nil, id, Bool.not_true, Bool.not_false, List.length_map, List.length_set, decide_true, decide_false, eq_self, if_true, if_false, Bool.false_eq_true, decide_eq_true_eq, not_true_eq_false, not_false_eq_true, true_and, and_true, Int.cast_ofNat_Int, Int.reduceLT, Int.reduceLE, Int.reduceEq, bindT, wipeE, backE, Z_seq, Z_pC, Z_v0, Z_vS, Z_iP, Z_p1, Z_p2, Z_i1, Z_i2, Z_psN, Z_psC, Z_isN, Z_isC, Z_pN, Z_iN, Z_bP, Z_bI, Z_liftB, Z_andP, Z_orP, Z_bNotP, Z_andI, Z_orI, Z_bNotI, Z_pAnd, Z_pOr, Z_pNot, Z_iAnd, Z_iOr, Z_iNot, Z_pIf, Z_iIf, Z_pChain, Z_iCall, Z_iMod, Z_ivSeq, Z_itSeq, Z_ivN, Z_itN, Z_sNx, Z_sBk, Z_sCt, Z_if, Z_sAsg, Z_sEx, Z_sRt, Z_sRtN, Z_sRtO, Z_sAug, Z_sTg, Z_sFor, Z_asB, Z_lstOf, Z_set, Z_app2, Z_appK, Z_sPar, Z_whl, Z_no, Z_ite', Z_some, Z_pComp, Z_iComp, Z_pSl, ZpO_some, ↓Z_forL_nil, ↓Z_forL_cons, ↓Z_compP_nil, ↓Z_compP_cons, ↓Z_compI_nil, ↓Z_compI_cons, ↓Z_bYes, ↓Z_iYes, Z_forL_nil, Z_forL_cons, Z_compP_nil, Z_compP_cons, Z_compI_nil, Z_compI_cons, s__law_least, rngN (show w.length < 1000000 by omega)]
  refine Z_forR (fun i env => ∃ (r f : List Int) (a b e g k : Option D), r.length + i = w.length ∧ f.length = i ∧ (∀ x ∈ r, x ∈ w) ∧ (∀ t, Lf L r t → Lf L w (f ++ t)) ∧ env = [some (.lst (LT L)), some (TI w), some (.lst (LI r)), some (.lst (LI f)), a, b, e, g, k]) _ ⟨w, [], _, _, _, _, _, by omega, rfl, fun _ h => h, fun t h => h, rfl⟩ ?_ ?_
  · rintro i env hi ⟨r, f, a, b, e, g, k, hrl, hfl, hrw, hlf, rfl⟩
    have hrr : inR L.length r := fun x hx => hw x (hrw x hx)
    have hr0 : r ≠ [] := fun e => by rw [e] at hrl; simp at hrl; omega
    simp -dsimp only [↓Z_seq, ↓Z_pC, ↓Z_v0, ↓Z_vS, ↓Z_iP, ↓Z_p1, ↓Z_p2, ↓Z_i1, ↓Z_i2, ↓Z_psN, ↓Z_psC, ↓Z_isN, ↓Z_isC, ↓Z_pN, ↓Z_iN, ↓Z_bP, ↓Z_bI, ↓Z_liftB, ↓Z_andP, ↓Z_orP, ↓Z_bNotP, ↓Z_andI, ↓Z_orI, ↓Z_bNotI, ↓Z_pAnd, ↓Z_pOr, ↓Z_pNot, ↓Z_iAnd, ↓Z_iOr, ↓Z_iNot, ↓Z_pIf, ↓Z_iIf, ↓Z_pChain, ↓Z_iCall, ↓Z_iMod, ↓Z_ivSeq, ↓Z_itSeq, ↓Z_ivN, ↓Z_itN, ↓Z_sNx, ↓Z_sBk, ↓Z_sCt, ↓Z_if, ↓Z_sAsg, ↓Z_sEx, ↓Z_sRt, ↓Z_sRtN, ↓Z_sRtO, ↓Z_sAug, ↓Z_sTg, ↓Z_sFor, ↓Z_asB, ↓Z_lstOf, ↓Z_set, ↓Z_app2, ↓Z_appK, ↓Z_sPar, X_ex2, ↓Z_whl, ↓Z_no, ↓Z_ite', ↓Z_some, Z_map, ↓Z_pComp, ↓Z_iComp, ↓Z_pSl, pO_none, ↓ZpO_some, ZpO_int, Zx_nx, Zx_rt, Zx_bk, Zx_ct, Zf_nx, Zf_ct, Zf_bk, Zf_rt, Zr_rt, Zr_nx, Zr1_rt, Zr1_nx, wIf_t, wIf_f, wIf_not, sE, List.map_cons, List.map_nil, List.replicate_succ, List.replicate_zero, List.cons_append, List.nil_append, Nat.reduceSub, Nat.reduceAdd, nLen_lst, nLen_tup, nInt_int, nList_lst, nList_tup, nList_scr, nTuple_lst, nTuple_tup, nIx_lst, nIx_tup, seqOf_lst, seqOf_tup, gRev_eq, gPop_eq, nI2_i, nIc_ok, nCmp_i, nAdd_i, nEq_int, nNe_int, nEq_bl, nNe_bl, nEq_TI, nNe_TI, nEq_LI, nNe_LI, nIn_TI, nIn_LI, X_fld, max2, min2, nTupD0, nTupD1, nTupD2, nTupD3, nTupD4, nLstD0, nLstD1, nLstD2, nLstD3, nLstD4, isi_int_int, isi_int_bl, isi_int_tup, isi_int_lst, isi_int_non, isi_int_str, isi_bool_int, isi_bool_bl, isi_bool_tup, isi_bool_lst, isi_bool_non, isi_bool_str, isi_tuple_int, isi_tuple_bl, isi_tuple_tup, isi_tuple_lst, isi_tuple_non, isi_tuple_str, isi_list_int, isi_list_bl, isi_list_tup, isi_list_lst, isi_list_non, isi_list_str, isi_str_int, isi_str_bl, isi_str_tup, isi_str_lst, isi_str_non, isi_str_str, isN_non, notN_non, nonD_non, nonD_int, nonD_bl, nonD_tup, nonD_lst, nonD_str, Z_bTup, Z_bsC, Z_bsN, Z_bNm, Option.bind_some, Option.map_some, List.getElem?_cons_zero, List.getElem?_cons_succ, List.set_cons_zero, List.set_cons_succ, List.length_cons, List.length_nil, id, Bool.not_true, Bool.not_false, List.length_map, List.length_set, decide_true, decide_false, eq_self, if_true, if_false, Bool.false_eq_true, decide_eq_true_eq, not_true_eq_false, not_false_eq_true, true_and, and_true, Int.cast_ofNat_Int, Int.reduceLT, Int.reduceLE, Int.reduceEq, bindT, wipeE, backE, Z_seq, Z_pC, Z_v0, Z_vS, Z_iP, Z_p1, Z_p2, Z_i1, Z_i2, Z_psN, Z_psC, Z_isN, Z_isC, Z_pN, Z_iN, Z_bP, Z_bI, Z_liftB, Z_andP, Z_orP, Z_bNotP, Z_andI, Z_orI, Z_bNotI, Z_pAnd, Z_pOr, Z_pNot, Z_iAnd, Z_iOr, Z_iNot, Z_pIf, Z_iIf, Z_pChain, Z_iCall, Z_iMod, Z_ivSeq, Z_itSeq, Z_ivN, Z_itN, Z_sNx, Z_sBk, Z_sCt, Z_if, Z_sAsg, Z_sEx, Z_sRt, Z_sRtN, Z_sRtO, Z_sAug, Z_sTg, Z_sFor, Z_asB, Z_lstOf, Z_set, Z_app2, Z_appK, Z_sPar, Z_whl, Z_no, Z_ite', Z_some, Z_pComp, Z_iComp, Z_pSl, ZpO_some, ↓Z_forL_nil, ↓Z_forL_cons, ↓Z_compP_nil, ↓Z_compP_cons, ↓Z_compI_nil, ↓Z_compI_cons, ↓Z_bYes, ↓Z_iYes, Z_forL_nil, Z_forL_cons, Z_compP_nil, Z_compP_cons, Z_compI_nil, Z_compI_cons, hng, rngN (show r.length < 1000000 by omega)]
    refine Z_forR (fun j env => ∃ (best : Int) (b g k : Option D), Bst ((List.range j).filter fun k => (r.take k).all fun y => indep L y (r.getD k 0)) r best ∧ env = [some (.lst (LT L)), some (TI w), some (.lst (LI r)), some (.lst (LI f)), some (.int (i : Int)), some (.int best), b, g, k]) _ ⟨_, _, _, _, .inl ⟨rfl, rfl⟩, rfl⟩ ?_ ?_
    · rintro j env hj ⟨best, b, g, k, hB, rfl⟩
      have gj := LI_getD hj
      have hgj := getD_in hrr hj
      rw [List.range_succ, List.filter_append]
      have hf1 : List.filter (fun k => (r.take k).all fun y => indep L y (r.getD k 0)) [j] = if ((r.take j).all fun y => indep L y (r.getD j 0)) = true then [j] else [] := by
        rw [List.filter_cons]
        rfl
      rw [hf1]
      simp -dsimp only [↓Z_seq, ↓Z_pC, ↓Z_v0, ↓Z_vS, ↓Z_iP, ↓Z_p1, ↓Z_p2, ↓Z_i1, ↓Z_i2, ↓Z_psN, ↓Z_psC, ↓Z_isN, ↓Z_isC, ↓Z_pN, ↓Z_iN, ↓Z_bP, ↓Z_bI, ↓Z_liftB, ↓Z_andP, ↓Z_orP, ↓Z_bNotP, ↓Z_andI, ↓Z_orI, ↓Z_bNotI, ↓Z_pAnd, ↓Z_pOr, ↓Z_pNot, ↓Z_iAnd, ↓Z_iOr, ↓Z_iNot, ↓Z_pIf, ↓Z_iIf, ↓Z_pChain, ↓Z_iCall, ↓Z_iMod, ↓Z_ivSeq, ↓Z_itSeq, ↓Z_ivN, ↓Z_itN, ↓Z_sNx, ↓Z_sBk, ↓Z_sCt, ↓Z_if, ↓Z_sAsg, ↓Z_sEx, ↓Z_sRt, ↓Z_sRtN, ↓Z_sRtO, ↓Z_sAug, ↓Z_sTg, ↓Z_sFor, ↓Z_asB, ↓Z_lstOf, ↓Z_set, ↓Z_app2, ↓Z_appK, ↓Z_sPar, X_ex2, ↓Z_whl, ↓Z_no, ↓Z_ite', ↓Z_some, Z_map, ↓Z_pComp, ↓Z_iComp, ↓Z_pSl, pO_none, ↓ZpO_some, ZpO_int, Zx_nx, Zx_rt, Zx_bk, Zx_ct, Zf_nx, Zf_ct, Zf_bk, Zf_rt, Zr_rt, Zr_nx, Zr1_rt, Zr1_nx, wIf_t, wIf_f, wIf_not, sE, List.map_cons, List.map_nil, List.replicate_succ, List.replicate_zero, List.cons_append, List.nil_append, Nat.reduceSub, Nat.reduceAdd, nLen_lst, nLen_tup, nInt_int, nList_lst, nList_tup, nList_scr, nTuple_lst, nTuple_tup, nIx_lst, nIx_tup, seqOf_lst, seqOf_tup, gRev_eq, gPop_eq, nI2_i, nIc_ok, nCmp_i, nAdd_i, nEq_int, nNe_int, nEq_bl, nNe_bl, nEq_TI, nNe_TI, nEq_LI, nNe_LI, nIn_TI, nIn_LI, X_fld, max2, min2, nTupD0, nTupD1, nTupD2, nTupD3, nTupD4, nLstD0, nLstD1, nLstD2, nLstD3, nLstD4, isi_int_int, isi_int_bl, isi_int_tup, isi_int_lst, isi_int_non, isi_int_str, isi_bool_int, isi_bool_bl, isi_bool_tup, isi_bool_lst, isi_bool_non, isi_bool_str, isi_tuple_int, isi_tuple_bl, isi_tuple_tup, isi_tuple_lst, isi_tuple_non, isi_tuple_str, isi_list_int, isi_list_bl, isi_list_tup, isi_list_lst, isi_list_non, isi_list_str, isi_str_int, isi_str_bl, isi_str_tup, isi_str_lst, isi_str_non, isi_str_str, isN_non, notN_non, nonD_non, nonD_int, nonD_bl, nonD_tup, nonD_lst, nonD_str, Z_bTup, Z_bsC, Z_bsN, Z_bNm, Option.bind_some, Option.map_some, List.getElem?_cons_zero, List.getElem?_cons_succ, List.set_cons_zero, List.set_cons_succ, List.length_cons, List.length_nil, id, Bool.not_true, Bool.not_false, List.length_map, List.length_set, decide_true, decide_false, eq_self, if_true, if_false, Bool.false_eq_true, decide_eq_true_eq, not_true_eq_false, not_false_eq_true, true_and, and_true, Int.cast_ofNat_Int, Int.reduceLT, Int.reduceLE, Int.reduceEq, bindT, wipeE, backE, Z_seq, Z_pC, Z_v0, Z_vS, Z_iP, Z_p1, Z_p2, Z_i1, Z_i2, Z_psN, Z_psC, Z_isN, Z_isC, Z_pN, Z_iN, Z_bP, Z_bI, Z_liftB, Z_andP, Z_orP, Z_bNotP, Z_andI, Z_orI, Z_bNotI, Z_pAnd, Z_pOr, Z_pNot, Z_iAnd, Z_iOr, Z_iNot, Z_pIf, Z_iIf, Z_pChain, Z_iCall, Z_iMod, Z_ivSeq, Z_itSeq, Z_ivN, Z_itN, Z_sNx, Z_sBk, Z_sCt, Z_if, Z_sAsg, Z_sEx, Z_sRt, Z_sRtN, Z_sRtO, Z_sAug, Z_sTg, Z_sFor, Z_asB, Z_lstOf, Z_set, Z_app2, Z_appK, Z_sPar, Z_whl, Z_no, Z_ite', Z_some, Z_pComp, Z_iComp, Z_pSl, ZpO_some, ↓Z_forL_nil, ↓Z_forL_cons, ↓Z_compP_nil, ↓Z_compP_cons, ↓Z_compI_nil, ↓Z_compI_cons, ↓Z_bYes, ↓Z_iYes, Z_forL_nil, Z_forL_cons, Z_compP_nil, Z_compP_cons, Z_compI_nil, Z_compI_cons, rngN (show j < 1000000 by omega)]
      refine ⟨size_lt (by rw [List.length_range]; omega), ?_⟩
      rw [LI_range]
      refine Z_cmp (fun (i : Nat) => D.int (i : Int)) (fun i => !indep L (r.getD i 0) (r.getD j 0)) (fun (i : Nat) => D.int (i : Int)) (fun y hy => ⟨?_, fun _ => ?_⟩) ?_
      · have hy := List.mem_range.mp hy
        have gy := LI_getD (w := r) (j := y) (by omega)
        have hgy := getD_in hrr (j := y) (by omega)
        have hfr := free_spec hgy hgj (by have := hL _ (lt_mem hgy.1 hgy.2); omega)
        simp -dsimp only [↓Z_seq, ↓Z_pC, ↓Z_v0, ↓Z_vS, ↓Z_iP, ↓Z_p1, ↓Z_p2, ↓Z_i1, ↓Z_i2, ↓Z_psN, ↓Z_psC, ↓Z_isN, ↓Z_isC, ↓Z_pN, ↓Z_iN, ↓Z_bP, ↓Z_bI, ↓Z_liftB, ↓Z_andP, ↓Z_orP, ↓Z_bNotP, ↓Z_andI, ↓Z_orI, ↓Z_bNotI, ↓Z_pAnd, ↓Z_pOr, ↓Z_pNot, ↓Z_iAnd, ↓Z_iOr, ↓Z_iNot, ↓Z_pIf, ↓Z_iIf, ↓Z_pChain, ↓Z_iCall, ↓Z_iMod, ↓Z_ivSeq, ↓Z_itSeq, ↓Z_ivN, ↓Z_itN, ↓Z_sNx, ↓Z_sBk, ↓Z_sCt, ↓Z_if, ↓Z_sAsg, ↓Z_sEx, ↓Z_sRt, ↓Z_sRtN, ↓Z_sRtO, ↓Z_sAug, ↓Z_sTg, ↓Z_sFor, ↓Z_asB, ↓Z_lstOf, ↓Z_set, ↓Z_app2, ↓Z_appK, ↓Z_sPar, X_ex2, ↓Z_whl, ↓Z_no, ↓Z_ite', ↓Z_some, Z_map, ↓Z_pComp, ↓Z_iComp, ↓Z_pSl, pO_none, ↓ZpO_some, ZpO_int, Zx_nx, Zx_rt, Zx_bk, Zx_ct, Zf_nx, Zf_ct, Zf_bk, Zf_rt, Zr_rt, Zr_nx, Zr1_rt, Zr1_nx, wIf_t, wIf_f, wIf_not, sE, List.map_cons, List.map_nil, List.replicate_succ, List.replicate_zero, List.cons_append, List.nil_append, Nat.reduceSub, Nat.reduceAdd, nLen_lst, nLen_tup, nInt_int, nList_lst, nList_tup, nList_scr, nTuple_lst, nTuple_tup, nIx_lst, nIx_tup, seqOf_lst, seqOf_tup, gRev_eq, gPop_eq, nI2_i, nIc_ok, nCmp_i, nAdd_i, nEq_int, nNe_int, nEq_bl, nNe_bl, nEq_TI, nNe_TI, nEq_LI, nNe_LI, nIn_TI, nIn_LI, X_fld, max2, min2, nTupD0, nTupD1, nTupD2, nTupD3, nTupD4, nLstD0, nLstD1, nLstD2, nLstD3, nLstD4, isi_int_int, isi_int_bl, isi_int_tup, isi_int_lst, isi_int_non, isi_int_str, isi_bool_int, isi_bool_bl, isi_bool_tup, isi_bool_lst, isi_bool_non, isi_bool_str, isi_tuple_int, isi_tuple_bl, isi_tuple_tup, isi_tuple_lst, isi_tuple_non, isi_tuple_str, isi_list_int, isi_list_bl, isi_list_tup, isi_list_lst, isi_list_non, isi_list_str, isi_str_int, isi_str_bl, isi_str_tup, isi_str_lst, isi_str_non, isi_str_str, isN_non, notN_non, nonD_non, nonD_int, nonD_bl, nonD_tup, nonD_lst, nonD_str, Z_bTup, Z_bsC, Z_bsN, Z_bNm, Option.bind_some, Option.map_some, List.getElem?_cons_zero, List.getElem?_cons_succ, List.set_cons_zero, List.set_cons_succ, List.length_cons, List.length_nil, id, Bool.not_true, Bool.not_false, List.length_map, List.length_set, decide_true, decide_false, eq_self, if_true, if_false, Bool.false_eq_true, decide_eq_true_eq, not_true_eq_false, not_false_eq_true, true_and, and_true, Int.cast_ofNat_Int, Int.reduceLT, Int.reduceLE, Int.reduceEq, bindT, wipeE, backE, Z_seq, Z_pC, Z_v0, Z_vS, Z_iP, Z_p1, Z_p2, Z_i1, Z_i2, Z_psN, Z_psC, Z_isN, Z_isC, Z_pN, Z_iN, Z_bP, Z_bI, Z_liftB, Z_andP, Z_orP, Z_bNotP, Z_andI, Z_orI, Z_bNotI, Z_pAnd, Z_pOr, Z_pNot, Z_iAnd, Z_iOr, Z_iNot, Z_pIf, Z_iIf, Z_pChain, Z_iCall, Z_iMod, Z_ivSeq, Z_itSeq, Z_ivN, Z_itN, Z_sNx, Z_sBk, Z_sCt, Z_if, Z_sAsg, Z_sEx, Z_sRt, Z_sRtN, Z_sRtO, Z_sAug, Z_sTg, Z_sFor, Z_asB, Z_lstOf, Z_set, Z_app2, Z_appK, Z_sPar, Z_whl, Z_no, Z_ite', Z_some, Z_pComp, Z_iComp, Z_pSl, ZpO_some, ↓Z_forL_nil, ↓Z_forL_cons, ↓Z_compP_nil, ↓Z_compP_cons, ↓Z_compI_nil, ↓Z_compI_cons, ↓Z_bYes, ↓Z_iYes, Z_forL_nil, Z_forL_cons, Z_compP_nil, Z_compP_cons, Z_compI_nil, Z_compI_cons, gy, gj, hfr]
      · simp -dsimp only [↓Z_seq, ↓Z_pC, ↓Z_v0, ↓Z_vS, ↓Z_iP, ↓Z_p1, ↓Z_p2, ↓Z_i1, ↓Z_i2, ↓Z_psN, ↓Z_psC, ↓Z_isN, ↓Z_isC, ↓Z_pN, ↓Z_iN, ↓Z_bP, ↓Z_bI, ↓Z_liftB, ↓Z_andP, ↓Z_orP, ↓Z_bNotP, ↓Z_andI, ↓Z_orI, ↓Z_bNotI, ↓Z_pAnd, ↓Z_pOr, ↓Z_pNot, ↓Z_iAnd, ↓Z_iOr, ↓Z_iNot, ↓Z_pIf, ↓Z_iIf, ↓Z_pChain, ↓Z_iCall, ↓Z_iMod, ↓Z_ivSeq, ↓Z_itSeq, ↓Z_ivN, ↓Z_itN, ↓Z_sNx, ↓Z_sBk, ↓Z_sCt, ↓Z_if, ↓Z_sAsg, ↓Z_sEx, ↓Z_sRt, ↓Z_sRtN, ↓Z_sRtO, ↓Z_sAug, ↓Z_sTg, ↓Z_sFor, ↓Z_asB, ↓Z_lstOf, ↓Z_set, ↓Z_app2, ↓Z_appK, ↓Z_sPar, X_ex2, ↓Z_whl, ↓Z_no, ↓Z_ite', ↓Z_some, Z_map, ↓Z_pComp, ↓Z_iComp, ↓Z_pSl, pO_none, ↓ZpO_some, ZpO_int, Zx_nx, Zx_rt, Zx_bk, Zx_ct, Zf_nx, Zf_ct, Zf_bk, Zf_rt, Zr_rt, Zr_nx, Zr1_rt, Zr1_nx, wIf_t, wIf_f, wIf_not, sE, List.map_cons, List.map_nil, List.replicate_succ, List.replicate_zero, List.cons_append, List.nil_append, Nat.reduceSub, Nat.reduceAdd, nLen_lst, nLen_tup, nInt_int, nList_lst, nList_tup, nList_scr, nTuple_lst, nTuple_tup, nIx_lst, nIx_tup, seqOf_lst, seqOf_tup, gRev_eq, gPop_eq, nI2_i, nIc_ok, nCmp_i, nAdd_i, nEq_int, nNe_int, nEq_bl, nNe_bl, nEq_TI, nNe_TI, nEq_LI, nNe_LI, nIn_TI, nIn_LI, X_fld, max2, min2, nTupD0, nTupD1, nTupD2, nTupD3, nTupD4, nLstD0, nLstD1, nLstD2, nLstD3, nLstD4, isi_int_int, isi_int_bl, isi_int_tup, isi_int_lst, isi_int_non, isi_int_str, isi_bool_int, isi_bool_bl, isi_bool_tup, isi_bool_lst, isi_bool_non, isi_bool_str, isi_tuple_int, isi_tuple_bl, isi_tuple_tup, isi_tuple_lst, isi_tuple_non, isi_tuple_str, isi_list_int, isi_list_bl, isi_list_tup, isi_list_lst, isi_list_non, isi_list_str, isi_str_int, isi_str_bl, isi_str_tup, isi_str_lst, isi_str_non, isi_str_str, isN_non, notN_non, nonD_non, nonD_int, nonD_bl, nonD_tup, nonD_lst, nonD_str, Z_bTup, Z_bsC, Z_bsN, Z_bNm, Option.bind_some, Option.map_some, List.getElem?_cons_zero, List.getElem?_cons_succ, List.set_cons_zero, List.set_cons_succ, List.length_cons, List.length_nil, id, Bool.not_true, Bool.not_false, List.length_map, List.length_set, decide_true, decide_false, eq_self, if_true, if_false, Bool.false_eq_true, decide_eq_true_eq, not_true_eq_false, not_false_eq_true, true_and, and_true, Int.cast_ofNat_Int, Int.reduceLT, Int.reduceLE, Int.reduceEq, bindT, wipeE, backE, Z_seq, Z_pC, Z_v0, Z_vS, Z_iP, Z_p1, Z_p2, Z_i1, Z_i2, Z_psN, Z_psC, Z_isN, Z_isC, Z_pN, Z_iN, Z_bP, Z_bI, Z_liftB, Z_andP, Z_orP, Z_bNotP, Z_andI, Z_orI, Z_bNotI, Z_pAnd, Z_pOr, Z_pNot, Z_iAnd, Z_iOr, Z_iNot, Z_pIf, Z_iIf, Z_pChain, Z_iCall, Z_iMod, Z_ivSeq, Z_itSeq, Z_ivN, Z_itN, Z_sNx, Z_sBk, Z_sCt, Z_if, Z_sAsg, Z_sEx, Z_sRt, Z_sRtN, Z_sRtO, Z_sAug, Z_sTg, Z_sFor, Z_asB, Z_lstOf, Z_set, Z_app2, Z_appK, Z_sPar, Z_whl, Z_no, Z_ite', Z_some, Z_pComp, Z_iComp, Z_pSl, ZpO_some, ↓Z_forL_nil, ↓Z_forL_cons, ↓Z_compP_nil, ↓Z_compP_cons, ↓Z_compI_nil, ↓Z_compI_cons, ↓Z_bYes, ↓Z_iYes, Z_forL_nil, Z_forL_cons, Z_compP_nil, Z_compP_cons, Z_compI_nil, Z_compI_cons]
      · have hcnt : decide ((((List.range j).filter fun i => !indep L (r.getD i 0) (r.getD j 0)).length : Nat) = (0 : Int)) = (r.take j).all fun y => indep L y (r.getD j 0) := by
          apply Bool.eq_iff_iff.mpr
          rw [decide_eq_true_iff, List.all_eq_true]
          constructor
          · intro h y hy
            have h0 : (List.range j).filter (fun i => !indep L (r.getD i 0) (r.getD j 0)) = [] := List.length_eq_zero_iff.mp (by omega)
            obtain ⟨m, hm⟩ := List.getElem?_of_mem hy
            have hmj : m < j := by
              have := (List.getElem?_eq_some_iff.mp hm).1
              rw [List.length_take] at this
              omega
            have := List.filter_eq_nil_iff.mp h0 m (List.mem_range.mpr hmj)
            rw [List.getElem?_take, if_pos hmj] at hm
            rw [List.getD_eq_getElem?_getD, hm] at this
            simpa using this
          · intro h
            have : (List.range j).filter (fun i => !indep L (r.getD i 0) (r.getD j 0)) = [] := List.filter_eq_nil_iff.mpr fun m hm => by
              have hm := List.mem_range.mp hm
              have : r.getD m 0 ∈ r.take j := by
                rw [List.getD_eq_getElem?_getD, List.getElem?_eq_getElem (by omega)]
                refine List.mem_of_getElem? (i := m) ?_
                rw [List.getElem?_take, if_pos hm]
                exact List.getElem?_eq_getElem (by omega)
              rw [h _ this]
              decide
            rw [this]
            rfl
        simp -dsimp only [↓Z_seq, ↓Z_pC, ↓Z_v0, ↓Z_vS, ↓Z_iP, ↓Z_p1, ↓Z_p2, ↓Z_i1, ↓Z_i2, ↓Z_psN, ↓Z_psC, ↓Z_isN, ↓Z_isC, ↓Z_pN, ↓Z_iN, ↓Z_bP, ↓Z_bI, ↓Z_liftB, ↓Z_andP, ↓Z_orP, ↓Z_bNotP, ↓Z_andI, ↓Z_orI, ↓Z_bNotI, ↓Z_pAnd, ↓Z_pOr, ↓Z_pNot, ↓Z_iAnd, ↓Z_iOr, ↓Z_iNot, ↓Z_pIf, ↓Z_iIf, ↓Z_pChain, ↓Z_iCall, ↓Z_iMod, ↓Z_ivSeq, ↓Z_itSeq, ↓Z_ivN, ↓Z_itN, ↓Z_sNx, ↓Z_sBk, ↓Z_sCt, ↓Z_if, ↓Z_sAsg, ↓Z_sEx, ↓Z_sRt, ↓Z_sRtN, ↓Z_sRtO, ↓Z_sAug, ↓Z_sTg, ↓Z_sFor, ↓Z_asB, ↓Z_lstOf, ↓Z_set, ↓Z_app2, ↓Z_appK, ↓Z_sPar, X_ex2, ↓Z_whl, ↓Z_no, ↓Z_ite', ↓Z_some, Z_map, ↓Z_pComp, ↓Z_iComp, ↓Z_pSl, pO_none, ↓ZpO_some, ZpO_int, Zx_nx, Zx_rt, Zx_bk, Zx_ct, Zf_nx, Zf_ct, Zf_bk, Zf_rt, Zr_rt, Zr_nx, Zr1_rt, Zr1_nx, wIf_t, wIf_f, wIf_not, sE, List.map_cons, List.map_nil, List.replicate_succ, List.replicate_zero, List.cons_append, List.nil_append, Nat.reduceSub, Nat.reduceAdd, nLen_lst, nLen_tup, nInt_int, nList_lst, nList_tup, nList_scr, nTuple_lst, nTuple_tup, nIx_lst, nIx_tup, seqOf_lst, seqOf_tup, gRev_eq, gPop_eq, nI2_i, nIc_ok, nCmp_i, nAdd_i, nEq_int, nNe_int, nEq_bl, nNe_bl, nEq_TI, nNe_TI, nEq_LI, nNe_LI, nIn_TI, nIn_LI, X_fld, max2, min2, nTupD0, nTupD1, nTupD2, nTupD3, nTupD4, nLstD0, nLstD1, nLstD2, nLstD3, nLstD4, isi_int_int, isi_int_bl, isi_int_tup, isi_int_lst, isi_int_non, isi_int_str, isi_bool_int, isi_bool_bl, isi_bool_tup, isi_bool_lst, isi_bool_non, isi_bool_str, isi_tuple_int, isi_tuple_bl, isi_tuple_tup, isi_tuple_lst, isi_tuple_non, isi_tuple_str, isi_list_int, isi_list_bl, isi_list_tup, isi_list_lst, isi_list_non, isi_list_str, isi_str_int, isi_str_bl, isi_str_tup, isi_str_lst, isi_str_non, isi_str_str, isN_non, notN_non, nonD_non, nonD_int, nonD_bl, nonD_tup, nonD_lst, nonD_str, Z_bTup, Z_bsC, Z_bsN, Z_bNm, Option.bind_some, Option.map_some, List.getElem?_cons_zero, List.getElem?_cons_succ, List.set_cons_zero, List.set_cons_succ, List.length_cons, List.length_nil, id, Bool.not_true, Bool.not_false, List.length_map, List.length_set, decide_true, decide_false, eq_self, if_true, if_false, Bool.false_eq_true, decide_eq_true_eq, not_true_eq_false, not_false_eq_true, true_and, and_true, Int.cast_ofNat_Int, Int.reduceLT, Int.reduceLE, Int.reduceEq, bindT, wipeE, backE, Z_seq, Z_pC, Z_v0, Z_vS, Z_iP, Z_p1, Z_p2, Z_i1, Z_i2, Z_psN, Z_psC, Z_isN, Z_isC, Z_pN, Z_iN, Z_bP, Z_bI, Z_liftB, Z_andP, Z_orP, Z_bNotP, Z_andI, Z_orI, Z_bNotI, Z_pAnd, Z_pOr, Z_pNot, Z_iAnd, Z_iOr, Z_iNot, Z_pIf, Z_iIf, Z_pChain, Z_iCall, Z_iMod, Z_ivSeq, Z_itSeq, Z_ivN, Z_itN, Z_sNx, Z_sBk, Z_sCt, Z_if, Z_sAsg, Z_sEx, Z_sRt, Z_sRtN, Z_sRtO, Z_sAug, Z_sTg, Z_sFor, Z_asB, Z_lstOf, Z_set, Z_app2, Z_appK, Z_sPar, Z_whl, Z_no, Z_ite', Z_some, Z_pComp, Z_iComp, Z_pSl, ZpO_some, ↓Z_forL_nil, ↓Z_forL_cons, ↓Z_compP_nil, ↓Z_compP_cons, ↓Z_compI_nil, ↓Z_compI_cons, ↓Z_bYes, ↓Z_iYes, Z_forL_nil, Z_forL_cons, Z_compP_nil, Z_compP_cons, Z_compI_nil, Z_compI_cons, hcnt]
        cases hall : (r.take j).all fun y => indep L y (r.getD j 0) with
        | false =>
          rw [if_neg (by decide), List.append_nil]
          simp -dsimp only [↓Z_seq, ↓Z_pC, ↓Z_v0, ↓Z_vS, ↓Z_iP, ↓Z_p1, ↓Z_p2, ↓Z_i1, ↓Z_i2, ↓Z_psN, ↓Z_psC, ↓Z_isN, ↓Z_isC, ↓Z_pN, ↓Z_iN, ↓Z_bP, ↓Z_bI, ↓Z_liftB, ↓Z_andP, ↓Z_orP, ↓Z_bNotP, ↓Z_andI, ↓Z_orI, ↓Z_bNotI, ↓Z_pAnd, ↓Z_pOr, ↓Z_pNot, ↓Z_iAnd, ↓Z_iOr, ↓Z_iNot, ↓Z_pIf, ↓Z_iIf, ↓Z_pChain, ↓Z_iCall, ↓Z_iMod, ↓Z_ivSeq, ↓Z_itSeq, ↓Z_ivN, ↓Z_itN, ↓Z_sNx, ↓Z_sBk, ↓Z_sCt, ↓Z_if, ↓Z_sAsg, ↓Z_sEx, ↓Z_sRt, ↓Z_sRtN, ↓Z_sRtO, ↓Z_sAug, ↓Z_sTg, ↓Z_sFor, ↓Z_asB, ↓Z_lstOf, ↓Z_set, ↓Z_app2, ↓Z_appK, ↓Z_sPar, X_ex2, ↓Z_whl, ↓Z_no, ↓Z_ite', ↓Z_some, Z_map, ↓Z_pComp, ↓Z_iComp, ↓Z_pSl, pO_none, ↓ZpO_some, ZpO_int, Zx_nx, Zx_rt, Zx_bk, Zx_ct, Zf_nx, Zf_ct, Zf_bk, Zf_rt, Zr_rt, Zr_nx, Zr1_rt, Zr1_nx, wIf_t, wIf_f, wIf_not, sE, List.map_cons, List.map_nil, List.replicate_succ, List.replicate_zero, List.cons_append, List.nil_append, Nat.reduceSub, Nat.reduceAdd, nLen_lst, nLen_tup, nInt_int, nList_lst, nList_tup, nList_scr, nTuple_lst, nTuple_tup, nIx_lst, nIx_tup, seqOf_lst, seqOf_tup, gRev_eq, gPop_eq, nI2_i, nIc_ok, nCmp_i, nAdd_i, nEq_int, nNe_int, nEq_bl, nNe_bl, nEq_TI, nNe_TI, nEq_LI, nNe_LI, nIn_TI, nIn_LI, X_fld, max2, min2, nTupD0, nTupD1, nTupD2, nTupD3, nTupD4, nLstD0, nLstD1, nLstD2, nLstD3, nLstD4, isi_int_int, isi_int_bl, isi_int_tup, isi_int_lst, isi_int_non, isi_int_str, isi_bool_int, isi_bool_bl, isi_bool_tup, isi_bool_lst, isi_bool_non, isi_bool_str, isi_tuple_int, isi_tuple_bl, isi_tuple_tup, isi_tuple_lst, isi_tuple_non, isi_tuple_str, isi_list_int, isi_list_bl, isi_list_tup, isi_list_lst, isi_list_non, isi_list_str, isi_str_int, isi_str_bl, isi_str_tup, isi_str_lst, isi_str_non, isi_str_str, isN_non, notN_non, nonD_non, nonD_int, nonD_bl, nonD_tup, nonD_lst, nonD_str, Z_bTup, Z_bsC, Z_bsN, Z_bNm, Option.bind_some, Option.map_some, List.getElem?_cons_zero, List.getElem?_cons_succ, List.set_cons_zero, List.set_cons_succ, List.length_cons, List.length_nil, id, Bool.not_true, Bool.not_false, List.length_map, List.length_set, decide_true, decide_false, eq_self, if_true, if_false, Bool.false_eq_true, decide_eq_true_eq, not_true_eq_false, not_false_eq_true, true_and, and_true, Int.cast_ofNat_Int, Int.reduceLT, Int.reduceLE, Int.reduceEq, bindT, wipeE, backE, Z_seq, Z_pC, Z_v0, Z_vS, Z_iP, Z_p1, Z_p2, Z_i1, Z_i2, Z_psN, Z_psC, Z_isN, Z_isC, Z_pN, Z_iN, Z_bP, Z_bI, Z_liftB, Z_andP, Z_orP, Z_bNotP, Z_andI, Z_orI, Z_bNotI, Z_pAnd, Z_pOr, Z_pNot, Z_iAnd, Z_iOr, Z_iNot, Z_pIf, Z_iIf, Z_pChain, Z_iCall, Z_iMod, Z_ivSeq, Z_itSeq, Z_ivN, Z_itN, Z_sNx, Z_sBk, Z_sCt, Z_if, Z_sAsg, Z_sEx, Z_sRt, Z_sRtN, Z_sRtO, Z_sAug, Z_sTg, Z_sFor, Z_asB, Z_lstOf, Z_set, Z_app2, Z_appK, Z_sPar, Z_whl, Z_no, Z_ite', Z_some, Z_pComp, Z_iComp, Z_pSl, ZpO_some, ↓Z_forL_nil, ↓Z_forL_cons, ↓Z_compP_nil, ↓Z_compP_cons, ↓Z_compI_nil, ↓Z_compI_cons, ↓Z_bYes, ↓Z_iYes, Z_forL_nil, Z_forL_cons, Z_compP_nil, Z_compP_cons, Z_compI_nil, Z_compI_cons]
          exact ⟨_, _, _, _, hB, rfl⟩
        | true =>
          rw [if_pos rfl]
          by_cases hb0 : best < 0
          · simp -dsimp only [↓Z_seq, ↓Z_pC, ↓Z_v0, ↓Z_vS, ↓Z_iP, ↓Z_p1, ↓Z_p2, ↓Z_i1, ↓Z_i2, ↓Z_psN, ↓Z_psC, ↓Z_isN, ↓Z_isC, ↓Z_pN, ↓Z_iN, ↓Z_bP, ↓Z_bI, ↓Z_liftB, ↓Z_andP, ↓Z_orP, ↓Z_bNotP, ↓Z_andI, ↓Z_orI, ↓Z_bNotI, ↓Z_pAnd, ↓Z_pOr, ↓Z_pNot, ↓Z_iAnd, ↓Z_iOr, ↓Z_iNot, ↓Z_pIf, ↓Z_iIf, ↓Z_pChain, ↓Z_iCall, ↓Z_iMod, ↓Z_ivSeq, ↓Z_itSeq, ↓Z_ivN, ↓Z_itN, ↓Z_sNx, ↓Z_sBk, ↓Z_sCt, ↓Z_if, ↓Z_sAsg, ↓Z_sEx, ↓Z_sRt, ↓Z_sRtN, ↓Z_sRtO, ↓Z_sAug, ↓Z_sTg, ↓Z_sFor, ↓Z_asB, ↓Z_lstOf, ↓Z_set, ↓Z_app2, ↓Z_appK, ↓Z_sPar, X_ex2, ↓Z_whl, ↓Z_no, ↓Z_ite', ↓Z_some, Z_map, ↓Z_pComp, ↓Z_iComp, ↓Z_pSl, pO_none, ↓ZpO_some, ZpO_int, Zx_nx, Zx_rt, Zx_bk, Zx_ct, Zf_nx, Zf_ct, Zf_bk, Zf_rt, Zr_rt, Zr_nx, Zr1_rt, Zr1_nx, wIf_t, wIf_f, wIf_not, sE, List.map_cons, List.map_nil, List.replicate_succ, List.replicate_zero, List.cons_append, List.nil_append, Nat.reduceSub, Nat.reduceAdd, nLen_lst, nLen_tup, nInt_int, nList_lst, nList_tup, nList_scr, nTuple_lst, nTuple_tup, nIx_lst, nIx_tup, seqOf_lst, seqOf_tup, gRev_eq, gPop_eq, nI2_i, nIc_ok, nCmp_i, nAdd_i, nEq_int, nNe_int, nEq_bl, nNe_bl, nEq_TI, nNe_TI, nEq_LI, nNe_LI, nIn_TI, nIn_LI, X_fld, max2, min2, nTupD0, nTupD1, nTupD2, nTupD3, nTupD4, nLstD0, nLstD1, nLstD2, nLstD3, nLstD4, isi_int_int, isi_int_bl, isi_int_tup, isi_int_lst, isi_int_non, isi_int_str, isi_bool_int, isi_bool_bl, isi_bool_tup, isi_bool_lst, isi_bool_non, isi_bool_str, isi_tuple_int, isi_tuple_bl, isi_tuple_tup, isi_tuple_lst, isi_tuple_non, isi_tuple_str, isi_list_int, isi_list_bl, isi_list_tup, isi_list_lst, isi_list_non, isi_list_str, isi_str_int, isi_str_bl, isi_str_tup, isi_str_lst, isi_str_non, isi_str_str, isN_non, notN_non, nonD_non, nonD_int, nonD_bl, nonD_tup, nonD_lst, nonD_str, Z_bTup, Z_bsC, Z_bsN, Z_bNm, Option.bind_some, Option.map_some, List.getElem?_cons_zero, List.getElem?_cons_succ, List.set_cons_zero, List.set_cons_succ, List.length_cons, List.length_nil, id, Bool.not_true, Bool.not_false, List.length_map, List.length_set, decide_true, decide_false, eq_self, if_true, if_false, Bool.false_eq_true, decide_eq_true_eq, not_true_eq_false, not_false_eq_true, true_and, and_true, Int.cast_ofNat_Int, Int.reduceLT, Int.reduceLE, Int.reduceEq, bindT, wipeE, backE, Z_seq, Z_pC, Z_v0, Z_vS, Z_iP, Z_p1, Z_p2, Z_i1, Z_i2, Z_psN, Z_psC, Z_isN, Z_isC, Z_pN, Z_iN, Z_bP, Z_bI, Z_liftB, Z_andP, Z_orP, Z_bNotP, Z_andI, Z_orI, Z_bNotI, Z_pAnd, Z_pOr, Z_pNot, Z_iAnd, Z_iOr, Z_iNot, Z_pIf, Z_iIf, Z_pChain, Z_iCall, Z_iMod, Z_ivSeq, Z_itSeq, Z_ivN, Z_itN, Z_sNx, Z_sBk, Z_sCt, Z_if, Z_sAsg, Z_sEx, Z_sRt, Z_sRtN, Z_sRtO, Z_sAug, Z_sTg, Z_sFor, Z_asB, Z_lstOf, Z_set, Z_app2, Z_appK, Z_sPar, Z_whl, Z_no, Z_ite', Z_some, Z_pComp, Z_iComp, Z_pSl, ZpO_some, ↓Z_forL_nil, ↓Z_forL_cons, ↓Z_compP_nil, ↓Z_compP_cons, ↓Z_compI_nil, ↓Z_compI_cons, ↓Z_bYes, ↓Z_iYes, Z_forL_nil, Z_forL_cons, Z_compP_nil, Z_compP_cons, Z_compI_nil, Z_compI_cons, hb0]
            exact ⟨_, _, _, _, hB.take j (.inl hb0), rfl⟩
          · obtain ⟨bb, rfl⟩ : ∃ bb : Nat, best = (bb : Int) := ⟨best.toNat, by omega⟩
            have hbl : bb < r.length := by
              rcases hB with ⟨e, _⟩ | ⟨b', e, h1, _⟩
              · omega
              · have : bb = b' := by omega
                subst this
                have := List.mem_range.mp (List.mem_filter.mp h1).1
                omega
            have g2 := LI_getD hbl
            by_cases hlt : r.getD j 0 < r.getD bb 0
            · simp -dsimp only [↓Z_seq, ↓Z_pC, ↓Z_v0, ↓Z_vS, ↓Z_iP, ↓Z_p1, ↓Z_p2, ↓Z_i1, ↓Z_i2, ↓Z_psN, ↓Z_psC, ↓Z_isN, ↓Z_isC, ↓Z_pN, ↓Z_iN, ↓Z_bP, ↓Z_bI, ↓Z_liftB, ↓Z_andP, ↓Z_orP, ↓Z_bNotP, ↓Z_andI, ↓Z_orI, ↓Z_bNotI, ↓Z_pAnd, ↓Z_pOr, ↓Z_pNot, ↓Z_iAnd, ↓Z_iOr, ↓Z_iNot, ↓Z_pIf, ↓Z_iIf, ↓Z_pChain, ↓Z_iCall, ↓Z_iMod, ↓Z_ivSeq, ↓Z_itSeq, ↓Z_ivN, ↓Z_itN, ↓Z_sNx, ↓Z_sBk, ↓Z_sCt, ↓Z_if, ↓Z_sAsg, ↓Z_sEx, ↓Z_sRt, ↓Z_sRtN, ↓Z_sRtO, ↓Z_sAug, ↓Z_sTg, ↓Z_sFor, ↓Z_asB, ↓Z_lstOf, ↓Z_set, ↓Z_app2, ↓Z_appK, ↓Z_sPar, X_ex2, ↓Z_whl, ↓Z_no, ↓Z_ite', ↓Z_some, Z_map, ↓Z_pComp, ↓Z_iComp, ↓Z_pSl, pO_none, ↓ZpO_some, ZpO_int, Zx_nx, Zx_rt, Zx_bk, Zx_ct, Zf_nx, Zf_ct, Zf_bk, Zf_rt, Zr_rt, Zr_nx, Zr1_rt, Zr1_nx, wIf_t, wIf_f, wIf_not, sE, List.map_cons, List.map_nil, List.replicate_succ, List.replicate_zero, List.cons_append, List.nil_append, Nat.reduceSub, Nat.reduceAdd, nLen_lst, nLen_tup, nInt_int, nList_lst, nList_tup, nList_scr, nTuple_lst, nTuple_tup, nIx_lst, nIx_tup, seqOf_lst, seqOf_tup, gRev_eq, gPop_eq, nI2_i, nIc_ok, nCmp_i, nAdd_i, nEq_int, nNe_int, nEq_bl, nNe_bl, nEq_TI, nNe_TI, nEq_LI, nNe_LI, nIn_TI, nIn_LI, X_fld, max2, min2, nTupD0, nTupD1, nTupD2, nTupD3, nTupD4, nLstD0, nLstD1, nLstD2, nLstD3, nLstD4, isi_int_int, isi_int_bl, isi_int_tup, isi_int_lst, isi_int_non, isi_int_str, isi_bool_int, isi_bool_bl, isi_bool_tup, isi_bool_lst, isi_bool_non, isi_bool_str, isi_tuple_int, isi_tuple_bl, isi_tuple_tup, isi_tuple_lst, isi_tuple_non, isi_tuple_str, isi_list_int, isi_list_bl, isi_list_tup, isi_list_lst, isi_list_non, isi_list_str, isi_str_int, isi_str_bl, isi_str_tup, isi_str_lst, isi_str_non, isi_str_str, isN_non, notN_non, nonD_non, nonD_int, nonD_bl, nonD_tup, nonD_lst, nonD_str, Z_bTup, Z_bsC, Z_bsN, Z_bNm, Option.bind_some, Option.map_some, List.getElem?_cons_zero, List.getElem?_cons_succ, List.set_cons_zero, List.set_cons_succ, List.length_cons, List.length_nil, id, Bool.not_true, Bool.not_false, List.length_map, List.length_set, decide_true, decide_false, eq_self, if_true, if_false, Bool.false_eq_true, decide_eq_true_eq, not_true_eq_false, not_false_eq_true, true_and, and_true, Int.cast_ofNat_Int, Int.reduceLT, Int.reduceLE, Int.reduceEq, bindT, wipeE, backE, Z_seq, Z_pC, Z_v0, Z_vS, Z_iP, Z_p1, Z_p2, Z_i1, Z_i2, Z_psN, Z_psC, Z_isN, Z_isC, Z_pN, Z_iN, Z_bP, Z_bI, Z_liftB, Z_andP, Z_orP, Z_bNotP, Z_andI, Z_orI, Z_bNotI, Z_pAnd, Z_pOr, Z_pNot, Z_iAnd, Z_iOr, Z_iNot, Z_pIf, Z_iIf, Z_pChain, Z_iCall, Z_iMod, Z_ivSeq, Z_itSeq, Z_ivN, Z_itN, Z_sNx, Z_sBk, Z_sCt, Z_if, Z_sAsg, Z_sEx, Z_sRt, Z_sRtN, Z_sRtO, Z_sAug, Z_sTg, Z_sFor, Z_asB, Z_lstOf, Z_set, Z_app2, Z_appK, Z_sPar, Z_whl, Z_no, Z_ite', Z_some, Z_pComp, Z_iComp, Z_pSl, ZpO_some, ↓Z_forL_nil, ↓Z_forL_cons, ↓Z_compP_nil, ↓Z_compP_cons, ↓Z_compI_nil, ↓Z_compI_cons, ↓Z_bYes, ↓Z_iYes, Z_forL_nil, Z_forL_cons, Z_compP_nil, Z_compP_cons, Z_compI_nil, Z_compI_cons, hb0, gj, g2, hlt]
              exact ⟨_, _, _, _, hB.take j (.inr ⟨bb, rfl, hlt⟩), rfl⟩
            · simp -dsimp only [↓Z_seq, ↓Z_pC, ↓Z_v0, ↓Z_vS, ↓Z_iP, ↓Z_p1, ↓Z_p2, ↓Z_i1, ↓Z_i2, ↓Z_psN, ↓Z_psC, ↓Z_isN, ↓Z_isC, ↓Z_pN, ↓Z_iN, ↓Z_bP, ↓Z_bI, ↓Z_liftB, ↓Z_andP, ↓Z_orP, ↓Z_bNotP, ↓Z_andI, ↓Z_orI, ↓Z_bNotI, ↓Z_pAnd, ↓Z_pOr, ↓Z_pNot, ↓Z_iAnd, ↓Z_iOr, ↓Z_iNot, ↓Z_pIf, ↓Z_iIf, ↓Z_pChain, ↓Z_iCall, ↓Z_iMod, ↓Z_ivSeq, ↓Z_itSeq, ↓Z_ivN, ↓Z_itN, ↓Z_sNx, ↓Z_sBk, ↓Z_sCt, ↓Z_if, ↓Z_sAsg, ↓Z_sEx, ↓Z_sRt, ↓Z_sRtN, ↓Z_sRtO, ↓Z_sAug, ↓Z_sTg, ↓Z_sFor, ↓Z_asB, ↓Z_lstOf, ↓Z_set, ↓Z_app2, ↓Z_appK, ↓Z_sPar, X_ex2, ↓Z_whl, ↓Z_no, ↓Z_ite', ↓Z_some, Z_map, ↓Z_pComp, ↓Z_iComp, ↓Z_pSl, pO_none, ↓ZpO_some, ZpO_int, Zx_nx, Zx_rt, Zx_bk, Zx_ct, Zf_nx, Zf_ct, Zf_bk, Zf_rt, Zr_rt, Zr_nx, Zr1_rt, Zr1_nx, wIf_t, wIf_f, wIf_not, sE, List.map_cons, List.map_nil, List.replicate_succ, List.replicate_zero, List.cons_append, List.nil_append, Nat.reduceSub, Nat.reduceAdd, nLen_lst, nLen_tup, nInt_int, nList_lst, nList_tup, nList_scr, nTuple_lst, nTuple_tup, nIx_lst, nIx_tup, seqOf_lst, seqOf_tup, gRev_eq, gPop_eq, nI2_i, nIc_ok, nCmp_i, nAdd_i, nEq_int, nNe_int, nEq_bl, nNe_bl, nEq_TI, nNe_TI, nEq_LI, nNe_LI, nIn_TI, nIn_LI, X_fld, max2, min2, nTupD0, nTupD1, nTupD2, nTupD3, nTupD4, nLstD0, nLstD1, nLstD2, nLstD3, nLstD4, isi_int_int, isi_int_bl, isi_int_tup, isi_int_lst, isi_int_non, isi_int_str, isi_bool_int, isi_bool_bl, isi_bool_tup, isi_bool_lst, isi_bool_non, isi_bool_str, isi_tuple_int, isi_tuple_bl, isi_tuple_tup, isi_tuple_lst, isi_tuple_non, isi_tuple_str, isi_list_int, isi_list_bl, isi_list_tup, isi_list_lst, isi_list_non, isi_list_str, isi_str_int, isi_str_bl, isi_str_tup, isi_str_lst, isi_str_non, isi_str_str, isN_non, notN_non, nonD_non, nonD_int, nonD_bl, nonD_tup, nonD_lst, nonD_str, Z_bTup, Z_bsC, Z_bsN, Z_bNm, Option.bind_some, Option.map_some, List.getElem?_cons_zero, List.getElem?_cons_succ, List.set_cons_zero, List.set_cons_succ, List.length_cons, List.length_nil, id, Bool.not_true, Bool.not_false, List.length_map, List.length_set, decide_true, decide_false, eq_self, if_true, if_false, Bool.false_eq_true, decide_eq_true_eq, not_true_eq_false, not_false_eq_true, true_and, and_true, Int.cast_ofNat_Int, Int.reduceLT, Int.reduceLE, Int.reduceEq, bindT, wipeE, backE, Z_seq, Z_pC, Z_v0, Z_vS, Z_iP, Z_p1, Z_p2, Z_i1, Z_i2, Z_psN, Z_psC, Z_isN, Z_isC, Z_pN, Z_iN, Z_bP, Z_bI, Z_liftB, Z_andP, Z_orP, Z_bNotP, Z_andI, Z_orI, Z_bNotI, Z_pAnd, Z_pOr, Z_pNot, Z_iAnd, Z_iOr, Z_iNot, Z_pIf, Z_iIf, Z_pChain, Z_iCall, Z_iMod, Z_ivSeq, Z_itSeq, Z_ivN, Z_itN, Z_sNx, Z_sBk, Z_sCt, Z_if, Z_sAsg, Z_sEx, Z_sRt, Z_sRtN, Z_sRtO, Z_sAug, Z_sTg, Z_sFor, Z_asB, Z_lstOf, Z_set, Z_app2, Z_appK, Z_sPar, Z_whl, Z_no, Z_ite', Z_some, Z_pComp, Z_iComp, Z_pSl, ZpO_some, ↓Z_forL_nil, ↓Z_forL_cons, ↓Z_compP_nil, ↓Z_compP_cons, ↓Z_compI_nil, ↓Z_compI_cons, ↓Z_bYes, ↓Z_iYes, Z_forL_nil, Z_forL_cons, Z_compP_nil, Z_compP_cons, Z_compI_nil, Z_compI_cons, hb0, gj, g2, hlt]
              exact ⟨_, _, _, _, hB.keep hlt, rfl⟩
    · rintro env ⟨best, b, g, k, hB, rfl⟩
      obtain ⟨bb, rfl, hbl, hst⟩ := best_step hB hr0
      have g2 := LI_getD hbl
      have e1 := cut_lst_hi r (n := (bb : Int)) (by omega)
      have e2 := cut_lst_lo r (n := (bb : Int) + 1) (by omega)
      rw [Int.toNat_natCast] at e1
      rw [show ((bb : Int) + 1).toNat = bb + 1 by omega] at e2
      have e3 := cat_LI (r.take bb) (r.drop (bb + 1)) (by rw [List.length_take, List.length_drop]; omega)
      rw [← List.eraseIdx_eq_take_drop_succ] at e3
      have hel : (r.eraseIdx bb).length = r.length - 1 := by rw [List.length_eraseIdx, if_pos hbl]
      simp -dsimp only [↓Z_seq, ↓Z_pC, ↓Z_v0, ↓Z_vS, ↓Z_iP, ↓Z_p1, ↓Z_p2, ↓Z_i1, ↓Z_i2, ↓Z_psN, ↓Z_psC, ↓Z_isN, ↓Z_isC, ↓Z_pN, ↓Z_iN, ↓Z_bP, ↓Z_bI, ↓Z_liftB, ↓Z_andP, ↓Z_orP, ↓Z_bNotP, ↓Z_andI, ↓Z_orI, ↓Z_bNotI, ↓Z_pAnd, ↓Z_pOr, ↓Z_pNot, ↓Z_iAnd, ↓Z_iOr, ↓Z_iNot, ↓Z_pIf, ↓Z_iIf, ↓Z_pChain, ↓Z_iCall, ↓Z_iMod, ↓Z_ivSeq, ↓Z_itSeq, ↓Z_ivN, ↓Z_itN, ↓Z_sNx, ↓Z_sBk, ↓Z_sCt, ↓Z_if, ↓Z_sAsg, ↓Z_sEx, ↓Z_sRt, ↓Z_sRtN, ↓Z_sRtO, ↓Z_sAug, ↓Z_sTg, ↓Z_sFor, ↓Z_asB, ↓Z_lstOf, ↓Z_set, ↓Z_app2, ↓Z_appK, ↓Z_sPar, X_ex2, ↓Z_whl, ↓Z_no, ↓Z_ite', ↓Z_some, Z_map, ↓Z_pComp, ↓Z_iComp, ↓Z_pSl, pO_none, ↓ZpO_some, ZpO_int, Zx_nx, Zx_rt, Zx_bk, Zx_ct, Zf_nx, Zf_ct, Zf_bk, Zf_rt, Zr_rt, Zr_nx, Zr1_rt, Zr1_nx, wIf_t, wIf_f, wIf_not, sE, List.map_cons, List.map_nil, List.replicate_succ, List.replicate_zero, List.cons_append, List.nil_append, Nat.reduceSub, Nat.reduceAdd, nLen_lst, nLen_tup, nInt_int, nList_lst, nList_tup, nList_scr, nTuple_lst, nTuple_tup, nIx_lst, nIx_tup, seqOf_lst, seqOf_tup, gRev_eq, gPop_eq, nI2_i, nIc_ok, nCmp_i, nAdd_i, nEq_int, nNe_int, nEq_bl, nNe_bl, nEq_TI, nNe_TI, nEq_LI, nNe_LI, nIn_TI, nIn_LI, X_fld, max2, min2, nTupD0, nTupD1, nTupD2, nTupD3, nTupD4, nLstD0, nLstD1, nLstD2, nLstD3, nLstD4, isi_int_int, isi_int_bl, isi_int_tup, isi_int_lst, isi_int_non, isi_int_str, isi_bool_int, isi_bool_bl, isi_bool_tup, isi_bool_lst, isi_bool_non, isi_bool_str, isi_tuple_int, isi_tuple_bl, isi_tuple_tup, isi_tuple_lst, isi_tuple_non, isi_tuple_str, isi_list_int, isi_list_bl, isi_list_tup, isi_list_lst, isi_list_non, isi_list_str, isi_str_int, isi_str_bl, isi_str_tup, isi_str_lst, isi_str_non, isi_str_str, isN_non, notN_non, nonD_non, nonD_int, nonD_bl, nonD_tup, nonD_lst, nonD_str, Z_bTup, Z_bsC, Z_bsN, Z_bNm, Option.bind_some, Option.map_some, List.getElem?_cons_zero, List.getElem?_cons_succ, List.set_cons_zero, List.set_cons_succ, List.length_cons, List.length_nil, id, Bool.not_true, Bool.not_false, List.length_map, List.length_set, decide_true, decide_false, eq_self, if_true, if_false, Bool.false_eq_true, decide_eq_true_eq, not_true_eq_false, not_false_eq_true, true_and, and_true, Int.cast_ofNat_Int, Int.reduceLT, Int.reduceLE, Int.reduceEq, bindT, wipeE, backE, Z_seq, Z_pC, Z_v0, Z_vS, Z_iP, Z_p1, Z_p2, Z_i1, Z_i2, Z_psN, Z_psC, Z_isN, Z_isC, Z_pN, Z_iN, Z_bP, Z_bI, Z_liftB, Z_andP, Z_orP, Z_bNotP, Z_andI, Z_orI, Z_bNotI, Z_pAnd, Z_pOr, Z_pNot, Z_iAnd, Z_iOr, Z_iNot, Z_pIf, Z_iIf, Z_pChain, Z_iCall, Z_iMod, Z_ivSeq, Z_itSeq, Z_ivN, Z_itN, Z_sNx, Z_sBk, Z_sCt, Z_if, Z_sAsg, Z_sEx, Z_sRt, Z_sRtN, Z_sRtO, Z_sAug, Z_sTg, Z_sFor, Z_asB, Z_lstOf, Z_set, Z_app2, Z_appK, Z_sPar, Z_whl, Z_no, Z_ite', Z_some, Z_pComp, Z_iComp, Z_pSl, ZpO_some, ↓Z_forL_nil, ↓Z_forL_cons, ↓Z_compP_nil, ↓Z_compP_cons, ↓Z_compI_nil, ↓Z_compI_cons, ↓Z_bYes, ↓Z_iYes, Z_forL_nil, Z_forL_cons, Z_compP_nil, Z_compP_cons, Z_compI_nil, Z_compI_cons, g2, gApp_eq (show (LI f).length < sizeLine from size_lt (by rw [List.length_map]; omega)), LI_app1, e1, e2, e3]
      refine ⟨r.eraseIdx bb, f ++ [r.getD bb 0], _, _, _, _, _, by omega, by rw [List.length_append, hfl]; rfl, fun x hx => hrw x (List.mem_of_mem_eraseIdx hx), fun t ht => ?_, rfl⟩
      rw [List.append_assoc]
      exact hlf _ (hst t ht)
  · rintro env ⟨r, f, a, b, e, g, k, hrl, hfl, hrw, hlf, rfl⟩
    have hr0 : r = [] := List.length_eq_zero_iff.mp (by omega)
    subst hr0
    simp -dsimp only [↓Z_seq, ↓Z_pC, ↓Z_v0, ↓Z_vS, ↓Z_iP, ↓Z_p1, ↓Z_p2, ↓Z_i1, ↓Z_i2, ↓Z_psN, ↓Z_psC, ↓Z_isN, ↓Z_isC, ↓Z_pN, ↓Z_iN, ↓Z_bP, ↓Z_bI, ↓Z_liftB, ↓Z_andP, ↓Z_orP, ↓Z_bNotP, ↓Z_andI, ↓Z_orI, ↓Z_bNotI, ↓Z_pAnd, ↓Z_pOr, ↓Z_pNot, ↓Z_iAnd, ↓Z_iOr, ↓Z_iNot, ↓Z_pIf, ↓Z_iIf, ↓Z_pChain, ↓Z_iCall, ↓Z_iMod, ↓Z_ivSeq, ↓Z_itSeq, ↓Z_ivN, ↓Z_itN, ↓Z_sNx, ↓Z_sBk, ↓Z_sCt, ↓Z_if, ↓Z_sAsg, ↓Z_sEx, ↓Z_sRt, ↓Z_sRtN, ↓Z_sRtO, ↓Z_sAug, ↓Z_sTg, ↓Z_sFor, ↓Z_asB, ↓Z_lstOf, ↓Z_set, ↓Z_app2, ↓Z_appK, ↓Z_sPar, X_ex2, ↓Z_whl, ↓Z_no, ↓Z_ite', ↓Z_some, Z_map, ↓Z_pComp, ↓Z_iComp, ↓Z_pSl, pO_none, ↓ZpO_some, ZpO_int, Zx_nx, Zx_rt, Zx_bk, Zx_ct, Zf_nx, Zf_ct, Zf_bk, Zf_rt, Zr_rt, Zr_nx, Zr1_rt, Zr1_nx, wIf_t, wIf_f, wIf_not, sE, List.map_cons, List.map_nil, List.replicate_succ, List.replicate_zero, List.cons_append, List.nil_append, Nat.reduceSub, Nat.reduceAdd, nLen_lst, nLen_tup, nInt_int, nList_lst, nList_tup, nList_scr, nTuple_lst, nTuple_tup, nIx_lst, nIx_tup, seqOf_lst, seqOf_tup, gRev_eq, gPop_eq, nI2_i, nIc_ok, nCmp_i, nAdd_i, nEq_int, nNe_int, nEq_bl, nNe_bl, nEq_TI, nNe_TI, nEq_LI, nNe_LI, nIn_TI, nIn_LI, X_fld, max2, min2, nTupD0, nTupD1, nTupD2, nTupD3, nTupD4, nLstD0, nLstD1, nLstD2, nLstD3, nLstD4, isi_int_int, isi_int_bl, isi_int_tup, isi_int_lst, isi_int_non, isi_int_str, isi_bool_int, isi_bool_bl, isi_bool_tup, isi_bool_lst, isi_bool_non, isi_bool_str, isi_tuple_int, isi_tuple_bl, isi_tuple_tup, isi_tuple_lst, isi_tuple_non, isi_tuple_str, isi_list_int, isi_list_bl, isi_list_tup, isi_list_lst, isi_list_non, isi_list_str, isi_str_int, isi_str_bl, isi_str_tup, isi_str_lst, isi_str_non, isi_str_str, isN_non, notN_non, nonD_non, nonD_int, nonD_bl, nonD_tup, nonD_lst, nonD_str, Z_bTup, Z_bsC, Z_bsN, Z_bNm, Option.bind_some, Option.map_some, List.getElem?_cons_zero, List.getElem?_cons_succ, List.set_cons_zero, List.set_cons_succ, List.length_cons, List.length_nil, id, Bool.not_true, Bool.not_false, List.length_map, List.length_set, decide_true, decide_false, eq_self, if_true, if_false, Bool.false_eq_true, decide_eq_true_eq, not_true_eq_false, not_false_eq_true, true_and, and_true, Int.cast_ofNat_Int, Int.reduceLT, Int.reduceLE, Int.reduceEq, bindT, wipeE, backE, Z_seq, Z_pC, Z_v0, Z_vS, Z_iP, Z_p1, Z_p2, Z_i1, Z_i2, Z_psN, Z_psC, Z_isN, Z_isC, Z_pN, Z_iN, Z_bP, Z_bI, Z_liftB, Z_andP, Z_orP, Z_bNotP, Z_andI, Z_orI, Z_bNotI, Z_pAnd, Z_pOr, Z_pNot, Z_iAnd, Z_iOr, Z_iNot, Z_pIf, Z_iIf, Z_pChain, Z_iCall, Z_iMod, Z_ivSeq, Z_itSeq, Z_ivN, Z_itN, Z_sNx, Z_sBk, Z_sCt, Z_if, Z_sAsg, Z_sEx, Z_sRt, Z_sRtN, Z_sRtO, Z_sAug, Z_sTg, Z_sFor, Z_asB, Z_lstOf, Z_set, Z_app2, Z_appK, Z_sPar, Z_whl, Z_no, Z_ite', Z_some, Z_pComp, Z_iComp, Z_pSl, ZpO_some, ↓Z_forL_nil, ↓Z_forL_cons, ↓Z_compP_nil, ↓Z_compP_cons, ↓Z_compI_nil, ↓Z_compI_cons, ↓Z_bYes, ↓Z_iYes, Z_forL_nil, Z_forL_cons, Z_compP_nil, Z_compP_cons, Z_compI_nil, Z_compI_cons]
    exact ⟨f, rfl, by simpa using hlf [] Lf.nil⟩
end Com

namespace Wk33
open PySem L2 T3
def sem__law_draws : SS :=
 (sSeq (sAsg 2 (iP (pN nList (psC (pVar 0) psN))))
 (sSeq (sIf (liftB (bP (p2 nEq (pN nLen (psC (pVar 2) psN)) (pC (.int 0))))) (sAsg 2 (iP (pN nLstD (psC (pC (.int 7)) psN))))
 sNx)
 (sSeq (sAsg 3 (iP (pC (.lst []))))
 (sSeq (sAsg 4 (iP (pC (.int 12345))))
 (sSeq (sFor (itN rng1 (isC (iP (pVar 1)) isN)) (.nm 5)
 (sSeq (sAsg 6 (iP (p2 (nIc cPos fun i j => i % j) (pVar 5) (pN nLen (psC (pVar 2) psN)))))
 (sSeq (sAsg 7 (iP (p2 nIx (pVar 2) (pVar 6))))
 (sSeq (sAsg 4 (iP (p2 (nIc cPos fun i j => i % j) (pN nInt (psC (p2 nAdd (p2 nAdd (p2 nAdd (p2 (nIc cMul fun i j => i * j) (pVar 4) (pC (.int 48271))) (p2 (nIc cMul fun i j => i * j) (p2 (nIc cPos fun i j => i % j) (pN nInt (psC (pVar 7) psN)) (pC (.int 1000003))) (pC (.int 69621)))) (p2 (nIc cMul fun i j => i * j) (pVar 5) (pC (.int 7919)))) (pC (.int 11))) psN)) (pC (.int 2147483647)))))
 (sSeq (sAsg 8 (iP (p2 (nIc cPos fun i j => i % j) (pN nInt (psC (p2 nAdd (p2 nAdd (p2 (nIc cMul fun i j => i * j) (pVar 4) (pVar 4)) (p2 (nIc cMul fun i j => i * j) (pC (.int 31)) (pVar 4))) (pVar 5)) psN)) (pC (.int 1000003)))))
 (sIf (liftB (bP (p2 (nCmp fun i j => decide (j ≤ i)) (pVar 7) (p2 (nIc cPow fun i j => i ^ j.toNat) (pC (.int 10)) (pC (.int 18)))))) (sSeq (sEx (iMod 3 gAppend (isC (iP (p2 (nIc cPos fun i j => i % j) (pN nInt (psC (pVar 7) psN)) (pC (.int 1000)))) isN)))
 (sSet 2 (iP (p2 (nIc cDiv fun i j => i / j) (pVar 7) (pC (.int 1000)))) (iP (pVar 6))))
 (sEx (iMod 3 gAppend (isC (iP (p2 (nIc cPos fun i j => i % j) (pN nInt (psC (pVar 8) psN)) (pC (.int 1000)))) isN)))))))))
 (sSeq (sEx (iMod 3 gRev isN))
 (sRtO 3)))))))
def G__law_draws : List D → Option D := run0 9 2 (.lst .fz) sem__law_draws
def sem__law_take : SS :=
 (sSeq (sIf (liftB (bP (p2 nEq (pN nLen (psC (pVar 0) psN)) (pC (.int 0))))) (sRt (iP (pC (.int 0))))
 sNx)
 (sRt (i2 (nIc cPos fun i j => i % j) (iN nInt (isC (iMod 0 gPop isN) isN)) (iP (pVar 1)))))
def G__law_take : D → List D → Option (D × D) := run1 2 2 .fz sem__law_take
def sem__law_alphabet : SS :=
 (sSeq (sAsg 3 (i2 nAdd (iP (pC (.int 1))) (iCall 0 G__law_take (isC (iP (pVar 1)) isN))))
 (sSeq (sAsg 4 (iP (pC (.lst []))))
 (sSeq (sFor (itN rng1 (isC (i2 nAdd (iP (pC (.int 1))) (iCall 0 G__law_take (isC (iP (pVar 2)) isN))) isN)) (.nm 5)
 (sSeq (sAsg 6 (i2 nIx (iP (pN nLstD (psC (pC (.int 1)) (psC (pC (.int 1)) (psC (pC (.int 1)) (psC (pC (.int 2)) (psC (pC (.int 3)) (psC (pC (.int 6)) psN)))))))) (iCall 0 G__law_take (isC (iP (pC (.int 6))) isN))))
 (sSeq (sAsg 7 (iComp (itN rng1 (isC (iP (pVar 6)) isN)) [8] (.nm 8) iYes (iCall 0 G__law_take (isC (iP (pVar 3)) isN))))
 (sEx (iMod 4 gAppend (isC (iP (pN nTuple (psC (pN nSortSet (psC (pVar 7) psN)) psN))) isN))))))
 (sRt (iP (pN nTupD (psC (pVar 3) (psC (pVar 4) psN))))))))
def G__law_alphabet : D → List D → Option (D × D) := run1 9 3 .fz sem__law_alphabet
def sem_fits : SS :=
 (sSeq (sIf (liftB (bP (p2 nEq (pN nLen (psC (pVar 0) psN)) (pC (.int 0))))) (sRt (iP (pC (.bl false))))
 sNx)
 (sSeq (sFor (itN rng1 (isC (iP (pN nLen (psC (pVar 0) psN))) isN)) (.nm 2)
 (sIf (liftB (bOrP (bP (p2 (nCmp fun i j => decide (i < j)) (p2 nIx (pVar 0) (pVar 2)) (pC (.int 0)))) (bOrP (bP (p2 (nCmp fun i j => decide (j ≤ i)) (p2 nIx (pVar 0) (pVar 2)) (pVar 1))) (bAndP (bP (p2 (nCmp fun i j => decide (j < i)) (pVar 2) (pC (.int 0)))) (bP (p2 (nCmp fun i j => decide (i ≤ j)) (p2 nIx (pVar 0) (pVar 2)) (p2 nIx (pVar 0) (p2 (nI2 fun i j => i - j) (pVar 2) (pC (.int 1)))))))))) (sRt (iP (pC (.bl false))))
 sNx))
 (sRt (iP (pC (.bl true))))))
def G_fits : List D → Option D := run0 3 2 .fz sem_fits
def sem_Alphabet___init__ : SS :=
 (sSeq (sAsg 3 (iP (pAnd (pChain (nCmp fun i j => decide (i ≤ j)) (nCmp fun i j => decide (i ≤ j)) (pC (.int 1)) (pVar 1) (pC (.int 4))) (pChain (nCmp fun i j => decide (i ≤ j)) (nCmp fun i j => decide (i ≤ j)) (pC (.int 1)) (pN nLen (psC (pVar 2) psN)) (pC (.int 6))))))
 (sSeq (sFor (itSeq (iP (pVar 2))) (.nm 4)
 (sAsg 3 (iP (pAnd (pVar 3) (pN G_fits (psC (pVar 4) (psC (pVar 1) psN)))))))
 (sSeq (sIf (liftB (bNotP (bP (pVar 3)))) sNo
 sNx)
 (sSeq (sFldN 0 0 0 (iP (pVar 1)))
 (sFldN 0 0 1 (iP (pN nTuple (psC (pComp (ivSeq (pVar 2)) [4] (.nm 4) bYes (pN nTuple (psC (pVar 4) psN))) psN))))))))
def G_Alphabet___init__ : D → List D → Option (D × D) := run1 5 3 .fz sem_Alphabet___init__
def sem__law_word : SS :=
 (sRt (iN nTuple (isC (iComp (itN rng1 (isC (iCall 0 G__law_take (isC (iP (p2 nAdd (pVar 2) (pC (.int 1)))) isN)) isN)) [3] (.nm 3) iYes (iCall 0 G__law_take (isC (iP (pVar 1)) isN))) isN)))
def G__law_word : D → List D → Option (D × D) := run1 4 3 .fz sem__law_word
def sem_independent : SS :=
 (sSeq (sFor (itSeq (iP (p2 nIx (p1 (nFld 0 1) (pVar 0)) (pVar 1)))) (.nm 3)
 (sIf (liftB (bP (p2 nIn (pVar 3) (p2 nIx (p1 (nFld 0 1) (pVar 0)) (pVar 2))))) (sRt (iP (pC (.bl false))))
 sNx))
 (sRt (iP (pC (.bl true)))))
def G_independent : List D → Option D := run0 4 3 .fz sem_independent
def sem_masks : SS :=
 (sSeq (sAsg 1 (iP (pC (.lst []))))
 (sSeq (sFor (itN rng1 (isC (iP (pN nLen (psC (p1 (nFld 0 1) (pVar 0)) psN))) isN)) (.nm 2)
 (sSeq (sAsg 3 (iP (pC (.int 0))))
 (sSeq (sFor (itN rng1 (isC (iP (pN nLen (psC (p1 (nFld 0 1) (pVar 0)) psN))) isN)) (.nm 4)
 (sIf (liftB (bNotP (bP (pN G_independent (psC (pVar 0) (psC (pVar 2) (psC (pVar 4) psN))))))) (sAsg 3 (iP (p2 (nI2 Builtin.bitOr) (pVar 3) (p2 (nIc cPow fun i j => i * 2 ^ j.toNat) (pC (.int 1)) (pVar 4)))))
 sNx))
 (sEx (iMod 1 gAppend (isC (iP (pVar 3)) isN))))))
 (sRt (iP (pVar 1)))))
def G_masks : List D → Option D := run0 5 1 .fz sem_masks
def sem_first_letters : SS :=
 (sSeq (sAsg 2 (iP (pC (.lst []))))
 (sSeq (sAsg 3 (iP (pC (.int 0))))
 (sSeq (sAsg 4 (iP (pN G_masks (psC (pVar 0) psN))))
 (sSeq (sFor (itN rng1 (isC (iP (pN nLen (psC (pVar 1) psN))) isN)) (.nm 5)
 (sSeq (sIf (liftB (bP (p2 nEq (p2 (nI2 Builtin.bitAnd) (p2 (nIc cNn fun i j => i / 2 ^ j.toNat) (pVar 3) (p2 nIx (pVar 1) (pVar 5))) (pC (.int 1))) (pC (.int 0))))) (sEx (iMod 2 gAppend (isC (iP (pVar 5)) isN)))
 sNx)
 (sAsg 3 (iP (p2 (nI2 Builtin.bitOr) (pVar 3) (p2 nIx (pVar 4) (p2 nIx (pVar 1) (pVar 5))))))))
 (sRtO 2)))))
def G_first_letters : List D → Option D := run0 6 2 (.lst .fz) sem_first_letters
def sem_least_form : SS :=
 (sSeq (sAsg 2 (iP (pN nList (psC (pVar 1) psN))))
 (sSeq (sAsg 3 (iP (pC (.lst []))))
 (sSeq (sWh (liftB (bP (p2 (nCmp fun i j => decide (j < i)) (pN nLen (psC (pVar 2) psN)) (pC (.int 0)))))
 (sSeq (sAsg 4 (iP (p1 nNeg (pC (.int 1)))))
 (sSeq (sFor (itSeq (iP (pN (flG (.lst .fz) G_first_letters) (psC (pVar 0) (psC (pVar 2) psN))))) (.nm 5)
 (sIf (liftB (bOrP (bP (p2 (nCmp fun i j => decide (i < j)) (pVar 4) (pC (.int 0)))) (bP (p2 (nCmp fun i j => decide (i < j)) (p2 nIx (pVar 2) (pVar 5)) (p2 nIx (pVar 2) (pVar 4)))))) (sAsg 4 (iP (pVar 5)))
 sNx))
 (sEx (iMod 3 gAppend (isC (iMod 2 gPopAt (isC (iP (pVar 4)) isN)) isN))))))
 (sRt (iP (pN nTuple (psC (pVar 3) psN)))))))
def G_least_form : List D → Option D := run0 6 2 .fz sem_least_form
def sem_first_place : SS :=
 (sSeq (sFor (itSeq (iP (pN G_first_letters (psC (pVar 0) (psC (pVar 1) psN))))) (.nm 3)
 (sIf (liftB (bP (p2 nEq (p2 nIx (pVar 1) (pVar 3)) (pVar 2)))) (sRt (iP (pVar 3)))
 sNx))
 (sRt (iP (p1 nNeg (pC (.int 1))))))
def G_first_place : List D → Option D := run0 4 3 .fz sem_first_place
def sem_without : SS :=
 (sRt (iP (p2 nAdd (pN nTuple (psC (pSl nSl (pVar 0) none (some (pVar 1))) psN)) (pN nTuple (psC (pSl nSl (pVar 0) (some (p2 nAdd (pVar 1) (pC (.int 1)))) none) psN)))))
def G_without : List D → Option D := run0 2 2 .fz sem_without
def sem_common_prefix : SS :=
 (sSeq (sAsg 3 (iP (pN nTuple (psC (pVar 1) psN))))
 (sSeq (sAsg 4 (iP (pN nTuple (psC (pVar 2) psN))))
 (sSeq (sAsg 5 (iP (pC (.lst []))))
 (sSeq (sAsg 6 (iP (pC (.int 0))))
 (sSeq (sWh (liftB (bP (p2 (nCmp fun i j => decide (i < j)) (pVar 6) (pN nLen (psC (p1 (nFld 0 1) (pVar 0)) psN)))))
 (sSeq (sAsg 7 (iP (pN G_first_place (psC (pVar 0) (psC (pVar 3) (psC (pVar 6) psN))))))
 (sSeq (sAsg 8 (iP (pN G_first_place (psC (pVar 0) (psC (pVar 4) (psC (pVar 6) psN))))))
 (sIf (liftB (bAndP (bP (p2 (nCmp fun i j => decide (j ≤ i)) (pVar 7) (pC (.int 0)))) (bP (p2 (nCmp fun i j => decide (j ≤ i)) (pVar 8) (pC (.int 0)))))) (sSeq (sEx (iMod 5 gAppend (isC (iP (pVar 6)) isN)))
 (sSeq (sAsg 3 (iP (pN G_without (psC (pVar 3) (psC (pVar 7) psN)))))
 (sSeq (sAsg 4 (iP (pN G_without (psC (pVar 4) (psC (pVar 8) psN)))))
 (sAsg 6 (iP (pC (.int 0)))))))
 (sAug (nI2 (fun i j => i + j)) 6 (iP (pC (.int 1))))))))
 (sRt (iP (pN G_least_form (psC (pVar 0) (psC (pVar 5) psN))))))))))
def G_common_prefix : List D → Option D := run0 9 3 .fz sem_common_prefix
def sem_rest : SS :=
 (sSeq (sAsg 3 (iP (pN nTuple (psC (pVar 2) psN))))
 (sSeq (sFor (itSeq (iP (pVar 1))) (.nm 4)
 (sSeq (sAsg 5 (iP (pN G_first_place (psC (pVar 0) (psC (pVar 3) (psC (pVar 4) psN))))))
 (sSeq (sIf (liftB (bP (p2 (nCmp fun i j => decide (i < j)) (pVar 5) (pC (.int 0))))) (sRt (iP (pC .non)))
 sNx)
 (sAsg 3 (iP (pN G_without (psC (pVar 3) (psC (pVar 5) psN))))))))
 (sRt (iP (pN G_least_form (psC (pVar 0) (psC (pVar 3) psN)))))))
def G_rest : List D → Option D := run0 6 3 .fz sem_rest
def sem_place_word : SS :=
 (sRt (iP (pN nTuple (psC (pComp (ivSeq (pVar 1)) [3] (.nm 3) (bP (p2 nIn (pVar 2) (p2 nIx (p1 (nFld 0 1) (pVar 0)) (pVar 3)))) (pVar 3)) psN))))
def G_place_word : List D → Option D := run0 4 3 .fz sem_place_word
def sem_equivalent : SS :=
 (sSeq (sFor (itN rng1 (isC (iP (p1 (nFld 0 0) (pVar 0))) isN)) (.nm 3)
 (sIf (liftB (bP (p2 nNe (pN G_place_word (psC (pVar 0) (psC (pVar 1) (psC (pVar 3) psN)))) (pN G_place_word (psC (pVar 0) (psC (pVar 2) (psC (pVar 3) psN))))))) (sRt (iP (pC (.bl false))))
 sNx))
 (sRt (iP (pC (.bl true)))))
def G_equivalent : List D → Option D := run0 4 3 .fz sem_equivalent
def sem_crossing : SS :=
 (sSeq (sIf (liftB (bNotP (bP (pN G_equivalent (psC (pVar 0) (psC (p2 nAdd (pN nTuple (psC (pVar 1) psN)) (pN nTuple (psC (pVar 2) psN))) (psC (p2 nAdd (pN nTuple (psC (pVar 3) psN)) (pN nTuple (psC (pVar 4) psN))) psN))))))) (sRt (iP (pC .non)))
 sNx)
 (sSeq (sAsg 5 (iP (pN G_common_prefix (psC (pVar 0) (psC (pVar 1) (psC (pVar 3) psN))))))
 (sSeq (sAsg 6 (iP (pN G_rest (psC (pVar 0) (psC (pVar 5) (psC (pVar 1) psN))))))
 (sSeq (sAsg 7 (iP (pN G_rest (psC (pVar 0) (psC (pVar 5) (psC (pVar 3) psN))))))
 (sRt (iP (pN nTupD (psC (pVar 5) (psC (pVar 6) (psC (pVar 7) (psC (pN G_rest (psC (pVar 0) (psC (pVar 7) (psC (pVar 2) psN)))) psN)))))))))))
def G_crossing : List D → Option D := run0 8 5 .fz sem_crossing
def sem_commute : SS :=
 (sSeq (sAsg 3 (iP (p2 nAdd (pN nTuple (psC (pVar 1) psN)) (pN nTuple (psC (pVar 2) psN)))))
 (sRt (iP (pN G_equivalent (psC (pVar 0) (psC (pVar 3) (psC (p2 nAdd (pN nTuple (psC (pVar 2) psN)) (pN nTuple (psC (pVar 1) psN))) psN)))))))
def G_commute : List D → Option D := run0 4 3 .fz sem_commute
def sem__law_free : SS :=
 (sRt (iP (p2 nEq (pN nLen (psC (pComp (ivSeq (p2 nIx (pVar 0) (pVar 1))) [3] (.nm 3) (bP (p2 nIn (pVar 3) (p2 nIx (pVar 0) (pVar 2)))) (pVar 3)) psN)) (pC (.int 0)))))
def G__law_free : List D → Option D := run0 4 3 .fz sem__law_free
def sem__law_shuffled : SS :=
 (sSeq (sAsg 4 (iP (pN nList (psC (pVar 2) psN))))
 (sSeq (sFor (itN rng1 (isC (iP (pVar 3)) isN)) (.nm 5)
 (sIf (liftB (bP (p2 (nCmp fun i j => decide (j < i)) (pN nLen (psC (pVar 4) psN)) (pC (.int 1))))) (sSeq (sAsg 6 (iCall 0 G__law_take (isC (iP (p2 (nI2 fun i j => i - j) (pN nLen (psC (pVar 4) psN)) (pC (.int 1)))) isN)))
 (sIf (liftB (bP (pN G__law_free (psC (pVar 1) (psC (p2 nIx (pVar 4) (pVar 6)) (psC (p2 nIx (pVar 4) (p2 nAdd (pVar 6) (pC (.int 1)))) psN)))))) (sSeq (sAsg 7 (iP (p2 nIx (pVar 4) (pVar 6))))
 (sSeq (sSet 4 (iP (p2 nIx (pVar 4) (p2 nAdd (pVar 6) (pC (.int 1))))) (iP (pVar 6)))
 (sSet 4 (iP (pVar 7)) (iP (p2 nAdd (pVar 6) (pC (.int 1)))))))
 sNx))
 sNx))
 (sRt (iP (pN nTuple (psC (pVar 4) psN))))))
def G__law_shuffled : D → List D → Option (D × D) := run1 8 4 .fz sem__law_shuffled
def sem__law_place : SS :=
 (sRt (iP (pN nTuple (psC (pComp (ivSeq (pVar 1)) [3] (.nm 3) (bP (p2 nIn (pVar 2) (p2 nIx (pVar 0) (pVar 3)))) (pVar 3)) psN))))
def G__law_place : List D → Option D := run0 4 3 .fz sem__law_place
def sem__law_alike : SS :=
 (sSeq (sFor (itN rng1 (isC (iP (pVar 0)) isN)) (.nm 4)
 (sIf (liftB (bP (p2 nNe (pN G__law_place (psC (pVar 1) (psC (pVar 2) (psC (pVar 4) psN)))) (pN G__law_place (psC (pVar 1) (psC (pVar 3) (psC (pVar 4) psN))))))) (sRt (iP (pC (.bl false))))
 sNx))
 (sRt (iP (pC (.bl true)))))
def G__law_alike : List D → Option D := run0 5 4 .fz sem__law_alike
def sem__law_is_integer : SS :=
 (sRt (iP (pAnd (p1 (nIsi .int) (pVar 0)) (pNot (p1 (nIsi .bool) (pVar 0))))))
def G__law_is_integer : List D → Option D := run0 1 1 .fz sem__law_is_integer
def sem__law_is_word : SS :=
 (sSeq (sIf (liftB (bNotP (bP (p1 (nIsi .tuple) (pVar 0))))) (sRt (iP (pC (.bl false))))
 sNx)
 (sSeq (sFor (itSeq (iP (pVar 0))) (.nm 2)
 (sIf (liftB (bOrP (bNotP (bP (pN G__law_is_integer (psC (pVar 2) psN)))) (bOrP (bP (p2 (nCmp fun i j => decide (i < j)) (pVar 2) (pC (.int 0)))) (bP (p2 (nCmp fun i j => decide (j ≤ i)) (pVar 2) (pVar 1)))))) (sRt (iP (pC (.bl false))))
 sNx))
 (sRt (iP (pC (.bl true))))))
def G__law_is_word : List D → Option D := run0 3 2 .fz sem__law_is_word
def sem__law_least : SS :=
 (sSeq (sAsg 2 (iP (pN nList (psC (pVar 1) psN))))
 (sSeq (sAsg 3 (iP (pC (.lst []))))
 (sSeq (sFor (itN rng1 (isC (iP (pN nLen (psC (pVar 1) psN))) isN)) (.nm 4)
 (sSeq (sAsg 5 (iP (p1 nNeg (pC (.int 1)))))
 (sSeq (sFor (itN rng1 (isC (iP (pN nLen (psC (pVar 2) psN))) isN)) (.nm 6)
 (sSeq (sAsg 7 (iP (pComp (ivN rng1 (psC (pVar 6) psN)) [8] (.nm 8) (bNotP (bP (pN G__law_free (psC (pVar 0) (psC (p2 nIx (pVar 2) (pVar 8)) (psC (p2 nIx (pVar 2) (pVar 6)) psN)))))) (pVar 8))))
 (sIf (liftB (bAndP (bP (p2 nEq (pN nLen (psC (pVar 7) psN)) (pC (.int 0)))) (bOrP (bP (p2 (nCmp fun i j => decide (i < j)) (pVar 5) (pC (.int 0)))) (bP (p2 (nCmp fun i j => decide (i < j)) (p2 nIx (pVar 2) (pVar 6)) (p2 nIx (pVar 2) (pVar 5))))))) (sAsg 5 (iP (pVar 6)))
 sNx)))
 (sSeq (sEx (iMod 3 gAppend (isC (iP (p2 nIx (pVar 2) (pVar 5))) isN)))
 (sAsg 2 (iP (p2 nAdd (pSl nSl (pVar 2) none (some (pVar 5))) (pSl nSl (pVar 2) (some (p2 nAdd (pVar 5) (pC (.int 1)))) none))))))))
 (sRt (iP (pN nTuple (psC (pVar 3) psN)))))))
def G__law_least : List D → Option D := run0 9 2 .fz sem__law_least
def sem_law_19 : SS :=
 (sRt (iP (pC (.bl true))))
def sem_law_18 : SS :=
 (sSeq (sFor (itN rng1 (isC (iP (pC (.int 4))) isN)) (.nm 15)
 (sIf (liftB (bNotP (bP (pN G__law_alike (psC (pVar 2) (psC (pVar 3) (psC (p2 nIx (pVar 14) (pVar 15)) (psC (p2 nIx (pVar 11) (pVar 15)) psN)))))))) (sRt (iP (pC (.bl false))))
 sNx))
 sem_law_19)
def sem_law_17 : SS :=
 (sSeq (sAsg 14 (iP (pN nLstD (psC (p2 nAdd (p2 nIx (pVar 12) (pC (.int 0))) (p2 nIx (pVar 12) (pC (.int 1)))) (psC (p2 nAdd (p2 nIx (pVar 12) (pC (.int 2))) (p2 nIx (pVar 12) (pC (.int 3)))) (psC (p2 nAdd (p2 nIx (pVar 12) (pC (.int 0))) (p2 nIx (pVar 12) (pC (.int 2)))) (psC (p2 nAdd (p2 nIx (pVar 12) (pC (.int 1))) (p2 nIx (pVar 12) (pC (.int 3)))) psN)))))))
 sem_law_18)
def sem_law_16 : SS :=
 (sSeq (sFor (itSeq (iP (p2 nIx (pVar 12) (pC (.int 1))))) (.nm 9)
 (sIf (liftB (bP (p2 (nCmp fun i j => decide (j < i)) (pN nLen (psC (pComp (ivSeq (p2 nIx (pVar 12) (pC (.int 2)))) [10] (.nm 10) (bNotP (bP (pN G__law_free (psC (pVar 3) (psC (pVar 9) (psC (pVar 10) psN)))))) (pVar 10)) psN)) (pC (.int 0))))) (sRt (iP (pC (.bl false))))
 sNx))
 sem_law_17)
def sem_law_15 : SS :=
 (sSeq (sFor (itSeq (iP (pVar 12))) (.nm 9)
 (sIf (liftB (bOrP (bNotP (bP (pN G__law_is_word (psC (pVar 9) (psC (pN nLen (psC (pVar 3) psN)) psN))))) (bP (p2 nNe (pVar 9) (pN G__law_least (psC (pVar 3) (psC (pVar 9) psN))))))) (sRt (iP (pC (.bl false))))
 sNx))
 sem_law_16)
def sem_law_14 : SS :=
 (sSeq (sIf (liftB (bOrP (bNotP (bP (p1 (nIsi .tuple) (pVar 12)))) (bP (p2 nNe (pN nLen (psC (pVar 12) psN)) (pC (.int 4)))))) (sRt (iP (pC (.bl false))))
 sNx)
 sem_law_15)
def sem_law_13 : SS :=
 (sSeq (sIf (liftB (bNotP (bP (pN G__law_alike (psC (pVar 2) (psC (pVar 3) (psC (p2 nAdd (p2 nIx (pVar 11) (pC (.int 0))) (p2 nIx (pVar 11) (pC (.int 1)))) (psC (p2 nAdd (p2 nIx (pVar 11) (pC (.int 2))) (p2 nIx (pVar 11) (pC (.int 3)))) psN)))))))) (sRt (iP (p2 nIsN (pVar 12) (pC .non))))
 sNx)
 sem_law_14)
def sem_law_12 : SS :=
 (sSeq (sIf (liftB (bOrP (bNotP (bP (p1 (nIsi .bool) (pVar 13)))) (bP (p2 nNe (pVar 13) (pN G__law_alike (psC (pVar 2) (psC (pVar 3) (psC (p2 nAdd (p2 nIx (pVar 11) (pC (.int 0))) (p2 nIx (pVar 11) (pC (.int 1)))) (psC (p2 nAdd (p2 nIx (pVar 11) (pC (.int 1))) (p2 nIx (pVar 11) (pC (.int 0)))) psN))))))))) (sRt (iP (pC (.bl false))))
 sNx)
 sem_law_13)
def sem_law_11 : SS :=
 (sSeq (sAsg 13 (iP (pN G_commute (psC (pVar 4) (psC (p2 nIx (pVar 11) (pC (.int 0))) (psC (pN nList (psC (p2 nIx (pVar 11) (pC (.int 1))) psN)) psN))))))
 sem_law_12)
def sem_law_10 : SS :=
 (sSeq (sAsg 12 (iP (pN G_crossing (psC (pVar 4) (psC (p2 nIx (pVar 11) (pC (.int 0))) (psC (pN nList (psC (p2 nIx (pVar 11) (pC (.int 1))) psN)) (psC (p2 nIx (pVar 11) (pC (.int 2))) (psC (p2 nIx (pVar 11) (pC (.int 3))) psN))))))))
 sem_law_11)
def sem_law_9 : SS :=
 (sSeq (sIf (bAndI (liftB (bP (p2 (nCmp fun i j => decide (j < i)) (pN nLen (psC (p2 nIx (pVar 11) (pC (.int 1))) psN)) (pC (.int 0))))) (bI (i2 nEq (iCall 1 G__law_take (isC (iP (pC (.int 5))) isN)) (iP (pC (.int 0)))))) (sSet 11 (i2 nAdd (iP (pSl nSl (p2 nIx (pVar 11) (pC (.int 1))) none (some (p2 (nI2 fun i j => i - j) (pN nLen (psC (p2 nIx (pVar 11) (pC (.int 1))) psN)) (pC (.int 1)))))) (iN nTupD (isC (iCall 1 G__law_take (isC (iP (pN nLen (psC (pVar 3) psN))) isN)) isN))) (iP (pC (.int 1))))
 sNx)
 sem_law_10)
def sem_law_8 : SS :=
 (sSeq (sAsg 11 (iComp (itSeq (iP (pN nTupD (psC (p2 nAdd (pVar 5) (pVar 6)) (psC (p2 nAdd (pVar 7) (pVar 8)) (psC (p2 nAdd (pVar 5) (pVar 7)) (psC (p2 nAdd (pVar 6) (pVar 8)) psN))))))) [9] (.nm 9) iYes (iCall 1 G__law_shuffled (isC (iP (pVar 3)) (isC (iP (pVar 9)) (isC (iP (pC (.int 20))) isN))))))
 sem_law_9)
def sem_law_7 : SS :=
 (sSeq (sIf (bI (i2 nEq (iCall 1 G__law_take (isC (iP (pC (.int 2))) isN)) (iP (pC (.int 0))))) (sAsg 7 (iP (pN nTuple (psC (pComp (ivSeq (pVar 7)) [9] (.nm 9) (bP (p2 nEq (pN nLen (psC (pComp (ivSeq (pVar 6)) [10] (.nm 10) (bNotP (bP (pN G__law_free (psC (pVar 3) (psC (pVar 9) (psC (pVar 10) psN)))))) (pVar 10)) psN)) (pC (.int 0)))) (pVar 9)) psN))))
 sNx)
 sem_law_8)
def sem_law_6 : SS :=
 (sSeq (sAsg 8 (iCall 1 G__law_word (isC (iP (pN nLen (psC (pVar 3) psN))) (isC (iP (pC (.int 6))) isN))))
 sem_law_7)
def sem_law_5 : SS :=
 (sSeq (sAsg 7 (iCall 1 G__law_word (isC (iP (pN nLen (psC (pVar 3) psN))) (isC (iP (pC (.int 6))) isN))))
 sem_law_6)
def sem_law_4 : SS :=
 (sSeq (sAsg 6 (iCall 1 G__law_word (isC (iP (pN nLen (psC (pVar 3) psN))) (isC (iP (pC (.int 6))) isN))))
 sem_law_5)
def sem_law_3 : SS :=
 (sSeq (sAsg 5 (iCall 1 G__law_word (isC (iP (pN nLen (psC (pVar 3) psN))) (isC (iP (pC (.int 6))) isN))))
 sem_law_4)
def sem_law_2 : SS :=
 (sSeq (sAsg 4 (iP (pN (mkObj 0 G_Alphabet___init__) (psC (pVar 2) (psC (pN nList (psC (pVar 3) psN)) psN)))))
 sem_law_3)
def sem_law_1 : SS :=
 (sSeq (sTg (bTup 2 (bsC (bNm 2) (bsC (bNm 3) bsN))) (iCall 1 G__law_alphabet (isC (iP (pC (.int 4))) (isC (iP (pC (.int 6))) isN))))
 sem_law_2)
def sem_law : SS :=
 (sSeq (sAsg 1 (iP (pN G__law_draws (psC (pVar 0) (psC (pC (.int 260)) psN)))))
 sem_law_1)
def G_law : List D → Option D := run0 16 1 .fz sem_law
end Wk33

set_option maxHeartbeats 4100000
/-! M33: crossings. -/
namespace Wk33
open PySem L2 T3 Com
theorem e_draws : G__law_draws = C__law_draws := rfl
theorem e_take : G__law_take = C__law_take := rfl
theorem e_alph : G__law_alphabet = C__law_alphabet := rfl
theorem e_word : G__law_word = C__law_word := rfl
theorem e_shuf : G__law_shuffled = C__law_shuffled := rfl
theorem e_free : G__law_free = C__law_free := rfl
theorem e_init : G_Alphabet___init__ = C_Alphabet___init__ := rfl
theorem e_isw : G__law_is_word = C__law_is_word := rfl
theorem e_alike : G__law_alike = C__law_alike := rfl
theorem e_rest : G_rest = C_rest := rfl
theorem e_cp : G_common_prefix = C_common_prefix := rfl
theorem e_eqv : G_equivalent = C_equivalent := rfl
theorem e_least : G__law_least = C__law_least := rfl
theorem pw_t {L : List (List Int)} {w : List Int} (c : Int) (hw : inR L.length w) (hl : w.length < 1000) : ∀ p : Int, C_place_word [OB c L, TI w, .int p] = some (TI (proj L p w)) := fun p => place_word_tup c p hw (by omega)
theorem inR_app {n : Nat} {u v : List Int} (hu : inR n u) (hv : inR n v) : inR n (u ++ v) := fun x hx => by
  rcases List.mem_append.mp hx with h | h
  · exact hu x h
  · exact hv x h
theorem eqv_t {L : List (List Int)} {u v : List Int} (c : Nat) (hc : c < 100) (hu : inR L.length u) (hv : inR L.length v) (lu : u.length < 1000) (lv : v.length < 1000) : C_equivalent [OB (c : Int) L, TI u, TI v] = some (.bl (eqB L c u v)) :=
  equivalent_spec hc (pw_t _ hu lu) (pw_t _ hv lv)
theorem alike_b {L : List (List Int)} {u v : List Int} (c : Nat) (hc : c < 100) (hu : inR L.length u) (hv : inR L.length v) (lu : u.length < 100000) (lv : v.length < 100000) :
    C__law_alike [.int (c : Int), .lst (LT L), TI u, TI v] = some (.bl (eqB L c u v)) := alike_spec c hc hu hv lu lv
theorem commute_spec {L : List (List Int)} {u v : List Int} (c : Nat) (hc : c < 100) (hu : inR L.length u) (hv : inR L.length v) (l : u.length + v.length < 1000) : G_commute [OB (c : Int) L, TI u, .lst (LI v)] = some (.bl (eqB L c (u ++ v) (v ++ u))) := by
  refine Z_run rfl ?_
  simp -dsimp only [↓Z_seq, ↓Z_pC, ↓Z_v0, ↓Z_vS, ↓Z_iP, ↓Z_p1, ↓Z_p2, ↓Z_i1, ↓Z_i2, ↓Z_psN, ↓Z_psC, ↓Z_isN, ↓Z_isC, ↓Z_pN, ↓Z_iN, ↓Z_bP, ↓Z_bI, ↓Z_liftB, ↓Z_andP, ↓Z_orP, ↓Z_bNotP, ↓Z_andI, ↓Z_orI, ↓Z_bNotI, ↓Z_pAnd, ↓Z_pOr, ↓Z_pNot, ↓Z_iAnd, ↓Z_iOr, ↓Z_iNot, ↓Z_pIf, ↓Z_iIf, ↓Z_pChain, ↓Z_iCall, ↓Z_iMod, ↓Z_ivSeq, ↓Z_itSeq, ↓Z_ivN, ↓Z_itN, ↓Z_sNx, ↓Z_sBk, ↓Z_sCt, ↓Z_if, ↓Z_sAsg, ↓Z_sEx, ↓Z_sRt, ↓Z_sRtN, ↓Z_sRtO, ↓Z_sAug, ↓Z_sTg, ↓Z_sFor, ↓Z_asB, ↓Z_lstOf, ↓Z_set, ↓Z_app2, ↓Z_appK, ↓Z_sPar, X_ex2, ↓Z_whl, ↓Z_no, ↓Z_ite', ↓Z_some, Z_map, ↓Z_pComp, ↓Z_iComp, ↓Z_pSl, pO_none, ↓ZpO_some, ZpO_int, Zx_nx, Zx_rt, Zx_bk, Zx_ct, Zf_nx, Zf_ct, Zf_bk, Zf_rt, Zr_rt, Zr_nx, Zr1_rt, Zr1_nx, wIf_t, wIf_f, wIf_not, sE, List.map_cons, List.map_nil, List.replicate_succ, List.replicate_zero, List.cons_append, List.nil_append, Nat.reduceSub, Nat.reduceAdd, nLen_lst, nLen_tup, nInt_int, nList_lst, nList_tup, nList_scr, nTuple_lst, nTuple_tup, nIx_lst, nIx_tup, seqOf_lst, seqOf_tup, gRev_eq, gPop_eq, nI2_i, nIc_ok, nCmp_i, nAdd_i, nEq_int, nNe_int, nEq_bl, nNe_bl, nEq_TI, nNe_TI, nEq_LI, nNe_LI, nIn_TI, nIn_LI, X_fld, max2, min2, nTupD0, nTupD1, nTupD2, nTupD3, nTupD4, nLstD0, nLstD1, nLstD2, nLstD3, nLstD4, isi_int_int, isi_int_bl, isi_int_tup, isi_int_lst, isi_int_non, isi_int_str, isi_bool_int, isi_bool_bl, isi_bool_tup, isi_bool_lst, isi_bool_non, isi_bool_str, isi_tuple_int, isi_tuple_bl, isi_tuple_tup, isi_tuple_lst, isi_tuple_non, isi_tuple_str, isi_list_int, isi_list_bl, isi_list_tup, isi_list_lst, isi_list_non, isi_list_str, isi_str_int, isi_str_bl, isi_str_tup, isi_str_lst, isi_str_non, isi_str_str, isN_non, notN_non, nonD_non, nonD_int, nonD_bl, nonD_tup, nonD_lst, nonD_str, Z_bTup, Z_bsC, Z_bsN, Z_bNm, Option.bind_some, Option.map_some, List.getElem?_cons_zero, List.getElem?_cons_succ, List.set_cons_zero, List.set_cons_succ, List.length_cons, List.length_nil, id, Bool.not_true, Bool.not_false, List.length_map, List.length_set, decide_true, decide_false, eq_self, if_true, if_false, Bool.false_eq_true, decide_eq_true_eq, not_true_eq_false, not_false_eq_true, true_and, and_true, Int.cast_ofNat_Int, Int.reduceLT, Int.reduceLE, Int.reduceEq, bindT, wipeE, backE, Z_seq, Z_pC, Z_v0, Z_vS, Z_iP, Z_p1, Z_p2, Z_i1, Z_i2, Z_psN, Z_psC, Z_isN, Z_isC, Z_pN, Z_iN, Z_bP, Z_bI, Z_liftB, Z_andP, Z_orP, Z_bNotP, Z_andI, Z_orI, Z_bNotI, Z_pAnd, Z_pOr, Z_pNot, Z_iAnd, Z_iOr, Z_iNot, Z_pIf, Z_iIf, Z_pChain, Z_iCall, Z_iMod, Z_ivSeq, Z_itSeq, Z_ivN, Z_itN, Z_sNx, Z_sBk, Z_sCt, Z_if, Z_sAsg, Z_sEx, Z_sRt, Z_sRtN, Z_sRtO, Z_sAug, Z_sTg, Z_sFor, Z_asB, Z_lstOf, Z_set, Z_app2, Z_appK, Z_sPar, Z_whl, Z_no, Z_ite', Z_some, Z_pComp, Z_iComp, Z_pSl, ZpO_some, ↓Z_forL_nil, ↓Z_forL_cons, ↓Z_compP_nil, ↓Z_compP_cons, ↓Z_compI_nil, ↓Z_compI_cons, ↓Z_bYes, ↓Z_iYes, Z_forL_nil, Z_forL_cons, Z_compP_nil, Z_compP_cons, Z_compI_nil, Z_compI_cons, sem_commute, e_eqv, cat_TI u v (by omega), cat_TI v u (by omega), eqv_t c hc (inR_app hu hv) (inR_app hv hu) (by rw [List.length_append]; omega) (by rw [List.length_append]; omega)]
structure Crs (L : List (List Int)) (x y u v p r s q : List Int) : Prop where
  rp : inR L.length p
  rr : inR L.length r
  rs : inR L.length s
  rq : inR L.length q
  lp : p.length < 100
  lr : r.length < 100
  ls : s.length < 100
  lq : q.length < 100
  fp : ∃ w, Gd L w ∧ Lf L w p
  fr : ∃ w, Gd L w ∧ Lf L w r
  fs : ∃ w, Gd L w ∧ Lf L w s
  fq : ∃ w, Gd L w ∧ Lf L w q
  ind : ∀ a ∈ r, ∀ b ∈ s, indep L a b = true
  ex : Eq_ L (p ++ r) x
  ey : Eq_ L (s ++ q) y
  eu : Eq_ L (p ++ s) u
  ev : Eq_ L (r ++ q) v
theorem crossing_spec {L : List (List Int)} {x y u v : List Int} (c : Nat) (hc : c < 100) (hL : ∀ l ∈ L, GL (c : Int) l) (hn : L.length < 100) (hx : inR L.length x) (hy : inR L.length y) (hu : inR L.length u) (hv : inR L.length v) (lx : x.length < 50) (ly : y.length < 50) (lu : u.length < 50) (lv : v.length < 50) :
    ∃ d, G_crossing [OB (c : Int) L, TI x, .lst (LI y), TI u, TI v] = some d ∧ if eqB L c (x ++ y) (u ++ v) = true then ∃ p r s q, d = .tup [TI p, TI r, TI s, TI q] ∧ Crs L x y u v p r s q else d = .non := by
  have gd : ∀ {w : List Int}, inR L.length w → Gd L w := fun hw z hz => (hL _ (lt_mem (hw z hz).1 (hw z hz).2)).1
  have hxy := inR_app hx hy
  have huv := inR_app hu hv
  refine Z_run0W rfl ?_
  have heq := eqv_t c hc hxy huv (by rw [List.length_append]; omega) (by rw [List.length_append]; omega)
  have hiff := eqB_iff hL hxy huv
  cases hb : eqB L c (x ++ y) (u ++ v) with
  | false =>
    rw [hb] at heq
    simp -dsimp only [↓Z_seq, ↓Z_pC, ↓Z_v0, ↓Z_vS, ↓Z_iP, ↓Z_p1, ↓Z_p2, ↓Z_i1, ↓Z_i2, ↓Z_psN, ↓Z_psC, ↓Z_isN, ↓Z_isC, ↓Z_pN, ↓Z_iN, ↓Z_bP, ↓Z_bI, ↓Z_liftB, ↓Z_andP, ↓Z_orP, ↓Z_bNotP, ↓Z_andI, ↓Z_orI, ↓Z_bNotI, ↓Z_pAnd, ↓Z_pOr, ↓Z_pNot, ↓Z_iAnd, ↓Z_iOr, ↓Z_iNot, ↓Z_pIf, ↓Z_iIf, ↓Z_pChain, ↓Z_iCall, ↓Z_iMod, ↓Z_ivSeq, ↓Z_itSeq, ↓Z_ivN, ↓Z_itN, ↓Z_sNx, ↓Z_sBk, ↓Z_sCt, ↓Z_if, ↓Z_sAsg, ↓Z_sEx, ↓Z_sRt, ↓Z_sRtN, ↓Z_sRtO, ↓Z_sAug, ↓Z_sTg, ↓Z_sFor, ↓Z_asB, ↓Z_lstOf, ↓Z_set, ↓Z_app2, ↓Z_appK, ↓Z_sPar, X_ex2, ↓Z_whl, ↓Z_no, ↓Z_ite', ↓Z_some, Z_map, ↓Z_pComp, ↓Z_iComp, ↓Z_pSl, pO_none, ↓ZpO_some, ZpO_int, Zx_nx, Zx_rt, Zx_bk, Zx_ct, Zf_nx, Zf_ct, Zf_bk, Zf_rt, Zr_rt, Zr_nx, Zr1_rt, Zr1_nx, wIf_t, wIf_f, wIf_not, sE, List.map_cons, List.map_nil, List.replicate_succ, List.replicate_zero, List.cons_append, List.nil_append, Nat.reduceSub, Nat.reduceAdd, nLen_lst, nLen_tup, nInt_int, nList_lst, nList_tup, nList_scr, nTuple_lst, nTuple_tup, nIx_lst, nIx_tup, seqOf_lst, seqOf_tup, gRev_eq, gPop_eq, nI2_i, nIc_ok, nCmp_i, nAdd_i, nEq_int, nNe_int, nEq_bl, nNe_bl, nEq_TI, nNe_TI, nEq_LI, nNe_LI, nIn_TI, nIn_LI, X_fld, max2, min2, nTupD0, nTupD1, nTupD2, nTupD3, nTupD4, nLstD0, nLstD1, nLstD2, nLstD3, nLstD4, isi_int_int, isi_int_bl, isi_int_tup, isi_int_lst, isi_int_non, isi_int_str, isi_bool_int, isi_bool_bl, isi_bool_tup, isi_bool_lst, isi_bool_non, isi_bool_str, isi_tuple_int, isi_tuple_bl, isi_tuple_tup, isi_tuple_lst, isi_tuple_non, isi_tuple_str, isi_list_int, isi_list_bl, isi_list_tup, isi_list_lst, isi_list_non, isi_list_str, isi_str_int, isi_str_bl, isi_str_tup, isi_str_lst, isi_str_non, isi_str_str, isN_non, notN_non, nonD_non, nonD_int, nonD_bl, nonD_tup, nonD_lst, nonD_str, Z_bTup, Z_bsC, Z_bsN, Z_bNm, Option.bind_some, Option.map_some, List.getElem?_cons_zero, List.getElem?_cons_succ, List.set_cons_zero, List.set_cons_succ, List.length_cons, List.length_nil, id, Bool.not_true, Bool.not_false, List.length_map, List.length_set, decide_true, decide_false, eq_self, if_true, if_false, Bool.false_eq_true, decide_eq_true_eq, not_true_eq_false, not_false_eq_true, true_and, and_true, Int.cast_ofNat_Int, Int.reduceLT, Int.reduceLE, Int.reduceEq, bindT, wipeE, backE, Z_seq, Z_pC, Z_v0, Z_vS, Z_iP, Z_p1, Z_p2, Z_i1, Z_i2, Z_psN, Z_psC, Z_isN, Z_isC, Z_pN, Z_iN, Z_bP, Z_bI, Z_liftB, Z_andP, Z_orP, Z_bNotP, Z_andI, Z_orI, Z_bNotI, Z_pAnd, Z_pOr, Z_pNot, Z_iAnd, Z_iOr, Z_iNot, Z_pIf, Z_iIf, Z_pChain, Z_iCall, Z_iMod, Z_ivSeq, Z_itSeq, Z_ivN, Z_itN, Z_sNx, Z_sBk, Z_sCt, Z_if, Z_sAsg, Z_sEx, Z_sRt, Z_sRtN, Z_sRtO, Z_sAug, Z_sTg, Z_sFor, Z_asB, Z_lstOf, Z_set, Z_app2, Z_appK, Z_sPar, Z_whl, Z_no, Z_ite', Z_some, Z_pComp, Z_iComp, Z_pSl, ZpO_some, ↓Z_forL_nil, ↓Z_forL_cons, ↓Z_compP_nil, ↓Z_compP_cons, ↓Z_compI_nil, ↓Z_compI_cons, ↓Z_bYes, ↓Z_iYes, Z_forL_nil, Z_forL_cons, Z_compP_nil, Z_compP_cons, Z_compI_nil, Z_compI_cons, sem_crossing, e_eqv, cat_TI x y (by omega), cat_TI u v (by omega), heq]
  | true =>
    rw [hb] at heq
    have hE := hiff.mp hb
    obtain ⟨f, p, x', u', hcp, hfp, ex, eu, nc, mx', mu', mf, l1, l2⟩ := common_prefix_spec (c := (c : Int)) (xd := TI x) (ud := TI u) rfl rfl hx hu hn (by omega) (by omega)
    have rx' : inR L.length x' := fun z hz => hx z (mx' z hz)
    have ru' : inR L.length u' := fun z hz => hu z (mu' z hz)
    have rf : inR L.length f := fun z hz => hx z (mf z hz)
    have rp : inR L.length p := fun z hz => rf z (hfp.perm.mem_iff.mp hz)
    obtain ⟨dr, hdr, hor⟩ := rest_spec (c := (c : Int)) (fd := TI p) (sd := TI x) rfl rfl hx (gd hx) (gd rp) hn (by omega)
    rcases hor with ⟨_, hno⟩ | ⟨lr, r, rfl, er, hlr, mlr, llr⟩
    · exact absurd ⟨x', ex.trans (Eq_.app hfp.eq (Eq_.refl _))⟩ hno
    obtain ⟨ds, hds, hor⟩ := rest_spec (c := (c : Int)) (fd := TI p) (sd := TI u) rfl rfl hu (gd hu) (gd rp) hn (by omega)
    rcases hor with ⟨_, hno⟩ | ⟨ls, s, rfl, es, hls, mls, lls⟩
    · exact absurd ⟨u', eu.trans (Eq_.app hfp.eq (Eq_.refl _))⟩ hno
    -- what is left
    have exl : Eq_ L lr x' := Eq_.cancel (u := p) (er.symm.trans (ex.trans (Eq_.app hfp.eq (Eq_.refl _))))
    have eul : Eq_ L ls u' := Eq_.cancel (u := p) (es.symm.trans (eu.trans (Eq_.app hfp.eq (Eq_.refl _))))
    have hL2 : Eq_ L (x' ++ y) (u' ++ v) := by
      refine Eq_.cancel (u := f) ?_
      rw [← List.append_assoc, ← List.append_assoc]
      exact (Eq_.app ex.symm (Eq_.refl _)).trans (hE.trans (Eq_.app eu (Eq_.refl _)))
    obtain ⟨hind, q0, ey, ev, _⟩ := levi (gd (inR_app ru' hv)) nc hL2
    have rlr : inR L.length lr := fun z hz => hx z (mlr z hz)
    have rls : inR L.length ls := fun z hz => hu z (mls z hz)
    have rr : inR L.length r := fun z hz => rlr z (hlr.perm.mem_iff.mp hz)
    have rs : inR L.length s := fun z hz => rls z (hls.perm.mem_iff.mp hz)
    have exr : Eq_ L r x' := hlr.eq.symm.trans exl
    have eus : Eq_ L s u' := hls.eq.symm.trans eul
    obtain ⟨dq, hdq, hor⟩ := rest_spec (c := (c : Int)) (fd := TI s) (sd := .lst (LI y)) rfl rfl hy (gd hy) (gd rs) hn (by omega)
    rcases hor with ⟨_, hno⟩ | ⟨lq, q, rfl, eq, hlq, mlq, llq⟩
    · exact absurd ⟨q0, ey.trans (Eq_.app eus.symm (Eq_.refl _))⟩ hno
    have eql : Eq_ L lq q0 := Eq_.cancel (u := s) (eq.symm.trans (ey.trans (Eq_.app eus.symm (Eq_.refl _))))
    have rlq : inR L.length lq := fun z hz => hy z (mlq z hz)
    have rq : inR L.length q := fun z hz => rlq z (hlq.perm.mem_iff.mp hz)
    simp -dsimp only [↓Z_seq, ↓Z_pC, ↓Z_v0, ↓Z_vS, ↓Z_iP, ↓Z_p1, ↓Z_p2, ↓Z_i1, ↓Z_i2, ↓Z_psN, ↓Z_psC, ↓Z_isN, ↓Z_isC, ↓Z_pN, ↓Z_iN, ↓Z_bP, ↓Z_bI, ↓Z_liftB, ↓Z_andP, ↓Z_orP, ↓Z_bNotP, ↓Z_andI, ↓Z_orI, ↓Z_bNotI, ↓Z_pAnd, ↓Z_pOr, ↓Z_pNot, ↓Z_iAnd, ↓Z_iOr, ↓Z_iNot, ↓Z_pIf, ↓Z_iIf, ↓Z_pChain, ↓Z_iCall, ↓Z_iMod, ↓Z_ivSeq, ↓Z_itSeq, ↓Z_ivN, ↓Z_itN, ↓Z_sNx, ↓Z_sBk, ↓Z_sCt, ↓Z_if, ↓Z_sAsg, ↓Z_sEx, ↓Z_sRt, ↓Z_sRtN, ↓Z_sRtO, ↓Z_sAug, ↓Z_sTg, ↓Z_sFor, ↓Z_asB, ↓Z_lstOf, ↓Z_set, ↓Z_app2, ↓Z_appK, ↓Z_sPar, X_ex2, ↓Z_whl, ↓Z_no, ↓Z_ite', ↓Z_some, Z_map, ↓Z_pComp, ↓Z_iComp, ↓Z_pSl, pO_none, ↓ZpO_some, ZpO_int, Zx_nx, Zx_rt, Zx_bk, Zx_ct, Zf_nx, Zf_ct, Zf_bk, Zf_rt, Zr_rt, Zr_nx, Zr1_rt, Zr1_nx, wIf_t, wIf_f, wIf_not, sE, List.map_cons, List.map_nil, List.replicate_succ, List.replicate_zero, List.cons_append, List.nil_append, Nat.reduceSub, Nat.reduceAdd, nLen_lst, nLen_tup, nInt_int, nList_lst, nList_tup, nList_scr, nTuple_lst, nTuple_tup, nIx_lst, nIx_tup, seqOf_lst, seqOf_tup, gRev_eq, gPop_eq, nI2_i, nIc_ok, nCmp_i, nAdd_i, nEq_int, nNe_int, nEq_bl, nNe_bl, nEq_TI, nNe_TI, nEq_LI, nNe_LI, nIn_TI, nIn_LI, X_fld, max2, min2, nTupD0, nTupD1, nTupD2, nTupD3, nTupD4, nLstD0, nLstD1, nLstD2, nLstD3, nLstD4, isi_int_int, isi_int_bl, isi_int_tup, isi_int_lst, isi_int_non, isi_int_str, isi_bool_int, isi_bool_bl, isi_bool_tup, isi_bool_lst, isi_bool_non, isi_bool_str, isi_tuple_int, isi_tuple_bl, isi_tuple_tup, isi_tuple_lst, isi_tuple_non, isi_tuple_str, isi_list_int, isi_list_bl, isi_list_tup, isi_list_lst, isi_list_non, isi_list_str, isi_str_int, isi_str_bl, isi_str_tup, isi_str_lst, isi_str_non, isi_str_str, isN_non, notN_non, nonD_non, nonD_int, nonD_bl, nonD_tup, nonD_lst, nonD_str, Z_bTup, Z_bsC, Z_bsN, Z_bNm, Option.bind_some, Option.map_some, List.getElem?_cons_zero, List.getElem?_cons_succ, List.set_cons_zero, List.set_cons_succ, List.length_cons, List.length_nil, id, Bool.not_true, Bool.not_false, List.length_map, List.length_set, decide_true, decide_false, eq_self, if_true, if_false, Bool.false_eq_true, decide_eq_true_eq, not_true_eq_false, not_false_eq_true, true_and, and_true, Int.cast_ofNat_Int, Int.reduceLT, Int.reduceLE, Int.reduceEq, bindT, wipeE, backE, Z_seq, Z_pC, Z_v0, Z_vS, Z_iP, Z_p1, Z_p2, Z_i1, Z_i2, Z_psN, Z_psC, Z_isN, Z_isC, Z_pN, Z_iN, Z_bP, Z_bI, Z_liftB, Z_andP, Z_orP, Z_bNotP, Z_andI, Z_orI, Z_bNotI, Z_pAnd, Z_pOr, Z_pNot, Z_iAnd, Z_iOr, Z_iNot, Z_pIf, Z_iIf, Z_pChain, Z_iCall, Z_iMod, Z_ivSeq, Z_itSeq, Z_ivN, Z_itN, Z_sNx, Z_sBk, Z_sCt, Z_if, Z_sAsg, Z_sEx, Z_sRt, Z_sRtN, Z_sRtO, Z_sAug, Z_sTg, Z_sFor, Z_asB, Z_lstOf, Z_set, Z_app2, Z_appK, Z_sPar, Z_whl, Z_no, Z_ite', Z_some, Z_pComp, Z_iComp, Z_pSl, ZpO_some, ↓Z_forL_nil, ↓Z_forL_cons, ↓Z_compP_nil, ↓Z_compP_cons, ↓Z_compI_nil, ↓Z_compI_cons, ↓Z_bYes, ↓Z_iYes, Z_forL_nil, Z_forL_cons, Z_compP_nil, Z_compP_cons, Z_compI_nil, Z_compI_cons, sem_crossing, e_eqv, cat_TI x y (by omega), cat_TI u v (by omega), heq, e_cp, hcp, e_rest, hdr, hds, hdq]
    have p1 := hfp.perm.length_eq
    have p2 := hlr.perm.length_eq
    have p3 := hls.perm.length_eq
    have p4 := hlq.perm.length_eq
    refine ⟨p, r, s, q, rfl, rp, rr, rs, rq, by omega, by omega, by omega, by omega, ⟨f, gd rf, hfp⟩, ⟨lr, gd rlr, hlr⟩, ⟨ls, gd rls, hls⟩, ⟨lq, gd rlq, hlq⟩, fun a ha b hb => ?_, ?_, ?_, ?_, ?_⟩
    · exact hind a (exr.mem (gd rr) a ha) b (eus.mem (gd rs) b hb)
    · exact (Eq_.app (Eq_.refl _) hlr.eq.symm).trans er.symm
    · exact (Eq_.app (Eq_.refl _) hlq.eq.symm).trans eq.symm
    · exact (Eq_.app (Eq_.refl _) hls.eq.symm).trans es.symm
    · exact (Eq_.app exr (hlq.eq.symm.trans eql)).trans ev.symm
theorem least_own {L : List (List Int)} {p : List Int} (hp : inR L.length p) (hL : ∀ l ∈ L, l.length < 64) (hl : p.length < 1000) (h : ∃ w, Gd L w ∧ Lf L w p) : C__law_least [.lst (LT L), TI p] = some (TI p) := by
  obtain ⟨w, g, h⟩ := h
  obtain ⟨t, e, ht⟩ := law_least_spec hp hL hl
  rw [e, Lf.self h ht g]

theorem ix0 (a b c d : D) : atI [a, b, c, d] 0 = some a := rfl
theorem ix1 (a b c d : D) : atI [a, b, c, d] 1 = some b := rfl
theorem ix2 (a b c d : D) : atI [a, b, c, d] 2 = some c := rfl
theorem ix3 (a b c d : D) : atI [a, b, c, d] 3 = some d := rfl
theorem st1 (a b c d y : D) : setD (.lst [a, b, c, d]) (.int 1) y = some (.lst [a, y, c, d]) := rfl
theorem r4 : rng1 [.int 4] = some [.int 0, .int 1, .int 2, .int 3] := rfl
theorem tail10 {L : List (List Int)} {x y u v : List Int} (ns : List Int) (dd : D) (c : Nat) (hc : c < 100) (hL : ∀ l ∈ L, GL (c : Int) l) (hn : L.length < 100) (hx : inR L.length x) (hy : inR L.length y) (hu : inR L.length u) (hv : inR L.length v) (lx : x.length < 50) (ly : y.length < 50) (lu : u.length < 50) (lv : v.length < 50) (o5 o6 o7 o8 : Option D) :
    Z (sem_law_10 [some (.scr ns), some dd, some (.int (c : Int)), some (.lst (LT L)), some (OB (c : Int) L), o5, o6, o7, o8, none, none, some (.lst [TI x, TI y, TI u, TI v]), none, none, none, none]) (rtZ .fz fun r => r = .bl true) := by
  have hl64 : ∀ l ∈ L, l.length < 64 := fun l hl => (hL l hl).2.2.1
  obtain ⟨d, hd, hcase⟩ := crossing_spec c hc hL hn hx hy hu hv lx ly lu lv
  have hcm := commute_spec (u := x) (v := y) c hc hx hy (by omega)
  have ha1 := alike_b (u := x ++ y) (v := y ++ x) c hc (inR_app hx hy) (inR_app hy hx) (by rw [List.length_append]; omega) (by rw [List.length_append]; omega)
  have ha2 := alike_b (u := x ++ y) (v := u ++ v) c hc (inR_app hx hy) (inR_app hu hv) (by rw [List.length_append]; omega) (by rw [List.length_append]; omega)
  have c1 := cat_TI x y (by omega)
  have c2 := cat_TI y x (by omega)
  have c3 := cat_TI u v (by omega)
  simp -dsimp only [↓Z_seq, ↓Z_pC, ↓Z_v0, ↓Z_vS, ↓Z_iP, ↓Z_p1, ↓Z_p2, ↓Z_i1, ↓Z_i2, ↓Z_psN, ↓Z_psC, ↓Z_isN, ↓Z_isC, ↓Z_pN, ↓Z_iN, ↓Z_bP, ↓Z_bI, ↓Z_liftB, ↓Z_andP, ↓Z_orP, ↓Z_bNotP, ↓Z_andI, ↓Z_orI, ↓Z_bNotI, ↓Z_pAnd, ↓Z_pOr, ↓Z_pNot, ↓Z_iAnd, ↓Z_iOr, ↓Z_iNot, ↓Z_pIf, ↓Z_iIf, ↓Z_pChain, ↓Z_iCall, ↓Z_iMod, ↓Z_ivSeq, ↓Z_itSeq, ↓Z_ivN, ↓Z_itN, ↓Z_sNx, ↓Z_sBk, ↓Z_sCt, ↓Z_if, ↓Z_sAsg, ↓Z_sEx, ↓Z_sRt, ↓Z_sRtN, ↓Z_sRtO, ↓Z_sAug, ↓Z_sTg, ↓Z_sFor, ↓Z_asB, ↓Z_lstOf, ↓Z_set, ↓Z_app2, ↓Z_appK, ↓Z_sPar, X_ex2, ↓Z_whl, ↓Z_no, ↓Z_ite', ↓Z_some, Z_map, ↓Z_pComp, ↓Z_iComp, ↓Z_pSl, pO_none, ↓ZpO_some, ZpO_int, Zx_nx, Zx_rt, Zx_bk, Zx_ct, Zf_nx, Zf_ct, Zf_bk, Zf_rt, Zr_rt, Zr_nx, Zr1_rt, Zr1_nx, wIf_t, wIf_f, wIf_not, sE, List.map_cons, List.map_nil, List.replicate_succ, List.replicate_zero, List.cons_append, List.nil_append, Nat.reduceSub, Nat.reduceAdd, nLen_lst, nLen_tup, nInt_int, nList_lst, nList_tup, nList_scr, nTuple_lst, nTuple_tup, nIx_lst, nIx_tup, seqOf_lst, seqOf_tup, gRev_eq, gPop_eq, nI2_i, nIc_ok, nCmp_i, nAdd_i, nEq_int, nNe_int, nEq_bl, nNe_bl, nEq_TI, nNe_TI, nEq_LI, nNe_LI, nIn_TI, nIn_LI, X_fld, max2, min2, nTupD0, nTupD1, nTupD2, nTupD3, nTupD4, nLstD0, nLstD1, nLstD2, nLstD3, nLstD4, isi_int_int, isi_int_bl, isi_int_tup, isi_int_lst, isi_int_non, isi_int_str, isi_bool_int, isi_bool_bl, isi_bool_tup, isi_bool_lst, isi_bool_non, isi_bool_str, isi_tuple_int, isi_tuple_bl, isi_tuple_tup, isi_tuple_lst, isi_tuple_non, isi_tuple_str, isi_list_int, isi_list_bl, isi_list_tup, isi_list_lst, isi_list_non, isi_list_str, isi_str_int, isi_str_bl, isi_str_tup, isi_str_lst, isi_str_non, isi_str_str, isN_non, notN_non, nonD_non, nonD_int, nonD_bl, nonD_tup, nonD_lst, nonD_str, Z_bTup, Z_bsC, Z_bsN, Z_bNm, Option.bind_some, Option.map_some, List.getElem?_cons_zero, List.getElem?_cons_succ, List.set_cons_zero, List.set_cons_succ, List.length_cons, List.length_nil, id, Bool.not_true, Bool.not_false, List.length_map, List.length_set, decide_true, decide_false, eq_self, if_true, if_false, Bool.false_eq_true, decide_eq_true_eq, not_true_eq_false, not_false_eq_true, true_and, and_true, Int.cast_ofNat_Int, Int.reduceLT, Int.reduceLE, Int.reduceEq, bindT, wipeE, backE, Z_seq, Z_pC, Z_v0, Z_vS, Z_iP, Z_p1, Z_p2, Z_i1, Z_i2, Z_psN, Z_psC, Z_isN, Z_isC, Z_pN, Z_iN, Z_bP, Z_bI, Z_liftB, Z_andP, Z_orP, Z_bNotP, Z_andI, Z_orI, Z_bNotI, Z_pAnd, Z_pOr, Z_pNot, Z_iAnd, Z_iOr, Z_iNot, Z_pIf, Z_iIf, Z_pChain, Z_iCall, Z_iMod, Z_ivSeq, Z_itSeq, Z_ivN, Z_itN, Z_sNx, Z_sBk, Z_sCt, Z_if, Z_sAsg, Z_sEx, Z_sRt, Z_sRtN, Z_sRtO, Z_sAug, Z_sTg, Z_sFor, Z_asB, Z_lstOf, Z_set, Z_app2, Z_appK, Z_sPar, Z_whl, Z_no, Z_ite', Z_some, Z_pComp, Z_iComp, Z_pSl, ZpO_some, ↓Z_forL_nil, ↓Z_forL_cons, ↓Z_compP_nil, ↓Z_compP_cons, ↓Z_compI_nil, ↓Z_compI_cons, ↓Z_bYes, ↓Z_iYes, Z_forL_nil, Z_forL_cons, Z_compP_nil, Z_compP_cons, Z_compI_nil, Z_compI_cons, sem_law_10, sem_law_11, sem_law_12, sem_law_13, ix0, ix1, ix2, ix3, hd, hcm, e_alike, ha1, ha2, c1, c2, c3]
  cases hb : eqB L c (x ++ y) (u ++ v) with
  | false =>
    rw [hb, if_neg (by decide)] at hcase
    subst hcase
    simp -dsimp only [↓Z_seq, ↓Z_pC, ↓Z_v0, ↓Z_vS, ↓Z_iP, ↓Z_p1, ↓Z_p2, ↓Z_i1, ↓Z_i2, ↓Z_psN, ↓Z_psC, ↓Z_isN, ↓Z_isC, ↓Z_pN, ↓Z_iN, ↓Z_bP, ↓Z_bI, ↓Z_liftB, ↓Z_andP, ↓Z_orP, ↓Z_bNotP, ↓Z_andI, ↓Z_orI, ↓Z_bNotI, ↓Z_pAnd, ↓Z_pOr, ↓Z_pNot, ↓Z_iAnd, ↓Z_iOr, ↓Z_iNot, ↓Z_pIf, ↓Z_iIf, ↓Z_pChain, ↓Z_iCall, ↓Z_iMod, ↓Z_ivSeq, ↓Z_itSeq, ↓Z_ivN, ↓Z_itN, ↓Z_sNx, ↓Z_sBk, ↓Z_sCt, ↓Z_if, ↓Z_sAsg, ↓Z_sEx, ↓Z_sRt, ↓Z_sRtN, ↓Z_sRtO, ↓Z_sAug, ↓Z_sTg, ↓Z_sFor, ↓Z_asB, ↓Z_lstOf, ↓Z_set, ↓Z_app2, ↓Z_appK, ↓Z_sPar, X_ex2, ↓Z_whl, ↓Z_no, ↓Z_ite', ↓Z_some, Z_map, ↓Z_pComp, ↓Z_iComp, ↓Z_pSl, pO_none, ↓ZpO_some, ZpO_int, Zx_nx, Zx_rt, Zx_bk, Zx_ct, Zf_nx, Zf_ct, Zf_bk, Zf_rt, Zr_rt, Zr_nx, Zr1_rt, Zr1_nx, wIf_t, wIf_f, wIf_not, sE, List.map_cons, List.map_nil, List.replicate_succ, List.replicate_zero, List.cons_append, List.nil_append, Nat.reduceSub, Nat.reduceAdd, nLen_lst, nLen_tup, nInt_int, nList_lst, nList_tup, nList_scr, nTuple_lst, nTuple_tup, nIx_lst, nIx_tup, seqOf_lst, seqOf_tup, gRev_eq, gPop_eq, nI2_i, nIc_ok, nCmp_i, nAdd_i, nEq_int, nNe_int, nEq_bl, nNe_bl, nEq_TI, nNe_TI, nEq_LI, nNe_LI, nIn_TI, nIn_LI, X_fld, max2, min2, nTupD0, nTupD1, nTupD2, nTupD3, nTupD4, nLstD0, nLstD1, nLstD2, nLstD3, nLstD4, isi_int_int, isi_int_bl, isi_int_tup, isi_int_lst, isi_int_non, isi_int_str, isi_bool_int, isi_bool_bl, isi_bool_tup, isi_bool_lst, isi_bool_non, isi_bool_str, isi_tuple_int, isi_tuple_bl, isi_tuple_tup, isi_tuple_lst, isi_tuple_non, isi_tuple_str, isi_list_int, isi_list_bl, isi_list_tup, isi_list_lst, isi_list_non, isi_list_str, isi_str_int, isi_str_bl, isi_str_tup, isi_str_lst, isi_str_non, isi_str_str, isN_non, notN_non, nonD_non, nonD_int, nonD_bl, nonD_tup, nonD_lst, nonD_str, Z_bTup, Z_bsC, Z_bsN, Z_bNm, Option.bind_some, Option.map_some, List.getElem?_cons_zero, List.getElem?_cons_succ, List.set_cons_zero, List.set_cons_succ, List.length_cons, List.length_nil, id, Bool.not_true, Bool.not_false, List.length_map, List.length_set, decide_true, decide_false, eq_self, if_true, if_false, Bool.false_eq_true, decide_eq_true_eq, not_true_eq_false, not_false_eq_true, true_and, and_true, Int.cast_ofNat_Int, Int.reduceLT, Int.reduceLE, Int.reduceEq, bindT, wipeE, backE, Z_seq, Z_pC, Z_v0, Z_vS, Z_iP, Z_p1, Z_p2, Z_i1, Z_i2, Z_psN, Z_psC, Z_isN, Z_isC, Z_pN, Z_iN, Z_bP, Z_bI, Z_liftB, Z_andP, Z_orP, Z_bNotP, Z_andI, Z_orI, Z_bNotI, Z_pAnd, Z_pOr, Z_pNot, Z_iAnd, Z_iOr, Z_iNot, Z_pIf, Z_iIf, Z_pChain, Z_iCall, Z_iMod, Z_ivSeq, Z_itSeq, Z_ivN, Z_itN, Z_sNx, Z_sBk, Z_sCt, Z_if, Z_sAsg, Z_sEx, Z_sRt, Z_sRtN, Z_sRtO, Z_sAug, Z_sTg, Z_sFor, Z_asB, Z_lstOf, Z_set, Z_app2, Z_appK, Z_sPar, Z_whl, Z_no, Z_ite', Z_some, Z_pComp, Z_iComp, Z_pSl, ZpO_some, ↓Z_forL_nil, ↓Z_forL_cons, ↓Z_compP_nil, ↓Z_compP_cons, ↓Z_compI_nil, ↓Z_compI_cons, ↓Z_bYes, ↓Z_iYes, Z_forL_nil, Z_forL_cons, Z_compP_nil, Z_compP_cons, Z_compI_nil, Z_compI_cons]
  | true =>
    rw [hb, if_pos rfl] at hcase
    obtain ⟨p, r, s, q, rfl, h⟩ := hcase
    have l1 := h.lp
    have l2 := h.lr
    have l3 := h.ls
    have l4 := h.lq
    have n4 : ¬ ((((([] : List D).length + 1 + 1 + 1 + 1 : Nat)) : Int)) = 5 := by decide
    have w1 := is_word_spec h.rp
    have w2 := is_word_spec h.rr
    have w3 := is_word_spec h.rs
    have w4 := is_word_spec h.rq
    have t1 := least_own h.rp hl64 (by omega) h.fp
    have t2 := least_own h.rr hl64 (by omega) h.fr
    have t3 := least_own h.rs hl64 (by omega) h.fs
    have t4 := least_own h.rq hl64 (by omega) h.fq
    simp -dsimp only [↓Z_seq, ↓Z_pC, ↓Z_v0, ↓Z_vS, ↓Z_iP, ↓Z_p1, ↓Z_p2, ↓Z_i1, ↓Z_i2, ↓Z_psN, ↓Z_psC, ↓Z_isN, ↓Z_isC, ↓Z_pN, ↓Z_iN, ↓Z_bP, ↓Z_bI, ↓Z_liftB, ↓Z_andP, ↓Z_orP, ↓Z_bNotP, ↓Z_andI, ↓Z_orI, ↓Z_bNotI, ↓Z_pAnd, ↓Z_pOr, ↓Z_pNot, ↓Z_iAnd, ↓Z_iOr, ↓Z_iNot, ↓Z_pIf, ↓Z_iIf, ↓Z_pChain, ↓Z_iCall, ↓Z_iMod, ↓Z_ivSeq, ↓Z_itSeq, ↓Z_ivN, ↓Z_itN, ↓Z_sNx, ↓Z_sBk, ↓Z_sCt, ↓Z_if, ↓Z_sAsg, ↓Z_sEx, ↓Z_sRt, ↓Z_sRtN, ↓Z_sRtO, ↓Z_sAug, ↓Z_sTg, ↓Z_sFor, ↓Z_asB, ↓Z_lstOf, ↓Z_set, ↓Z_app2, ↓Z_appK, ↓Z_sPar, X_ex2, ↓Z_whl, ↓Z_no, ↓Z_ite', ↓Z_some, Z_map, ↓Z_pComp, ↓Z_iComp, ↓Z_pSl, pO_none, ↓ZpO_some, ZpO_int, Zx_nx, Zx_rt, Zx_bk, Zx_ct, Zf_nx, Zf_ct, Zf_bk, Zf_rt, Zr_rt, Zr_nx, Zr1_rt, Zr1_nx, wIf_t, wIf_f, wIf_not, sE, List.map_cons, List.map_nil, List.replicate_succ, List.replicate_zero, List.cons_append, List.nil_append, Nat.reduceSub, Nat.reduceAdd, nLen_lst, nLen_tup, nInt_int, nList_lst, nList_tup, nList_scr, nTuple_lst, nTuple_tup, nIx_lst, nIx_tup, seqOf_lst, seqOf_tup, gRev_eq, gPop_eq, nI2_i, nIc_ok, nCmp_i, nAdd_i, nEq_int, nNe_int, nEq_bl, nNe_bl, nEq_TI, nNe_TI, nEq_LI, nNe_LI, nIn_TI, nIn_LI, X_fld, max2, min2, nTupD0, nTupD1, nTupD2, nTupD3, nTupD4, nLstD0, nLstD1, nLstD2, nLstD3, nLstD4, isi_int_int, isi_int_bl, isi_int_tup, isi_int_lst, isi_int_non, isi_int_str, isi_bool_int, isi_bool_bl, isi_bool_tup, isi_bool_lst, isi_bool_non, isi_bool_str, isi_tuple_int, isi_tuple_bl, isi_tuple_tup, isi_tuple_lst, isi_tuple_non, isi_tuple_str, isi_list_int, isi_list_bl, isi_list_tup, isi_list_lst, isi_list_non, isi_list_str, isi_str_int, isi_str_bl, isi_str_tup, isi_str_lst, isi_str_non, isi_str_str, isN_non, notN_non, nonD_non, nonD_int, nonD_bl, nonD_tup, nonD_lst, nonD_str, Z_bTup, Z_bsC, Z_bsN, Z_bNm, Option.bind_some, Option.map_some, List.getElem?_cons_zero, List.getElem?_cons_succ, List.set_cons_zero, List.set_cons_succ, List.length_cons, List.length_nil, id, Bool.not_true, Bool.not_false, List.length_map, List.length_set, decide_true, decide_false, eq_self, if_true, if_false, Bool.false_eq_true, decide_eq_true_eq, not_true_eq_false, not_false_eq_true, true_and, and_true, Int.cast_ofNat_Int, Int.reduceLT, Int.reduceLE, Int.reduceEq, bindT, wipeE, backE, Z_seq, Z_pC, Z_v0, Z_vS, Z_iP, Z_p1, Z_p2, Z_i1, Z_i2, Z_psN, Z_psC, Z_isN, Z_isC, Z_pN, Z_iN, Z_bP, Z_bI, Z_liftB, Z_andP, Z_orP, Z_bNotP, Z_andI, Z_orI, Z_bNotI, Z_pAnd, Z_pOr, Z_pNot, Z_iAnd, Z_iOr, Z_iNot, Z_pIf, Z_iIf, Z_pChain, Z_iCall, Z_iMod, Z_ivSeq, Z_itSeq, Z_ivN, Z_itN, Z_sNx, Z_sBk, Z_sCt, Z_if, Z_sAsg, Z_sEx, Z_sRt, Z_sRtN, Z_sRtO, Z_sAug, Z_sTg, Z_sFor, Z_asB, Z_lstOf, Z_set, Z_app2, Z_appK, Z_sPar, Z_whl, Z_no, Z_ite', Z_some, Z_pComp, Z_iComp, Z_pSl, ZpO_some, ↓Z_forL_nil, ↓Z_forL_cons, ↓Z_compP_nil, ↓Z_compP_cons, ↓Z_compI_nil, ↓Z_compI_cons, ↓Z_bYes, ↓Z_iYes, Z_forL_nil, Z_forL_cons, Z_compP_nil, Z_compP_cons, Z_compI_nil, Z_compI_cons, sem_law_14, sem_law_15, sem_law_16, e_isw, e_least, w1, w2, w3, w4, t1, t2, t3, t4, ix0, ix1, ix2, ix3]
    refine Z_forA D.int r (fun k env => ∃ o, env = [some (.scr ns), some dd, some (.int (c : Int)), some (.lst (LT L)), some (OB (c : Int) L), o5, o6, o7, o8, o, none, some (.lst [TI x, TI y, TI u, TI v]), some (.tup [TI p, TI r, TI s, TI q]), some (.bl (eqB L c (x ++ y) (y ++ x))), none, none]) _ ⟨_, rfl⟩ ?_ ?_
    · rintro k a env hk ⟨o, rfl⟩
      have ham := List.mem_of_getElem? hk
      have har := h.rr a ham
      simp -dsimp only [↓Z_seq, ↓Z_pC, ↓Z_v0, ↓Z_vS, ↓Z_iP, ↓Z_p1, ↓Z_p2, ↓Z_i1, ↓Z_i2, ↓Z_psN, ↓Z_psC, ↓Z_isN, ↓Z_isC, ↓Z_pN, ↓Z_iN, ↓Z_bP, ↓Z_bI, ↓Z_liftB, ↓Z_andP, ↓Z_orP, ↓Z_bNotP, ↓Z_andI, ↓Z_orI, ↓Z_bNotI, ↓Z_pAnd, ↓Z_pOr, ↓Z_pNot, ↓Z_iAnd, ↓Z_iOr, ↓Z_iNot, ↓Z_pIf, ↓Z_iIf, ↓Z_pChain, ↓Z_iCall, ↓Z_iMod, ↓Z_ivSeq, ↓Z_itSeq, ↓Z_ivN, ↓Z_itN, ↓Z_sNx, ↓Z_sBk, ↓Z_sCt, ↓Z_if, ↓Z_sAsg, ↓Z_sEx, ↓Z_sRt, ↓Z_sRtN, ↓Z_sRtO, ↓Z_sAug, ↓Z_sTg, ↓Z_sFor, ↓Z_asB, ↓Z_lstOf, ↓Z_set, ↓Z_app2, ↓Z_appK, ↓Z_sPar, X_ex2, ↓Z_whl, ↓Z_no, ↓Z_ite', ↓Z_some, Z_map, ↓Z_pComp, ↓Z_iComp, ↓Z_pSl, pO_none, ↓ZpO_some, ZpO_int, Zx_nx, Zx_rt, Zx_bk, Zx_ct, Zf_nx, Zf_ct, Zf_bk, Zf_rt, Zr_rt, Zr_nx, Zr1_rt, Zr1_nx, wIf_t, wIf_f, wIf_not, sE, List.map_cons, List.map_nil, List.replicate_succ, List.replicate_zero, List.cons_append, List.nil_append, Nat.reduceSub, Nat.reduceAdd, nLen_lst, nLen_tup, nInt_int, nList_lst, nList_tup, nList_scr, nTuple_lst, nTuple_tup, nIx_lst, nIx_tup, seqOf_lst, seqOf_tup, gRev_eq, gPop_eq, nI2_i, nIc_ok, nCmp_i, nAdd_i, nEq_int, nNe_int, nEq_bl, nNe_bl, nEq_TI, nNe_TI, nEq_LI, nNe_LI, nIn_TI, nIn_LI, X_fld, max2, min2, nTupD0, nTupD1, nTupD2, nTupD3, nTupD4, nLstD0, nLstD1, nLstD2, nLstD3, nLstD4, isi_int_int, isi_int_bl, isi_int_tup, isi_int_lst, isi_int_non, isi_int_str, isi_bool_int, isi_bool_bl, isi_bool_tup, isi_bool_lst, isi_bool_non, isi_bool_str, isi_tuple_int, isi_tuple_bl, isi_tuple_tup, isi_tuple_lst, isi_tuple_non, isi_tuple_str, isi_list_int, isi_list_bl, isi_list_tup, isi_list_lst, isi_list_non, isi_list_str, isi_str_int, isi_str_bl, isi_str_tup, isi_str_lst, isi_str_non, isi_str_str, isN_non, notN_non, nonD_non, nonD_int, nonD_bl, nonD_tup, nonD_lst, nonD_str, Z_bTup, Z_bsC, Z_bsN, Z_bNm, Option.bind_some, Option.map_some, List.getElem?_cons_zero, List.getElem?_cons_succ, List.set_cons_zero, List.set_cons_succ, List.length_cons, List.length_nil, id, Bool.not_true, Bool.not_false, List.length_map, List.length_set, decide_true, decide_false, eq_self, if_true, if_false, Bool.false_eq_true, decide_eq_true_eq, not_true_eq_false, not_false_eq_true, true_and, and_true, Int.cast_ofNat_Int, Int.reduceLT, Int.reduceLE, Int.reduceEq, bindT, wipeE, backE, Z_seq, Z_pC, Z_v0, Z_vS, Z_iP, Z_p1, Z_p2, Z_i1, Z_i2, Z_psN, Z_psC, Z_isN, Z_isC, Z_pN, Z_iN, Z_bP, Z_bI, Z_liftB, Z_andP, Z_orP, Z_bNotP, Z_andI, Z_orI, Z_bNotI, Z_pAnd, Z_pOr, Z_pNot, Z_iAnd, Z_iOr, Z_iNot, Z_pIf, Z_iIf, Z_pChain, Z_iCall, Z_iMod, Z_ivSeq, Z_itSeq, Z_ivN, Z_itN, Z_sNx, Z_sBk, Z_sCt, Z_if, Z_sAsg, Z_sEx, Z_sRt, Z_sRtN, Z_sRtO, Z_sAug, Z_sTg, Z_sFor, Z_asB, Z_lstOf, Z_set, Z_app2, Z_appK, Z_sPar, Z_whl, Z_no, Z_ite', Z_some, Z_pComp, Z_iComp, Z_pSl, ZpO_some, ↓Z_forL_nil, ↓Z_forL_cons, ↓Z_compP_nil, ↓Z_compP_cons, ↓Z_compI_nil, ↓Z_compI_cons, ↓Z_bYes, ↓Z_iYes, Z_forL_nil, Z_forL_cons, Z_compP_nil, Z_compP_cons, Z_compI_nil, Z_compI_cons, ix0, ix1, ix2, ix3]
      refine ⟨size_lt (by omega), Z_cmp D.int (fun b => !indep L a b) D.int (fun b hb => ⟨?_, fun _ => ?_⟩) ?_⟩
      · simp -dsimp only [↓Z_seq, ↓Z_pC, ↓Z_v0, ↓Z_vS, ↓Z_iP, ↓Z_p1, ↓Z_p2, ↓Z_i1, ↓Z_i2, ↓Z_psN, ↓Z_psC, ↓Z_isN, ↓Z_isC, ↓Z_pN, ↓Z_iN, ↓Z_bP, ↓Z_bI, ↓Z_liftB, ↓Z_andP, ↓Z_orP, ↓Z_bNotP, ↓Z_andI, ↓Z_orI, ↓Z_bNotI, ↓Z_pAnd, ↓Z_pOr, ↓Z_pNot, ↓Z_iAnd, ↓Z_iOr, ↓Z_iNot, ↓Z_pIf, ↓Z_iIf, ↓Z_pChain, ↓Z_iCall, ↓Z_iMod, ↓Z_ivSeq, ↓Z_itSeq, ↓Z_ivN, ↓Z_itN, ↓Z_sNx, ↓Z_sBk, ↓Z_sCt, ↓Z_if, ↓Z_sAsg, ↓Z_sEx, ↓Z_sRt, ↓Z_sRtN, ↓Z_sRtO, ↓Z_sAug, ↓Z_sTg, ↓Z_sFor, ↓Z_asB, ↓Z_lstOf, ↓Z_set, ↓Z_app2, ↓Z_appK, ↓Z_sPar, X_ex2, ↓Z_whl, ↓Z_no, ↓Z_ite', ↓Z_some, Z_map, ↓Z_pComp, ↓Z_iComp, ↓Z_pSl, pO_none, ↓ZpO_some, ZpO_int, Zx_nx, Zx_rt, Zx_bk, Zx_ct, Zf_nx, Zf_ct, Zf_bk, Zf_rt, Zr_rt, Zr_nx, Zr1_rt, Zr1_nx, wIf_t, wIf_f, wIf_not, sE, List.map_cons, List.map_nil, List.replicate_succ, List.replicate_zero, List.cons_append, List.nil_append, Nat.reduceSub, Nat.reduceAdd, nLen_lst, nLen_tup, nInt_int, nList_lst, nList_tup, nList_scr, nTuple_lst, nTuple_tup, nIx_lst, nIx_tup, seqOf_lst, seqOf_tup, gRev_eq, gPop_eq, nI2_i, nIc_ok, nCmp_i, nAdd_i, nEq_int, nNe_int, nEq_bl, nNe_bl, nEq_TI, nNe_TI, nEq_LI, nNe_LI, nIn_TI, nIn_LI, X_fld, max2, min2, nTupD0, nTupD1, nTupD2, nTupD3, nTupD4, nLstD0, nLstD1, nLstD2, nLstD3, nLstD4, isi_int_int, isi_int_bl, isi_int_tup, isi_int_lst, isi_int_non, isi_int_str, isi_bool_int, isi_bool_bl, isi_bool_tup, isi_bool_lst, isi_bool_non, isi_bool_str, isi_tuple_int, isi_tuple_bl, isi_tuple_tup, isi_tuple_lst, isi_tuple_non, isi_tuple_str, isi_list_int, isi_list_bl, isi_list_tup, isi_list_lst, isi_list_non, isi_list_str, isi_str_int, isi_str_bl, isi_str_tup, isi_str_lst, isi_str_non, isi_str_str, isN_non, notN_non, nonD_non, nonD_int, nonD_bl, nonD_tup, nonD_lst, nonD_str, Z_bTup, Z_bsC, Z_bsN, Z_bNm, Option.bind_some, Option.map_some, List.getElem?_cons_zero, List.getElem?_cons_succ, List.set_cons_zero, List.set_cons_succ, List.length_cons, List.length_nil, id, Bool.not_true, Bool.not_false, List.length_map, List.length_set, decide_true, decide_false, eq_self, if_true, if_false, Bool.false_eq_true, decide_eq_true_eq, not_true_eq_false, not_false_eq_true, true_and, and_true, Int.cast_ofNat_Int, Int.reduceLT, Int.reduceLE, Int.reduceEq, bindT, wipeE, backE, Z_seq, Z_pC, Z_v0, Z_vS, Z_iP, Z_p1, Z_p2, Z_i1, Z_i2, Z_psN, Z_psC, Z_isN, Z_isC, Z_pN, Z_iN, Z_bP, Z_bI, Z_liftB, Z_andP, Z_orP, Z_bNotP, Z_andI, Z_orI, Z_bNotI, Z_pAnd, Z_pOr, Z_pNot, Z_iAnd, Z_iOr, Z_iNot, Z_pIf, Z_iIf, Z_pChain, Z_iCall, Z_iMod, Z_ivSeq, Z_itSeq, Z_ivN, Z_itN, Z_sNx, Z_sBk, Z_sCt, Z_if, Z_sAsg, Z_sEx, Z_sRt, Z_sRtN, Z_sRtO, Z_sAug, Z_sTg, Z_sFor, Z_asB, Z_lstOf, Z_set, Z_app2, Z_appK, Z_sPar, Z_whl, Z_no, Z_ite', Z_some, Z_pComp, Z_iComp, Z_pSl, ZpO_some, ↓Z_forL_nil, ↓Z_forL_cons, ↓Z_compP_nil, ↓Z_compP_cons, ↓Z_compI_nil, ↓Z_compI_cons, ↓Z_bYes, ↓Z_iYes, Z_forL_nil, Z_forL_cons, Z_compP_nil, Z_compP_cons, Z_compI_nil, Z_compI_cons, e_free, free_spec har (h.rs b hb) (by have := hl64 _ (lt_mem har.1 har.2); omega)]
      · simp -dsimp only [↓Z_seq, ↓Z_pC, ↓Z_v0, ↓Z_vS, ↓Z_iP, ↓Z_p1, ↓Z_p2, ↓Z_i1, ↓Z_i2, ↓Z_psN, ↓Z_psC, ↓Z_isN, ↓Z_isC, ↓Z_pN, ↓Z_iN, ↓Z_bP, ↓Z_bI, ↓Z_liftB, ↓Z_andP, ↓Z_orP, ↓Z_bNotP, ↓Z_andI, ↓Z_orI, ↓Z_bNotI, ↓Z_pAnd, ↓Z_pOr, ↓Z_pNot, ↓Z_iAnd, ↓Z_iOr, ↓Z_iNot, ↓Z_pIf, ↓Z_iIf, ↓Z_pChain, ↓Z_iCall, ↓Z_iMod, ↓Z_ivSeq, ↓Z_itSeq, ↓Z_ivN, ↓Z_itN, ↓Z_sNx, ↓Z_sBk, ↓Z_sCt, ↓Z_if, ↓Z_sAsg, ↓Z_sEx, ↓Z_sRt, ↓Z_sRtN, ↓Z_sRtO, ↓Z_sAug, ↓Z_sTg, ↓Z_sFor, ↓Z_asB, ↓Z_lstOf, ↓Z_set, ↓Z_app2, ↓Z_appK, ↓Z_sPar, X_ex2, ↓Z_whl, ↓Z_no, ↓Z_ite', ↓Z_some, Z_map, ↓Z_pComp, ↓Z_iComp, ↓Z_pSl, pO_none, ↓ZpO_some, ZpO_int, Zx_nx, Zx_rt, Zx_bk, Zx_ct, Zf_nx, Zf_ct, Zf_bk, Zf_rt, Zr_rt, Zr_nx, Zr1_rt, Zr1_nx, wIf_t, wIf_f, wIf_not, sE, List.map_cons, List.map_nil, List.replicate_succ, List.replicate_zero, List.cons_append, List.nil_append, Nat.reduceSub, Nat.reduceAdd, nLen_lst, nLen_tup, nInt_int, nList_lst, nList_tup, nList_scr, nTuple_lst, nTuple_tup, nIx_lst, nIx_tup, seqOf_lst, seqOf_tup, gRev_eq, gPop_eq, nI2_i, nIc_ok, nCmp_i, nAdd_i, nEq_int, nNe_int, nEq_bl, nNe_bl, nEq_TI, nNe_TI, nEq_LI, nNe_LI, nIn_TI, nIn_LI, X_fld, max2, min2, nTupD0, nTupD1, nTupD2, nTupD3, nTupD4, nLstD0, nLstD1, nLstD2, nLstD3, nLstD4, isi_int_int, isi_int_bl, isi_int_tup, isi_int_lst, isi_int_non, isi_int_str, isi_bool_int, isi_bool_bl, isi_bool_tup, isi_bool_lst, isi_bool_non, isi_bool_str, isi_tuple_int, isi_tuple_bl, isi_tuple_tup, isi_tuple_lst, isi_tuple_non, isi_tuple_str, isi_list_int, isi_list_bl, isi_list_tup, isi_list_lst, isi_list_non, isi_list_str, isi_str_int, isi_str_bl, isi_str_tup, isi_str_lst, isi_str_non, isi_str_str, isN_non, notN_non, nonD_non, nonD_int, nonD_bl, nonD_tup, nonD_lst, nonD_str, Z_bTup, Z_bsC, Z_bsN, Z_bNm, Option.bind_some, Option.map_some, List.getElem?_cons_zero, List.getElem?_cons_succ, List.set_cons_zero, List.set_cons_succ, List.length_cons, List.length_nil, id, Bool.not_true, Bool.not_false, List.length_map, List.length_set, decide_true, decide_false, eq_self, if_true, if_false, Bool.false_eq_true, decide_eq_true_eq, not_true_eq_false, not_false_eq_true, true_and, and_true, Int.cast_ofNat_Int, Int.reduceLT, Int.reduceLE, Int.reduceEq, bindT, wipeE, backE, Z_seq, Z_pC, Z_v0, Z_vS, Z_iP, Z_p1, Z_p2, Z_i1, Z_i2, Z_psN, Z_psC, Z_isN, Z_isC, Z_pN, Z_iN, Z_bP, Z_bI, Z_liftB, Z_andP, Z_orP, Z_bNotP, Z_andI, Z_orI, Z_bNotI, Z_pAnd, Z_pOr, Z_pNot, Z_iAnd, Z_iOr, Z_iNot, Z_pIf, Z_iIf, Z_pChain, Z_iCall, Z_iMod, Z_ivSeq, Z_itSeq, Z_ivN, Z_itN, Z_sNx, Z_sBk, Z_sCt, Z_if, Z_sAsg, Z_sEx, Z_sRt, Z_sRtN, Z_sRtO, Z_sAug, Z_sTg, Z_sFor, Z_asB, Z_lstOf, Z_set, Z_app2, Z_appK, Z_sPar, Z_whl, Z_no, Z_ite', Z_some, Z_pComp, Z_iComp, Z_pSl, ZpO_some, ↓Z_forL_nil, ↓Z_forL_cons, ↓Z_compP_nil, ↓Z_compP_cons, ↓Z_compI_nil, ↓Z_compI_cons, ↓Z_bYes, ↓Z_iYes, Z_forL_nil, Z_forL_cons, Z_compP_nil, Z_compP_cons, Z_compI_nil, Z_compI_cons]
      · have e0 : s.filter (fun b => !indep L a b) = [] := List.filter_eq_nil_iff.mpr fun b hb => by rw [h.ind a ham b hb]; decide
        rw [e0]
        have z0 : ¬ (0 : Int) < ((0 : Nat) : Int) := by omega
        simp -dsimp only [↓Z_seq, ↓Z_pC, ↓Z_v0, ↓Z_vS, ↓Z_iP, ↓Z_p1, ↓Z_p2, ↓Z_i1, ↓Z_i2, ↓Z_psN, ↓Z_psC, ↓Z_isN, ↓Z_isC, ↓Z_pN, ↓Z_iN, ↓Z_bP, ↓Z_bI, ↓Z_liftB, ↓Z_andP, ↓Z_orP, ↓Z_bNotP, ↓Z_andI, ↓Z_orI, ↓Z_bNotI, ↓Z_pAnd, ↓Z_pOr, ↓Z_pNot, ↓Z_iAnd, ↓Z_iOr, ↓Z_iNot, ↓Z_pIf, ↓Z_iIf, ↓Z_pChain, ↓Z_iCall, ↓Z_iMod, ↓Z_ivSeq, ↓Z_itSeq, ↓Z_ivN, ↓Z_itN, ↓Z_sNx, ↓Z_sBk, ↓Z_sCt, ↓Z_if, ↓Z_sAsg, ↓Z_sEx, ↓Z_sRt, ↓Z_sRtN, ↓Z_sRtO, ↓Z_sAug, ↓Z_sTg, ↓Z_sFor, ↓Z_asB, ↓Z_lstOf, ↓Z_set, ↓Z_app2, ↓Z_appK, ↓Z_sPar, X_ex2, ↓Z_whl, ↓Z_no, ↓Z_ite', ↓Z_some, Z_map, ↓Z_pComp, ↓Z_iComp, ↓Z_pSl, pO_none, ↓ZpO_some, ZpO_int, Zx_nx, Zx_rt, Zx_bk, Zx_ct, Zf_nx, Zf_ct, Zf_bk, Zf_rt, Zr_rt, Zr_nx, Zr1_rt, Zr1_nx, wIf_t, wIf_f, wIf_not, sE, List.map_cons, List.map_nil, List.replicate_succ, List.replicate_zero, List.cons_append, List.nil_append, Nat.reduceSub, Nat.reduceAdd, nLen_lst, nLen_tup, nInt_int, nList_lst, nList_tup, nList_scr, nTuple_lst, nTuple_tup, nIx_lst, nIx_tup, seqOf_lst, seqOf_tup, gRev_eq, gPop_eq, nI2_i, nIc_ok, nCmp_i, nAdd_i, nEq_int, nNe_int, nEq_bl, nNe_bl, nEq_TI, nNe_TI, nEq_LI, nNe_LI, nIn_TI, nIn_LI, X_fld, max2, min2, nTupD0, nTupD1, nTupD2, nTupD3, nTupD4, nLstD0, nLstD1, nLstD2, nLstD3, nLstD4, isi_int_int, isi_int_bl, isi_int_tup, isi_int_lst, isi_int_non, isi_int_str, isi_bool_int, isi_bool_bl, isi_bool_tup, isi_bool_lst, isi_bool_non, isi_bool_str, isi_tuple_int, isi_tuple_bl, isi_tuple_tup, isi_tuple_lst, isi_tuple_non, isi_tuple_str, isi_list_int, isi_list_bl, isi_list_tup, isi_list_lst, isi_list_non, isi_list_str, isi_str_int, isi_str_bl, isi_str_tup, isi_str_lst, isi_str_non, isi_str_str, isN_non, notN_non, nonD_non, nonD_int, nonD_bl, nonD_tup, nonD_lst, nonD_str, Z_bTup, Z_bsC, Z_bsN, Z_bNm, Option.bind_some, Option.map_some, List.getElem?_cons_zero, List.getElem?_cons_succ, List.set_cons_zero, List.set_cons_succ, List.length_cons, List.length_nil, id, Bool.not_true, Bool.not_false, List.length_map, List.length_set, decide_true, decide_false, eq_self, if_true, if_false, Bool.false_eq_true, decide_eq_true_eq, not_true_eq_false, not_false_eq_true, true_and, and_true, Int.cast_ofNat_Int, Int.reduceLT, Int.reduceLE, Int.reduceEq, bindT, wipeE, backE, Z_seq, Z_pC, Z_v0, Z_vS, Z_iP, Z_p1, Z_p2, Z_i1, Z_i2, Z_psN, Z_psC, Z_isN, Z_isC, Z_pN, Z_iN, Z_bP, Z_bI, Z_liftB, Z_andP, Z_orP, Z_bNotP, Z_andI, Z_orI, Z_bNotI, Z_pAnd, Z_pOr, Z_pNot, Z_iAnd, Z_iOr, Z_iNot, Z_pIf, Z_iIf, Z_pChain, Z_iCall, Z_iMod, Z_ivSeq, Z_itSeq, Z_ivN, Z_itN, Z_sNx, Z_sBk, Z_sCt, Z_if, Z_sAsg, Z_sEx, Z_sRt, Z_sRtN, Z_sRtO, Z_sAug, Z_sTg, Z_sFor, Z_asB, Z_lstOf, Z_set, Z_app2, Z_appK, Z_sPar, Z_whl, Z_no, Z_ite', Z_some, Z_pComp, Z_iComp, Z_pSl, ZpO_some, ↓Z_forL_nil, ↓Z_forL_cons, ↓Z_compP_nil, ↓Z_compP_cons, ↓Z_compI_nil, ↓Z_compI_cons, ↓Z_bYes, ↓Z_iYes, Z_forL_nil, Z_forL_cons, Z_compP_nil, Z_compP_cons, Z_compI_nil, Z_compI_cons, z0]
        exact ⟨_, rfl⟩
    · rintro env ⟨o, rfl⟩
      have a1 := alike_b (u := p ++ r) (v := x) c hc (inR_app h.rp h.rr) hx (by rw [List.length_append]; omega) (by omega)
      have a2 := alike_b (u := s ++ q) (v := y) c hc (inR_app h.rs h.rq) hy (by rw [List.length_append]; omega) (by omega)
      have a3 := alike_b (u := p ++ s) (v := u) c hc (inR_app h.rp h.rs) hu (by rw [List.length_append]; omega) (by omega)
      have a4 := alike_b (u := r ++ q) (v := v) c hc (inR_app h.rr h.rq) hv (by rw [List.length_append]; omega) (by omega)
      have b1 := (eqB_iff hL (inR_app h.rp h.rr) hx).mpr h.ex
      have b2 := (eqB_iff hL (inR_app h.rs h.rq) hy).mpr h.ey
      have b3 := (eqB_iff hL (inR_app h.rp h.rs) hu).mpr h.eu
      have b4 := (eqB_iff hL (inR_app h.rr h.rq) hv).mpr h.ev
      rw [b1] at a1
      rw [b2] at a2
      rw [b3] at a3
      rw [b4] at a4
      simp -dsimp only [↓Z_seq, ↓Z_pC, ↓Z_v0, ↓Z_vS, ↓Z_iP, ↓Z_p1, ↓Z_p2, ↓Z_i1, ↓Z_i2, ↓Z_psN, ↓Z_psC, ↓Z_isN, ↓Z_isC, ↓Z_pN, ↓Z_iN, ↓Z_bP, ↓Z_bI, ↓Z_liftB, ↓Z_andP, ↓Z_orP, ↓Z_bNotP, ↓Z_andI, ↓Z_orI, ↓Z_bNotI, ↓Z_pAnd, ↓Z_pOr, ↓Z_pNot, ↓Z_iAnd, ↓Z_iOr, ↓Z_iNot, ↓Z_pIf, ↓Z_iIf, ↓Z_pChain, ↓Z_iCall, ↓Z_iMod, ↓Z_ivSeq, ↓Z_itSeq, ↓Z_ivN, ↓Z_itN, ↓Z_sNx, ↓Z_sBk, ↓Z_sCt, ↓Z_if, ↓Z_sAsg, ↓Z_sEx, ↓Z_sRt, ↓Z_sRtN, ↓Z_sRtO, ↓Z_sAug, ↓Z_sTg, ↓Z_sFor, ↓Z_asB, ↓Z_lstOf, ↓Z_set, ↓Z_app2, ↓Z_appK, ↓Z_sPar, X_ex2, ↓Z_whl, ↓Z_no, ↓Z_ite', ↓Z_some, Z_map, ↓Z_pComp, ↓Z_iComp, ↓Z_pSl, pO_none, ↓ZpO_some, ZpO_int, Zx_nx, Zx_rt, Zx_bk, Zx_ct, Zf_nx, Zf_ct, Zf_bk, Zf_rt, Zr_rt, Zr_nx, Zr1_rt, Zr1_nx, wIf_t, wIf_f, wIf_not, sE, List.map_cons, List.map_nil, List.replicate_succ, List.replicate_zero, List.cons_append, List.nil_append, Nat.reduceSub, Nat.reduceAdd, nLen_lst, nLen_tup, nInt_int, nList_lst, nList_tup, nList_scr, nTuple_lst, nTuple_tup, nIx_lst, nIx_tup, seqOf_lst, seqOf_tup, gRev_eq, gPop_eq, nI2_i, nIc_ok, nCmp_i, nAdd_i, nEq_int, nNe_int, nEq_bl, nNe_bl, nEq_TI, nNe_TI, nEq_LI, nNe_LI, nIn_TI, nIn_LI, X_fld, max2, min2, nTupD0, nTupD1, nTupD2, nTupD3, nTupD4, nLstD0, nLstD1, nLstD2, nLstD3, nLstD4, isi_int_int, isi_int_bl, isi_int_tup, isi_int_lst, isi_int_non, isi_int_str, isi_bool_int, isi_bool_bl, isi_bool_tup, isi_bool_lst, isi_bool_non, isi_bool_str, isi_tuple_int, isi_tuple_bl, isi_tuple_tup, isi_tuple_lst, isi_tuple_non, isi_tuple_str, isi_list_int, isi_list_bl, isi_list_tup, isi_list_lst, isi_list_non, isi_list_str, isi_str_int, isi_str_bl, isi_str_tup, isi_str_lst, isi_str_non, isi_str_str, isN_non, notN_non, nonD_non, nonD_int, nonD_bl, nonD_tup, nonD_lst, nonD_str, Z_bTup, Z_bsC, Z_bsN, Z_bNm, Option.bind_some, Option.map_some, List.getElem?_cons_zero, List.getElem?_cons_succ, List.set_cons_zero, List.set_cons_succ, List.length_cons, List.length_nil, id, Bool.not_true, Bool.not_false, List.length_map, List.length_set, decide_true, decide_false, eq_self, if_true, if_false, Bool.false_eq_true, decide_eq_true_eq, not_true_eq_false, not_false_eq_true, true_and, and_true, Int.cast_ofNat_Int, Int.reduceLT, Int.reduceLE, Int.reduceEq, bindT, wipeE, backE, Z_seq, Z_pC, Z_v0, Z_vS, Z_iP, Z_p1, Z_p2, Z_i1, Z_i2, Z_psN, Z_psC, Z_isN, Z_isC, Z_pN, Z_iN, Z_bP, Z_bI, Z_liftB, Z_andP, Z_orP, Z_bNotP, Z_andI, Z_orI, Z_bNotI, Z_pAnd, Z_pOr, Z_pNot, Z_iAnd, Z_iOr, Z_iNot, Z_pIf, Z_iIf, Z_pChain, Z_iCall, Z_iMod, Z_ivSeq, Z_itSeq, Z_ivN, Z_itN, Z_sNx, Z_sBk, Z_sCt, Z_if, Z_sAsg, Z_sEx, Z_sRt, Z_sRtN, Z_sRtO, Z_sAug, Z_sTg, Z_sFor, Z_asB, Z_lstOf, Z_set, Z_app2, Z_appK, Z_sPar, Z_whl, Z_no, Z_ite', Z_some, Z_pComp, Z_iComp, Z_pSl, ZpO_some, ↓Z_forL_nil, ↓Z_forL_cons, ↓Z_compP_nil, ↓Z_compP_cons, ↓Z_compI_nil, ↓Z_compI_cons, ↓Z_bYes, ↓Z_iYes, Z_forL_nil, Z_forL_cons, Z_compP_nil, Z_compP_cons, Z_compI_nil, Z_compI_cons, sem_law_17, sem_law_18, sem_law_19, ix0, ix1, ix2, ix3, cat_TI p r (by omega), cat_TI s q (by omega), cat_TI p s (by omega), cat_TI r q (by omega), r4, e_alike, a1, a2, a3, a4]

theorem law_true : ∀ ns : List Int, ns.length ≤ 63 → G_law [.scr ns] = some (.bl true) := by
  intro ns _
  refine Z_run rfl ?_
  simp -dsimp only [↓Z_seq, ↓Z_pC, ↓Z_v0, ↓Z_vS, ↓Z_iP, ↓Z_p1, ↓Z_p2, ↓Z_i1, ↓Z_i2, ↓Z_psN, ↓Z_psC, ↓Z_isN, ↓Z_isC, ↓Z_pN, ↓Z_iN, ↓Z_bP, ↓Z_bI, ↓Z_liftB, ↓Z_andP, ↓Z_orP, ↓Z_bNotP, ↓Z_andI, ↓Z_orI, ↓Z_bNotI, ↓Z_pAnd, ↓Z_pOr, ↓Z_pNot, ↓Z_iAnd, ↓Z_iOr, ↓Z_iNot, ↓Z_pIf, ↓Z_iIf, ↓Z_pChain, ↓Z_iCall, ↓Z_iMod, ↓Z_ivSeq, ↓Z_itSeq, ↓Z_ivN, ↓Z_itN, ↓Z_sNx, ↓Z_sBk, ↓Z_sCt, ↓Z_if, ↓Z_sAsg, ↓Z_sEx, ↓Z_sRt, ↓Z_sRtN, ↓Z_sRtO, ↓Z_sAug, ↓Z_sTg, ↓Z_sFor, ↓Z_asB, ↓Z_lstOf, ↓Z_set, ↓Z_app2, ↓Z_appK, ↓Z_sPar, X_ex2, ↓Z_whl, ↓Z_no, ↓Z_ite', ↓Z_some, Z_map, ↓Z_pComp, ↓Z_iComp, ↓Z_pSl, pO_none, ↓ZpO_some, ZpO_int, Zx_nx, Zx_rt, Zx_bk, Zx_ct, Zf_nx, Zf_ct, Zf_bk, Zf_rt, Zr_rt, Zr_nx, Zr1_rt, Zr1_nx, wIf_t, wIf_f, wIf_not, sE, List.map_cons, List.map_nil, List.replicate_succ, List.replicate_zero, List.cons_append, List.nil_append, Nat.reduceSub, Nat.reduceAdd, nLen_lst, nLen_tup, nInt_int, nList_lst, nList_tup, nList_scr, nTuple_lst, nTuple_tup, nIx_lst, nIx_tup, seqOf_lst, seqOf_tup, gRev_eq, gPop_eq, nI2_i, nIc_ok, nCmp_i, nAdd_i, nEq_int, nNe_int, nEq_bl, nNe_bl, nEq_TI, nNe_TI, nEq_LI, nNe_LI, nIn_TI, nIn_LI, X_fld, max2, min2, nTupD0, nTupD1, nTupD2, nTupD3, nTupD4, nLstD0, nLstD1, nLstD2, nLstD3, nLstD4, isi_int_int, isi_int_bl, isi_int_tup, isi_int_lst, isi_int_non, isi_int_str, isi_bool_int, isi_bool_bl, isi_bool_tup, isi_bool_lst, isi_bool_non, isi_bool_str, isi_tuple_int, isi_tuple_bl, isi_tuple_tup, isi_tuple_lst, isi_tuple_non, isi_tuple_str, isi_list_int, isi_list_bl, isi_list_tup, isi_list_lst, isi_list_non, isi_list_str, isi_str_int, isi_str_bl, isi_str_tup, isi_str_lst, isi_str_non, isi_str_str, isN_non, notN_non, nonD_non, nonD_int, nonD_bl, nonD_tup, nonD_lst, nonD_str, Z_bTup, Z_bsC, Z_bsN, Z_bNm, Option.bind_some, Option.map_some, List.getElem?_cons_zero, List.getElem?_cons_succ, List.set_cons_zero, List.set_cons_succ, List.length_cons, List.length_nil, id, Bool.not_true, Bool.not_false, List.length_map, List.length_set, decide_true, decide_false, eq_self, if_true, if_false, Bool.false_eq_true, decide_eq_true_eq, not_true_eq_false, not_false_eq_true, true_and, and_true, Int.cast_ofNat_Int, Int.reduceLT, Int.reduceLE, Int.reduceEq, bindT, wipeE, backE, Z_seq, Z_pC, Z_v0, Z_vS, Z_iP, Z_p1, Z_p2, Z_i1, Z_i2, Z_psN, Z_psC, Z_isN, Z_isC, Z_pN, Z_iN, Z_bP, Z_bI, Z_liftB, Z_andP, Z_orP, Z_bNotP, Z_andI, Z_orI, Z_bNotI, Z_pAnd, Z_pOr, Z_pNot, Z_iAnd, Z_iOr, Z_iNot, Z_pIf, Z_iIf, Z_pChain, Z_iCall, Z_iMod, Z_ivSeq, Z_itSeq, Z_ivN, Z_itN, Z_sNx, Z_sBk, Z_sCt, Z_if, Z_sAsg, Z_sEx, Z_sRt, Z_sRtN, Z_sRtO, Z_sAug, Z_sTg, Z_sFor, Z_asB, Z_lstOf, Z_set, Z_app2, Z_appK, Z_sPar, Z_whl, Z_no, Z_ite', Z_some, Z_pComp, Z_iComp, Z_pSl, ZpO_some, ↓Z_forL_nil, ↓Z_forL_cons, ↓Z_compP_nil, ↓Z_compP_cons, ↓Z_compI_nil, ↓Z_compI_cons, ↓Z_bYes, ↓Z_iYes, Z_forL_nil, Z_forL_cons, Z_compP_nil, Z_compP_cons, Z_compI_nil, Z_compI_cons, sem_law, e_draws]
  refine W.mono (draws_spec ns (n := 260) (by omega) (by omega)) fun d0 hd0 => ?_
  simp -dsimp only [↓Z_seq, ↓Z_pC, ↓Z_v0, ↓Z_vS, ↓Z_iP, ↓Z_p1, ↓Z_p2, ↓Z_i1, ↓Z_i2, ↓Z_psN, ↓Z_psC, ↓Z_isN, ↓Z_isC, ↓Z_pN, ↓Z_iN, ↓Z_bP, ↓Z_bI, ↓Z_liftB, ↓Z_andP, ↓Z_orP, ↓Z_bNotP, ↓Z_andI, ↓Z_orI, ↓Z_bNotI, ↓Z_pAnd, ↓Z_pOr, ↓Z_pNot, ↓Z_iAnd, ↓Z_iOr, ↓Z_iNot, ↓Z_pIf, ↓Z_iIf, ↓Z_pChain, ↓Z_iCall, ↓Z_iMod, ↓Z_ivSeq, ↓Z_itSeq, ↓Z_ivN, ↓Z_itN, ↓Z_sNx, ↓Z_sBk, ↓Z_sCt, ↓Z_if, ↓Z_sAsg, ↓Z_sEx, ↓Z_sRt, ↓Z_sRtN, ↓Z_sRtO, ↓Z_sAug, ↓Z_sTg, ↓Z_sFor, ↓Z_asB, ↓Z_lstOf, ↓Z_set, ↓Z_app2, ↓Z_appK, ↓Z_sPar, X_ex2, ↓Z_whl, ↓Z_no, ↓Z_ite', ↓Z_some, Z_map, ↓Z_pComp, ↓Z_iComp, ↓Z_pSl, pO_none, ↓ZpO_some, ZpO_int, Zx_nx, Zx_rt, Zx_bk, Zx_ct, Zf_nx, Zf_ct, Zf_bk, Zf_rt, Zr_rt, Zr_nx, Zr1_rt, Zr1_nx, wIf_t, wIf_f, wIf_not, sE, List.map_cons, List.map_nil, List.replicate_succ, List.replicate_zero, List.cons_append, List.nil_append, Nat.reduceSub, Nat.reduceAdd, nLen_lst, nLen_tup, nInt_int, nList_lst, nList_tup, nList_scr, nTuple_lst, nTuple_tup, nIx_lst, nIx_tup, seqOf_lst, seqOf_tup, gRev_eq, gPop_eq, nI2_i, nIc_ok, nCmp_i, nAdd_i, nEq_int, nNe_int, nEq_bl, nNe_bl, nEq_TI, nNe_TI, nEq_LI, nNe_LI, nIn_TI, nIn_LI, X_fld, max2, min2, nTupD0, nTupD1, nTupD2, nTupD3, nTupD4, nLstD0, nLstD1, nLstD2, nLstD3, nLstD4, isi_int_int, isi_int_bl, isi_int_tup, isi_int_lst, isi_int_non, isi_int_str, isi_bool_int, isi_bool_bl, isi_bool_tup, isi_bool_lst, isi_bool_non, isi_bool_str, isi_tuple_int, isi_tuple_bl, isi_tuple_tup, isi_tuple_lst, isi_tuple_non, isi_tuple_str, isi_list_int, isi_list_bl, isi_list_tup, isi_list_lst, isi_list_non, isi_list_str, isi_str_int, isi_str_bl, isi_str_tup, isi_str_lst, isi_str_non, isi_str_str, isN_non, notN_non, nonD_non, nonD_int, nonD_bl, nonD_tup, nonD_lst, nonD_str, Z_bTup, Z_bsC, Z_bsN, Z_bNm, Option.bind_some, Option.map_some, List.getElem?_cons_zero, List.getElem?_cons_succ, List.set_cons_zero, List.set_cons_succ, List.length_cons, List.length_nil, id, Bool.not_true, Bool.not_false, List.length_map, List.length_set, decide_true, decide_false, eq_self, if_true, if_false, Bool.false_eq_true, decide_eq_true_eq, not_true_eq_false, not_false_eq_true, true_and, and_true, Int.cast_ofNat_Int, Int.reduceLT, Int.reduceLE, Int.reduceEq, bindT, wipeE, backE, Z_seq, Z_pC, Z_v0, Z_vS, Z_iP, Z_p1, Z_p2, Z_i1, Z_i2, Z_psN, Z_psC, Z_isN, Z_isC, Z_pN, Z_iN, Z_bP, Z_bI, Z_liftB, Z_andP, Z_orP, Z_bNotP, Z_andI, Z_orI, Z_bNotI, Z_pAnd, Z_pOr, Z_pNot, Z_iAnd, Z_iOr, Z_iNot, Z_pIf, Z_iIf, Z_pChain, Z_iCall, Z_iMod, Z_ivSeq, Z_itSeq, Z_ivN, Z_itN, Z_sNx, Z_sBk, Z_sCt, Z_if, Z_sAsg, Z_sEx, Z_sRt, Z_sRtN, Z_sRtO, Z_sAug, Z_sTg, Z_sFor, Z_asB, Z_lstOf, Z_set, Z_app2, Z_appK, Z_sPar, Z_whl, Z_no, Z_ite', Z_some, Z_pComp, Z_iComp, Z_pSl, ZpO_some, ↓Z_forL_nil, ↓Z_forL_cons, ↓Z_compP_nil, ↓Z_compP_cons, ↓Z_compI_nil, ↓Z_compI_cons, ↓Z_bYes, ↓Z_iYes, Z_forL_nil, Z_forL_cons, Z_compP_nil, Z_compP_cons, Z_compI_nil, Z_compI_cons, sem_law_1, e_alph]
  refine W.mono (alphabet_spec hd0 (p := 4) (m := 6) (by omega) (by omega) (by omega)) ?_
  rintro ⟨_, d1⟩ ⟨c, L, rfl, hd1, c1, c4, l1, l6, hL⟩
  obtain ⟨cn, rfl⟩ : ∃ n : Nat, c = (n : Int) := ⟨c.toNat, by omega⟩
  have hd1 : Dr d1 := hd1
  have hal : AL (cn : Int) L := ⟨c1, c4, l1, by omega, hL⟩
  have hlp : (0 : Int) < (L.length : Nat) := by omega
  have hl64 : ∀ l ∈ L, l.length < 64 := fun l hl => (hL l hl).2.2.1
  simp -dsimp only [↓Z_seq, ↓Z_pC, ↓Z_v0, ↓Z_vS, ↓Z_iP, ↓Z_p1, ↓Z_p2, ↓Z_i1, ↓Z_i2, ↓Z_psN, ↓Z_psC, ↓Z_isN, ↓Z_isC, ↓Z_pN, ↓Z_iN, ↓Z_bP, ↓Z_bI, ↓Z_liftB, ↓Z_andP, ↓Z_orP, ↓Z_bNotP, ↓Z_andI, ↓Z_orI, ↓Z_bNotI, ↓Z_pAnd, ↓Z_pOr, ↓Z_pNot, ↓Z_iAnd, ↓Z_iOr, ↓Z_iNot, ↓Z_pIf, ↓Z_iIf, ↓Z_pChain, ↓Z_iCall, ↓Z_iMod, ↓Z_ivSeq, ↓Z_itSeq, ↓Z_ivN, ↓Z_itN, ↓Z_sNx, ↓Z_sBk, ↓Z_sCt, ↓Z_if, ↓Z_sAsg, ↓Z_sEx, ↓Z_sRt, ↓Z_sRtN, ↓Z_sRtO, ↓Z_sAug, ↓Z_sTg, ↓Z_sFor, ↓Z_asB, ↓Z_lstOf, ↓Z_set, ↓Z_app2, ↓Z_appK, ↓Z_sPar, X_ex2, ↓Z_whl, ↓Z_no, ↓Z_ite', ↓Z_some, Z_map, ↓Z_pComp, ↓Z_iComp, ↓Z_pSl, pO_none, ↓ZpO_some, ZpO_int, Zx_nx, Zx_rt, Zx_bk, Zx_ct, Zf_nx, Zf_ct, Zf_bk, Zf_rt, Zr_rt, Zr_nx, Zr1_rt, Zr1_nx, wIf_t, wIf_f, wIf_not, sE, List.map_cons, List.map_nil, List.replicate_succ, List.replicate_zero, List.cons_append, List.nil_append, Nat.reduceSub, Nat.reduceAdd, nLen_lst, nLen_tup, nInt_int, nList_lst, nList_tup, nList_scr, nTuple_lst, nTuple_tup, nIx_lst, nIx_tup, seqOf_lst, seqOf_tup, gRev_eq, gPop_eq, nI2_i, nIc_ok, nCmp_i, nAdd_i, nEq_int, nNe_int, nEq_bl, nNe_bl, nEq_TI, nNe_TI, nEq_LI, nNe_LI, nIn_TI, nIn_LI, X_fld, max2, min2, nTupD0, nTupD1, nTupD2, nTupD3, nTupD4, nLstD0, nLstD1, nLstD2, nLstD3, nLstD4, isi_int_int, isi_int_bl, isi_int_tup, isi_int_lst, isi_int_non, isi_int_str, isi_bool_int, isi_bool_bl, isi_bool_tup, isi_bool_lst, isi_bool_non, isi_bool_str, isi_tuple_int, isi_tuple_bl, isi_tuple_tup, isi_tuple_lst, isi_tuple_non, isi_tuple_str, isi_list_int, isi_list_bl, isi_list_tup, isi_list_lst, isi_list_non, isi_list_str, isi_str_int, isi_str_bl, isi_str_tup, isi_str_lst, isi_str_non, isi_str_str, isN_non, notN_non, nonD_non, nonD_int, nonD_bl, nonD_tup, nonD_lst, nonD_str, Z_bTup, Z_bsC, Z_bsN, Z_bNm, Option.bind_some, Option.map_some, List.getElem?_cons_zero, List.getElem?_cons_succ, List.set_cons_zero, List.set_cons_succ, List.length_cons, List.length_nil, id, Bool.not_true, Bool.not_false, List.length_map, List.length_set, decide_true, decide_false, eq_self, if_true, if_false, Bool.false_eq_true, decide_eq_true_eq, not_true_eq_false, not_false_eq_true, true_and, and_true, Int.cast_ofNat_Int, Int.reduceLT, Int.reduceLE, Int.reduceEq, bindT, wipeE, backE, Z_seq, Z_pC, Z_v0, Z_vS, Z_iP, Z_p1, Z_p2, Z_i1, Z_i2, Z_psN, Z_psC, Z_isN, Z_isC, Z_pN, Z_iN, Z_bP, Z_bI, Z_liftB, Z_andP, Z_orP, Z_bNotP, Z_andI, Z_orI, Z_bNotI, Z_pAnd, Z_pOr, Z_pNot, Z_iAnd, Z_iOr, Z_iNot, Z_pIf, Z_iIf, Z_pChain, Z_iCall, Z_iMod, Z_ivSeq, Z_itSeq, Z_ivN, Z_itN, Z_sNx, Z_sBk, Z_sCt, Z_if, Z_sAsg, Z_sEx, Z_sRt, Z_sRtN, Z_sRtO, Z_sAug, Z_sTg, Z_sFor, Z_asB, Z_lstOf, Z_set, Z_app2, Z_appK, Z_sPar, Z_whl, Z_no, Z_ite', Z_some, Z_pComp, Z_iComp, Z_pSl, ZpO_some, ↓Z_forL_nil, ↓Z_forL_cons, ↓Z_compP_nil, ↓Z_compP_cons, ↓Z_compI_nil, ↓Z_compI_cons, ↓Z_bYes, ↓Z_iYes, Z_forL_nil, Z_forL_cons, Z_compP_nil, Z_compP_cons, Z_compI_nil, Z_compI_cons, sem_law_2, e_init, alphabet_mk hal, sem_law_3, e_word]
  refine W.mono (word_spec hd1 (m := 6) hlp (by omega) (by omega)) ?_
  rintro ⟨_, d2⟩ ⟨p, rfl, hd2, lp, hp⟩
  have hd2 : Dr d2 := hd2
  simp -dsimp only [↓Z_seq, ↓Z_pC, ↓Z_v0, ↓Z_vS, ↓Z_iP, ↓Z_p1, ↓Z_p2, ↓Z_i1, ↓Z_i2, ↓Z_psN, ↓Z_psC, ↓Z_isN, ↓Z_isC, ↓Z_pN, ↓Z_iN, ↓Z_bP, ↓Z_bI, ↓Z_liftB, ↓Z_andP, ↓Z_orP, ↓Z_bNotP, ↓Z_andI, ↓Z_orI, ↓Z_bNotI, ↓Z_pAnd, ↓Z_pOr, ↓Z_pNot, ↓Z_iAnd, ↓Z_iOr, ↓Z_iNot, ↓Z_pIf, ↓Z_iIf, ↓Z_pChain, ↓Z_iCall, ↓Z_iMod, ↓Z_ivSeq, ↓Z_itSeq, ↓Z_ivN, ↓Z_itN, ↓Z_sNx, ↓Z_sBk, ↓Z_sCt, ↓Z_if, ↓Z_sAsg, ↓Z_sEx, ↓Z_sRt, ↓Z_sRtN, ↓Z_sRtO, ↓Z_sAug, ↓Z_sTg, ↓Z_sFor, ↓Z_asB, ↓Z_lstOf, ↓Z_set, ↓Z_app2, ↓Z_appK, ↓Z_sPar, X_ex2, ↓Z_whl, ↓Z_no, ↓Z_ite', ↓Z_some, Z_map, ↓Z_pComp, ↓Z_iComp, ↓Z_pSl, pO_none, ↓ZpO_some, ZpO_int, Zx_nx, Zx_rt, Zx_bk, Zx_ct, Zf_nx, Zf_ct, Zf_bk, Zf_rt, Zr_rt, Zr_nx, Zr1_rt, Zr1_nx, wIf_t, wIf_f, wIf_not, sE, List.map_cons, List.map_nil, List.replicate_succ, List.replicate_zero, List.cons_append, List.nil_append, Nat.reduceSub, Nat.reduceAdd, nLen_lst, nLen_tup, nInt_int, nList_lst, nList_tup, nList_scr, nTuple_lst, nTuple_tup, nIx_lst, nIx_tup, seqOf_lst, seqOf_tup, gRev_eq, gPop_eq, nI2_i, nIc_ok, nCmp_i, nAdd_i, nEq_int, nNe_int, nEq_bl, nNe_bl, nEq_TI, nNe_TI, nEq_LI, nNe_LI, nIn_TI, nIn_LI, X_fld, max2, min2, nTupD0, nTupD1, nTupD2, nTupD3, nTupD4, nLstD0, nLstD1, nLstD2, nLstD3, nLstD4, isi_int_int, isi_int_bl, isi_int_tup, isi_int_lst, isi_int_non, isi_int_str, isi_bool_int, isi_bool_bl, isi_bool_tup, isi_bool_lst, isi_bool_non, isi_bool_str, isi_tuple_int, isi_tuple_bl, isi_tuple_tup, isi_tuple_lst, isi_tuple_non, isi_tuple_str, isi_list_int, isi_list_bl, isi_list_tup, isi_list_lst, isi_list_non, isi_list_str, isi_str_int, isi_str_bl, isi_str_tup, isi_str_lst, isi_str_non, isi_str_str, isN_non, notN_non, nonD_non, nonD_int, nonD_bl, nonD_tup, nonD_lst, nonD_str, Z_bTup, Z_bsC, Z_bsN, Z_bNm, Option.bind_some, Option.map_some, List.getElem?_cons_zero, List.getElem?_cons_succ, List.set_cons_zero, List.set_cons_succ, List.length_cons, List.length_nil, id, Bool.not_true, Bool.not_false, List.length_map, List.length_set, decide_true, decide_false, eq_self, if_true, if_false, Bool.false_eq_true, decide_eq_true_eq, not_true_eq_false, not_false_eq_true, true_and, and_true, Int.cast_ofNat_Int, Int.reduceLT, Int.reduceLE, Int.reduceEq, bindT, wipeE, backE, Z_seq, Z_pC, Z_v0, Z_vS, Z_iP, Z_p1, Z_p2, Z_i1, Z_i2, Z_psN, Z_psC, Z_isN, Z_isC, Z_pN, Z_iN, Z_bP, Z_bI, Z_liftB, Z_andP, Z_orP, Z_bNotP, Z_andI, Z_orI, Z_bNotI, Z_pAnd, Z_pOr, Z_pNot, Z_iAnd, Z_iOr, Z_iNot, Z_pIf, Z_iIf, Z_pChain, Z_iCall, Z_iMod, Z_ivSeq, Z_itSeq, Z_ivN, Z_itN, Z_sNx, Z_sBk, Z_sCt, Z_if, Z_sAsg, Z_sEx, Z_sRt, Z_sRtN, Z_sRtO, Z_sAug, Z_sTg, Z_sFor, Z_asB, Z_lstOf, Z_set, Z_app2, Z_appK, Z_sPar, Z_whl, Z_no, Z_ite', Z_some, Z_pComp, Z_iComp, Z_pSl, ZpO_some, ↓Z_forL_nil, ↓Z_forL_cons, ↓Z_compP_nil, ↓Z_compP_cons, ↓Z_compI_nil, ↓Z_compI_cons, ↓Z_bYes, ↓Z_iYes, Z_forL_nil, Z_forL_cons, Z_compP_nil, Z_compP_cons, Z_compI_nil, Z_compI_cons, sem_law_4, e_word]
  refine W.mono (word_spec hd2 (m := 6) hlp (by omega) (by omega)) ?_
  rintro ⟨_, d3⟩ ⟨r, rfl, hd3, lr, hr⟩
  have hd3 : Dr d3 := hd3
  simp -dsimp only [↓Z_seq, ↓Z_pC, ↓Z_v0, ↓Z_vS, ↓Z_iP, ↓Z_p1, ↓Z_p2, ↓Z_i1, ↓Z_i2, ↓Z_psN, ↓Z_psC, ↓Z_isN, ↓Z_isC, ↓Z_pN, ↓Z_iN, ↓Z_bP, ↓Z_bI, ↓Z_liftB, ↓Z_andP, ↓Z_orP, ↓Z_bNotP, ↓Z_andI, ↓Z_orI, ↓Z_bNotI, ↓Z_pAnd, ↓Z_pOr, ↓Z_pNot, ↓Z_iAnd, ↓Z_iOr, ↓Z_iNot, ↓Z_pIf, ↓Z_iIf, ↓Z_pChain, ↓Z_iCall, ↓Z_iMod, ↓Z_ivSeq, ↓Z_itSeq, ↓Z_ivN, ↓Z_itN, ↓Z_sNx, ↓Z_sBk, ↓Z_sCt, ↓Z_if, ↓Z_sAsg, ↓Z_sEx, ↓Z_sRt, ↓Z_sRtN, ↓Z_sRtO, ↓Z_sAug, ↓Z_sTg, ↓Z_sFor, ↓Z_asB, ↓Z_lstOf, ↓Z_set, ↓Z_app2, ↓Z_appK, ↓Z_sPar, X_ex2, ↓Z_whl, ↓Z_no, ↓Z_ite', ↓Z_some, Z_map, ↓Z_pComp, ↓Z_iComp, ↓Z_pSl, pO_none, ↓ZpO_some, ZpO_int, Zx_nx, Zx_rt, Zx_bk, Zx_ct, Zf_nx, Zf_ct, Zf_bk, Zf_rt, Zr_rt, Zr_nx, Zr1_rt, Zr1_nx, wIf_t, wIf_f, wIf_not, sE, List.map_cons, List.map_nil, List.replicate_succ, List.replicate_zero, List.cons_append, List.nil_append, Nat.reduceSub, Nat.reduceAdd, nLen_lst, nLen_tup, nInt_int, nList_lst, nList_tup, nList_scr, nTuple_lst, nTuple_tup, nIx_lst, nIx_tup, seqOf_lst, seqOf_tup, gRev_eq, gPop_eq, nI2_i, nIc_ok, nCmp_i, nAdd_i, nEq_int, nNe_int, nEq_bl, nNe_bl, nEq_TI, nNe_TI, nEq_LI, nNe_LI, nIn_TI, nIn_LI, X_fld, max2, min2, nTupD0, nTupD1, nTupD2, nTupD3, nTupD4, nLstD0, nLstD1, nLstD2, nLstD3, nLstD4, isi_int_int, isi_int_bl, isi_int_tup, isi_int_lst, isi_int_non, isi_int_str, isi_bool_int, isi_bool_bl, isi_bool_tup, isi_bool_lst, isi_bool_non, isi_bool_str, isi_tuple_int, isi_tuple_bl, isi_tuple_tup, isi_tuple_lst, isi_tuple_non, isi_tuple_str, isi_list_int, isi_list_bl, isi_list_tup, isi_list_lst, isi_list_non, isi_list_str, isi_str_int, isi_str_bl, isi_str_tup, isi_str_lst, isi_str_non, isi_str_str, isN_non, notN_non, nonD_non, nonD_int, nonD_bl, nonD_tup, nonD_lst, nonD_str, Z_bTup, Z_bsC, Z_bsN, Z_bNm, Option.bind_some, Option.map_some, List.getElem?_cons_zero, List.getElem?_cons_succ, List.set_cons_zero, List.set_cons_succ, List.length_cons, List.length_nil, id, Bool.not_true, Bool.not_false, List.length_map, List.length_set, decide_true, decide_false, eq_self, if_true, if_false, Bool.false_eq_true, decide_eq_true_eq, not_true_eq_false, not_false_eq_true, true_and, and_true, Int.cast_ofNat_Int, Int.reduceLT, Int.reduceLE, Int.reduceEq, bindT, wipeE, backE, Z_seq, Z_pC, Z_v0, Z_vS, Z_iP, Z_p1, Z_p2, Z_i1, Z_i2, Z_psN, Z_psC, Z_isN, Z_isC, Z_pN, Z_iN, Z_bP, Z_bI, Z_liftB, Z_andP, Z_orP, Z_bNotP, Z_andI, Z_orI, Z_bNotI, Z_pAnd, Z_pOr, Z_pNot, Z_iAnd, Z_iOr, Z_iNot, Z_pIf, Z_iIf, Z_pChain, Z_iCall, Z_iMod, Z_ivSeq, Z_itSeq, Z_ivN, Z_itN, Z_sNx, Z_sBk, Z_sCt, Z_if, Z_sAsg, Z_sEx, Z_sRt, Z_sRtN, Z_sRtO, Z_sAug, Z_sTg, Z_sFor, Z_asB, Z_lstOf, Z_set, Z_app2, Z_appK, Z_sPar, Z_whl, Z_no, Z_ite', Z_some, Z_pComp, Z_iComp, Z_pSl, ZpO_some, ↓Z_forL_nil, ↓Z_forL_cons, ↓Z_compP_nil, ↓Z_compP_cons, ↓Z_compI_nil, ↓Z_compI_cons, ↓Z_bYes, ↓Z_iYes, Z_forL_nil, Z_forL_cons, Z_compP_nil, Z_compP_cons, Z_compI_nil, Z_compI_cons, sem_law_5, e_word]
  refine W.mono (word_spec hd3 (m := 6) hlp (by omega) (by omega)) ?_
  rintro ⟨_, d4⟩ ⟨s, rfl, hd4, ls, hs⟩
  have hd4 : Dr d4 := hd4
  simp -dsimp only [↓Z_seq, ↓Z_pC, ↓Z_v0, ↓Z_vS, ↓Z_iP, ↓Z_p1, ↓Z_p2, ↓Z_i1, ↓Z_i2, ↓Z_psN, ↓Z_psC, ↓Z_isN, ↓Z_isC, ↓Z_pN, ↓Z_iN, ↓Z_bP, ↓Z_bI, ↓Z_liftB, ↓Z_andP, ↓Z_orP, ↓Z_bNotP, ↓Z_andI, ↓Z_orI, ↓Z_bNotI, ↓Z_pAnd, ↓Z_pOr, ↓Z_pNot, ↓Z_iAnd, ↓Z_iOr, ↓Z_iNot, ↓Z_pIf, ↓Z_iIf, ↓Z_pChain, ↓Z_iCall, ↓Z_iMod, ↓Z_ivSeq, ↓Z_itSeq, ↓Z_ivN, ↓Z_itN, ↓Z_sNx, ↓Z_sBk, ↓Z_sCt, ↓Z_if, ↓Z_sAsg, ↓Z_sEx, ↓Z_sRt, ↓Z_sRtN, ↓Z_sRtO, ↓Z_sAug, ↓Z_sTg, ↓Z_sFor, ↓Z_asB, ↓Z_lstOf, ↓Z_set, ↓Z_app2, ↓Z_appK, ↓Z_sPar, X_ex2, ↓Z_whl, ↓Z_no, ↓Z_ite', ↓Z_some, Z_map, ↓Z_pComp, ↓Z_iComp, ↓Z_pSl, pO_none, ↓ZpO_some, ZpO_int, Zx_nx, Zx_rt, Zx_bk, Zx_ct, Zf_nx, Zf_ct, Zf_bk, Zf_rt, Zr_rt, Zr_nx, Zr1_rt, Zr1_nx, wIf_t, wIf_f, wIf_not, sE, List.map_cons, List.map_nil, List.replicate_succ, List.replicate_zero, List.cons_append, List.nil_append, Nat.reduceSub, Nat.reduceAdd, nLen_lst, nLen_tup, nInt_int, nList_lst, nList_tup, nList_scr, nTuple_lst, nTuple_tup, nIx_lst, nIx_tup, seqOf_lst, seqOf_tup, gRev_eq, gPop_eq, nI2_i, nIc_ok, nCmp_i, nAdd_i, nEq_int, nNe_int, nEq_bl, nNe_bl, nEq_TI, nNe_TI, nEq_LI, nNe_LI, nIn_TI, nIn_LI, X_fld, max2, min2, nTupD0, nTupD1, nTupD2, nTupD3, nTupD4, nLstD0, nLstD1, nLstD2, nLstD3, nLstD4, isi_int_int, isi_int_bl, isi_int_tup, isi_int_lst, isi_int_non, isi_int_str, isi_bool_int, isi_bool_bl, isi_bool_tup, isi_bool_lst, isi_bool_non, isi_bool_str, isi_tuple_int, isi_tuple_bl, isi_tuple_tup, isi_tuple_lst, isi_tuple_non, isi_tuple_str, isi_list_int, isi_list_bl, isi_list_tup, isi_list_lst, isi_list_non, isi_list_str, isi_str_int, isi_str_bl, isi_str_tup, isi_str_lst, isi_str_non, isi_str_str, isN_non, notN_non, nonD_non, nonD_int, nonD_bl, nonD_tup, nonD_lst, nonD_str, Z_bTup, Z_bsC, Z_bsN, Z_bNm, Option.bind_some, Option.map_some, List.getElem?_cons_zero, List.getElem?_cons_succ, List.set_cons_zero, List.set_cons_succ, List.length_cons, List.length_nil, id, Bool.not_true, Bool.not_false, List.length_map, List.length_set, decide_true, decide_false, eq_self, if_true, if_false, Bool.false_eq_true, decide_eq_true_eq, not_true_eq_false, not_false_eq_true, true_and, and_true, Int.cast_ofNat_Int, Int.reduceLT, Int.reduceLE, Int.reduceEq, bindT, wipeE, backE, Z_seq, Z_pC, Z_v0, Z_vS, Z_iP, Z_p1, Z_p2, Z_i1, Z_i2, Z_psN, Z_psC, Z_isN, Z_isC, Z_pN, Z_iN, Z_bP, Z_bI, Z_liftB, Z_andP, Z_orP, Z_bNotP, Z_andI, Z_orI, Z_bNotI, Z_pAnd, Z_pOr, Z_pNot, Z_iAnd, Z_iOr, Z_iNot, Z_pIf, Z_iIf, Z_pChain, Z_iCall, Z_iMod, Z_ivSeq, Z_itSeq, Z_ivN, Z_itN, Z_sNx, Z_sBk, Z_sCt, Z_if, Z_sAsg, Z_sEx, Z_sRt, Z_sRtN, Z_sRtO, Z_sAug, Z_sTg, Z_sFor, Z_asB, Z_lstOf, Z_set, Z_app2, Z_appK, Z_sPar, Z_whl, Z_no, Z_ite', Z_some, Z_pComp, Z_iComp, Z_pSl, ZpO_some, ↓Z_forL_nil, ↓Z_forL_cons, ↓Z_compP_nil, ↓Z_compP_cons, ↓Z_compI_nil, ↓Z_compI_cons, ↓Z_bYes, ↓Z_iYes, Z_forL_nil, Z_forL_cons, Z_compP_nil, Z_compP_cons, Z_compI_nil, Z_compI_cons, sem_law_6, e_word]
  refine W.mono (word_spec hd4 (m := 6) hlp (by omega) (by omega)) ?_
  rintro ⟨_, d5⟩ ⟨q, rfl, hd5, lq, hq⟩
  have hd5 : Dr d5 := hd5
  simp -dsimp only [↓Z_seq, ↓Z_pC, ↓Z_v0, ↓Z_vS, ↓Z_iP, ↓Z_p1, ↓Z_p2, ↓Z_i1, ↓Z_i2, ↓Z_psN, ↓Z_psC, ↓Z_isN, ↓Z_isC, ↓Z_pN, ↓Z_iN, ↓Z_bP, ↓Z_bI, ↓Z_liftB, ↓Z_andP, ↓Z_orP, ↓Z_bNotP, ↓Z_andI, ↓Z_orI, ↓Z_bNotI, ↓Z_pAnd, ↓Z_pOr, ↓Z_pNot, ↓Z_iAnd, ↓Z_iOr, ↓Z_iNot, ↓Z_pIf, ↓Z_iIf, ↓Z_pChain, ↓Z_iCall, ↓Z_iMod, ↓Z_ivSeq, ↓Z_itSeq, ↓Z_ivN, ↓Z_itN, ↓Z_sNx, ↓Z_sBk, ↓Z_sCt, ↓Z_if, ↓Z_sAsg, ↓Z_sEx, ↓Z_sRt, ↓Z_sRtN, ↓Z_sRtO, ↓Z_sAug, ↓Z_sTg, ↓Z_sFor, ↓Z_asB, ↓Z_lstOf, ↓Z_set, ↓Z_app2, ↓Z_appK, ↓Z_sPar, X_ex2, ↓Z_whl, ↓Z_no, ↓Z_ite', ↓Z_some, Z_map, ↓Z_pComp, ↓Z_iComp, ↓Z_pSl, pO_none, ↓ZpO_some, ZpO_int, Zx_nx, Zx_rt, Zx_bk, Zx_ct, Zf_nx, Zf_ct, Zf_bk, Zf_rt, Zr_rt, Zr_nx, Zr1_rt, Zr1_nx, wIf_t, wIf_f, wIf_not, sE, List.map_cons, List.map_nil, List.replicate_succ, List.replicate_zero, List.cons_append, List.nil_append, Nat.reduceSub, Nat.reduceAdd, nLen_lst, nLen_tup, nInt_int, nList_lst, nList_tup, nList_scr, nTuple_lst, nTuple_tup, nIx_lst, nIx_tup, seqOf_lst, seqOf_tup, gRev_eq, gPop_eq, nI2_i, nIc_ok, nCmp_i, nAdd_i, nEq_int, nNe_int, nEq_bl, nNe_bl, nEq_TI, nNe_TI, nEq_LI, nNe_LI, nIn_TI, nIn_LI, X_fld, max2, min2, nTupD0, nTupD1, nTupD2, nTupD3, nTupD4, nLstD0, nLstD1, nLstD2, nLstD3, nLstD4, isi_int_int, isi_int_bl, isi_int_tup, isi_int_lst, isi_int_non, isi_int_str, isi_bool_int, isi_bool_bl, isi_bool_tup, isi_bool_lst, isi_bool_non, isi_bool_str, isi_tuple_int, isi_tuple_bl, isi_tuple_tup, isi_tuple_lst, isi_tuple_non, isi_tuple_str, isi_list_int, isi_list_bl, isi_list_tup, isi_list_lst, isi_list_non, isi_list_str, isi_str_int, isi_str_bl, isi_str_tup, isi_str_lst, isi_str_non, isi_str_str, isN_non, notN_non, nonD_non, nonD_int, nonD_bl, nonD_tup, nonD_lst, nonD_str, Z_bTup, Z_bsC, Z_bsN, Z_bNm, Option.bind_some, Option.map_some, List.getElem?_cons_zero, List.getElem?_cons_succ, List.set_cons_zero, List.set_cons_succ, List.length_cons, List.length_nil, id, Bool.not_true, Bool.not_false, List.length_map, List.length_set, decide_true, decide_false, eq_self, if_true, if_false, Bool.false_eq_true, decide_eq_true_eq, not_true_eq_false, not_false_eq_true, true_and, and_true, Int.cast_ofNat_Int, Int.reduceLT, Int.reduceLE, Int.reduceEq, bindT, wipeE, backE, Z_seq, Z_pC, Z_v0, Z_vS, Z_iP, Z_p1, Z_p2, Z_i1, Z_i2, Z_psN, Z_psC, Z_isN, Z_isC, Z_pN, Z_iN, Z_bP, Z_bI, Z_liftB, Z_andP, Z_orP, Z_bNotP, Z_andI, Z_orI, Z_bNotI, Z_pAnd, Z_pOr, Z_pNot, Z_iAnd, Z_iOr, Z_iNot, Z_pIf, Z_iIf, Z_pChain, Z_iCall, Z_iMod, Z_ivSeq, Z_itSeq, Z_ivN, Z_itN, Z_sNx, Z_sBk, Z_sCt, Z_if, Z_sAsg, Z_sEx, Z_sRt, Z_sRtN, Z_sRtO, Z_sAug, Z_sTg, Z_sFor, Z_asB, Z_lstOf, Z_set, Z_app2, Z_appK, Z_sPar, Z_whl, Z_no, Z_ite', Z_some, Z_pComp, Z_iComp, Z_pSl, ZpO_some, ↓Z_forL_nil, ↓Z_forL_cons, ↓Z_compP_nil, ↓Z_compP_cons, ↓Z_compI_nil, ↓Z_compI_cons, ↓Z_bYes, ↓Z_iYes, Z_forL_nil, Z_forL_cons, Z_compP_nil, Z_compP_cons, Z_compI_nil, Z_compI_cons, sem_law_7, e_take]
  refine W.mono (take_spec hd5 (k := 2) (by omega)) ?_
  rintro ⟨_, d6⟩ ⟨k, rfl, hd6, k0, k1⟩
  have hd6 : Dr d6 := hd6
  simp -dsimp only [↓Z_seq, ↓Z_pC, ↓Z_v0, ↓Z_vS, ↓Z_iP, ↓Z_p1, ↓Z_p2, ↓Z_i1, ↓Z_i2, ↓Z_psN, ↓Z_psC, ↓Z_isN, ↓Z_isC, ↓Z_pN, ↓Z_iN, ↓Z_bP, ↓Z_bI, ↓Z_liftB, ↓Z_andP, ↓Z_orP, ↓Z_bNotP, ↓Z_andI, ↓Z_orI, ↓Z_bNotI, ↓Z_pAnd, ↓Z_pOr, ↓Z_pNot, ↓Z_iAnd, ↓Z_iOr, ↓Z_iNot, ↓Z_pIf, ↓Z_iIf, ↓Z_pChain, ↓Z_iCall, ↓Z_iMod, ↓Z_ivSeq, ↓Z_itSeq, ↓Z_ivN, ↓Z_itN, ↓Z_sNx, ↓Z_sBk, ↓Z_sCt, ↓Z_if, ↓Z_sAsg, ↓Z_sEx, ↓Z_sRt, ↓Z_sRtN, ↓Z_sRtO, ↓Z_sAug, ↓Z_sTg, ↓Z_sFor, ↓Z_asB, ↓Z_lstOf, ↓Z_set, ↓Z_app2, ↓Z_appK, ↓Z_sPar, X_ex2, ↓Z_whl, ↓Z_no, ↓Z_ite', ↓Z_some, Z_map, ↓Z_pComp, ↓Z_iComp, ↓Z_pSl, pO_none, ↓ZpO_some, ZpO_int, Zx_nx, Zx_rt, Zx_bk, Zx_ct, Zf_nx, Zf_ct, Zf_bk, Zf_rt, Zr_rt, Zr_nx, Zr1_rt, Zr1_nx, wIf_t, wIf_f, wIf_not, sE, List.map_cons, List.map_nil, List.replicate_succ, List.replicate_zero, List.cons_append, List.nil_append, Nat.reduceSub, Nat.reduceAdd, nLen_lst, nLen_tup, nInt_int, nList_lst, nList_tup, nList_scr, nTuple_lst, nTuple_tup, nIx_lst, nIx_tup, seqOf_lst, seqOf_tup, gRev_eq, gPop_eq, nI2_i, nIc_ok, nCmp_i, nAdd_i, nEq_int, nNe_int, nEq_bl, nNe_bl, nEq_TI, nNe_TI, nEq_LI, nNe_LI, nIn_TI, nIn_LI, X_fld, max2, min2, nTupD0, nTupD1, nTupD2, nTupD3, nTupD4, nLstD0, nLstD1, nLstD2, nLstD3, nLstD4, isi_int_int, isi_int_bl, isi_int_tup, isi_int_lst, isi_int_non, isi_int_str, isi_bool_int, isi_bool_bl, isi_bool_tup, isi_bool_lst, isi_bool_non, isi_bool_str, isi_tuple_int, isi_tuple_bl, isi_tuple_tup, isi_tuple_lst, isi_tuple_non, isi_tuple_str, isi_list_int, isi_list_bl, isi_list_tup, isi_list_lst, isi_list_non, isi_list_str, isi_str_int, isi_str_bl, isi_str_tup, isi_str_lst, isi_str_non, isi_str_str, isN_non, notN_non, nonD_non, nonD_int, nonD_bl, nonD_tup, nonD_lst, nonD_str, Z_bTup, Z_bsC, Z_bsN, Z_bNm, Option.bind_some, Option.map_some, List.getElem?_cons_zero, List.getElem?_cons_succ, List.set_cons_zero, List.set_cons_succ, List.length_cons, List.length_nil, id, Bool.not_true, Bool.not_false, List.length_map, List.length_set, decide_true, decide_false, eq_self, if_true, if_false, Bool.false_eq_true, decide_eq_true_eq, not_true_eq_false, not_false_eq_true, true_and, and_true, Int.cast_ofNat_Int, Int.reduceLT, Int.reduceLE, Int.reduceEq, bindT, wipeE, backE, Z_seq, Z_pC, Z_v0, Z_vS, Z_iP, Z_p1, Z_p2, Z_i1, Z_i2, Z_psN, Z_psC, Z_isN, Z_isC, Z_pN, Z_iN, Z_bP, Z_bI, Z_liftB, Z_andP, Z_orP, Z_bNotP, Z_andI, Z_orI, Z_bNotI, Z_pAnd, Z_pOr, Z_pNot, Z_iAnd, Z_iOr, Z_iNot, Z_pIf, Z_iIf, Z_pChain, Z_iCall, Z_iMod, Z_ivSeq, Z_itSeq, Z_ivN, Z_itN, Z_sNx, Z_sBk, Z_sCt, Z_if, Z_sAsg, Z_sEx, Z_sRt, Z_sRtN, Z_sRtO, Z_sAug, Z_sTg, Z_sFor, Z_asB, Z_lstOf, Z_set, Z_app2, Z_appK, Z_sPar, Z_whl, Z_no, Z_ite', Z_some, Z_pComp, Z_iComp, Z_pSl, ZpO_some, ↓Z_forL_nil, ↓Z_forL_cons, ↓Z_compP_nil, ↓Z_compP_cons, ↓Z_compI_nil, ↓Z_compI_cons, ↓Z_bYes, ↓Z_iYes, Z_forL_nil, Z_forL_cons, Z_compP_nil, Z_compP_cons, Z_compI_nil, Z_compI_cons]
  refine wIf_join (fun e => ∃ s' : List Int, inR L.length s' ∧ (s'.length : Int) ≤ 6 ∧ e = [some (.scr ns), some d6, some (.int (cn : Int)), some (.lst (LT L)), some (OB (cn : Int) L), some (TI p), some (TI r), some (TI s'), some (TI q), none, none, none, none, none, none, none]) ?_ ?_ ?_
  · intro _
    simp -dsimp only [↓Z_seq, ↓Z_pC, ↓Z_v0, ↓Z_vS, ↓Z_iP, ↓Z_p1, ↓Z_p2, ↓Z_i1, ↓Z_i2, ↓Z_psN, ↓Z_psC, ↓Z_isN, ↓Z_isC, ↓Z_pN, ↓Z_iN, ↓Z_bP, ↓Z_bI, ↓Z_liftB, ↓Z_andP, ↓Z_orP, ↓Z_bNotP, ↓Z_andI, ↓Z_orI, ↓Z_bNotI, ↓Z_pAnd, ↓Z_pOr, ↓Z_pNot, ↓Z_iAnd, ↓Z_iOr, ↓Z_iNot, ↓Z_pIf, ↓Z_iIf, ↓Z_pChain, ↓Z_iCall, ↓Z_iMod, ↓Z_ivSeq, ↓Z_itSeq, ↓Z_ivN, ↓Z_itN, ↓Z_sNx, ↓Z_sBk, ↓Z_sCt, ↓Z_if, ↓Z_sAsg, ↓Z_sEx, ↓Z_sRt, ↓Z_sRtN, ↓Z_sRtO, ↓Z_sAug, ↓Z_sTg, ↓Z_sFor, ↓Z_asB, ↓Z_lstOf, ↓Z_set, ↓Z_app2, ↓Z_appK, ↓Z_sPar, X_ex2, ↓Z_whl, ↓Z_no, ↓Z_ite', ↓Z_some, Z_map, ↓Z_pComp, ↓Z_iComp, ↓Z_pSl, pO_none, ↓ZpO_some, ZpO_int, Zx_nx, Zx_rt, Zx_bk, Zx_ct, Zf_nx, Zf_ct, Zf_bk, Zf_rt, Zr_rt, Zr_nx, Zr1_rt, Zr1_nx, wIf_t, wIf_f, wIf_not, sE, List.map_cons, List.map_nil, List.replicate_succ, List.replicate_zero, List.cons_append, List.nil_append, Nat.reduceSub, Nat.reduceAdd, nLen_lst, nLen_tup, nInt_int, nList_lst, nList_tup, nList_scr, nTuple_lst, nTuple_tup, nIx_lst, nIx_tup, seqOf_lst, seqOf_tup, gRev_eq, gPop_eq, nI2_i, nIc_ok, nCmp_i, nAdd_i, nEq_int, nNe_int, nEq_bl, nNe_bl, nEq_TI, nNe_TI, nEq_LI, nNe_LI, nIn_TI, nIn_LI, X_fld, max2, min2, nTupD0, nTupD1, nTupD2, nTupD3, nTupD4, nLstD0, nLstD1, nLstD2, nLstD3, nLstD4, isi_int_int, isi_int_bl, isi_int_tup, isi_int_lst, isi_int_non, isi_int_str, isi_bool_int, isi_bool_bl, isi_bool_tup, isi_bool_lst, isi_bool_non, isi_bool_str, isi_tuple_int, isi_tuple_bl, isi_tuple_tup, isi_tuple_lst, isi_tuple_non, isi_tuple_str, isi_list_int, isi_list_bl, isi_list_tup, isi_list_lst, isi_list_non, isi_list_str, isi_str_int, isi_str_bl, isi_str_tup, isi_str_lst, isi_str_non, isi_str_str, isN_non, notN_non, nonD_non, nonD_int, nonD_bl, nonD_tup, nonD_lst, nonD_str, Z_bTup, Z_bsC, Z_bsN, Z_bNm, Option.bind_some, Option.map_some, List.getElem?_cons_zero, List.getElem?_cons_succ, List.set_cons_zero, List.set_cons_succ, List.length_cons, List.length_nil, id, Bool.not_true, Bool.not_false, List.length_map, List.length_set, decide_true, decide_false, eq_self, if_true, if_false, Bool.false_eq_true, decide_eq_true_eq, not_true_eq_false, not_false_eq_true, true_and, and_true, Int.cast_ofNat_Int, Int.reduceLT, Int.reduceLE, Int.reduceEq, bindT, wipeE, backE, Z_seq, Z_pC, Z_v0, Z_vS, Z_iP, Z_p1, Z_p2, Z_i1, Z_i2, Z_psN, Z_psC, Z_isN, Z_isC, Z_pN, Z_iN, Z_bP, Z_bI, Z_liftB, Z_andP, Z_orP, Z_bNotP, Z_andI, Z_orI, Z_bNotI, Z_pAnd, Z_pOr, Z_pNot, Z_iAnd, Z_iOr, Z_iNot, Z_pIf, Z_iIf, Z_pChain, Z_iCall, Z_iMod, Z_ivSeq, Z_itSeq, Z_ivN, Z_itN, Z_sNx, Z_sBk, Z_sCt, Z_if, Z_sAsg, Z_sEx, Z_sRt, Z_sRtN, Z_sRtO, Z_sAug, Z_sTg, Z_sFor, Z_asB, Z_lstOf, Z_set, Z_app2, Z_appK, Z_sPar, Z_whl, Z_no, Z_ite', Z_some, Z_pComp, Z_iComp, Z_pSl, ZpO_some, ↓Z_forL_nil, ↓Z_forL_cons, ↓Z_compP_nil, ↓Z_compP_cons, ↓Z_compI_nil, ↓Z_compI_cons, ↓Z_bYes, ↓Z_iYes, Z_forL_nil, Z_forL_cons, Z_compP_nil, Z_compP_cons, Z_compI_nil, Z_compI_cons]
    refine ⟨size_lt (by omega), Z_cmp D.int (fun a => decide (((r.filter fun b => !indep L a b).length : Int) = 0)) D.int (fun a ha => ⟨?_, fun _ => ?_⟩) ?_⟩
    · have har := hs a ha
      simp -dsimp only [↓Z_seq, ↓Z_pC, ↓Z_v0, ↓Z_vS, ↓Z_iP, ↓Z_p1, ↓Z_p2, ↓Z_i1, ↓Z_i2, ↓Z_psN, ↓Z_psC, ↓Z_isN, ↓Z_isC, ↓Z_pN, ↓Z_iN, ↓Z_bP, ↓Z_bI, ↓Z_liftB, ↓Z_andP, ↓Z_orP, ↓Z_bNotP, ↓Z_andI, ↓Z_orI, ↓Z_bNotI, ↓Z_pAnd, ↓Z_pOr, ↓Z_pNot, ↓Z_iAnd, ↓Z_iOr, ↓Z_iNot, ↓Z_pIf, ↓Z_iIf, ↓Z_pChain, ↓Z_iCall, ↓Z_iMod, ↓Z_ivSeq, ↓Z_itSeq, ↓Z_ivN, ↓Z_itN, ↓Z_sNx, ↓Z_sBk, ↓Z_sCt, ↓Z_if, ↓Z_sAsg, ↓Z_sEx, ↓Z_sRt, ↓Z_sRtN, ↓Z_sRtO, ↓Z_sAug, ↓Z_sTg, ↓Z_sFor, ↓Z_asB, ↓Z_lstOf, ↓Z_set, ↓Z_app2, ↓Z_appK, ↓Z_sPar, X_ex2, ↓Z_whl, ↓Z_no, ↓Z_ite', ↓Z_some, Z_map, ↓Z_pComp, ↓Z_iComp, ↓Z_pSl, pO_none, ↓ZpO_some, ZpO_int, Zx_nx, Zx_rt, Zx_bk, Zx_ct, Zf_nx, Zf_ct, Zf_bk, Zf_rt, Zr_rt, Zr_nx, Zr1_rt, Zr1_nx, wIf_t, wIf_f, wIf_not, sE, List.map_cons, List.map_nil, List.replicate_succ, List.replicate_zero, List.cons_append, List.nil_append, Nat.reduceSub, Nat.reduceAdd, nLen_lst, nLen_tup, nInt_int, nList_lst, nList_tup, nList_scr, nTuple_lst, nTuple_tup, nIx_lst, nIx_tup, seqOf_lst, seqOf_tup, gRev_eq, gPop_eq, nI2_i, nIc_ok, nCmp_i, nAdd_i, nEq_int, nNe_int, nEq_bl, nNe_bl, nEq_TI, nNe_TI, nEq_LI, nNe_LI, nIn_TI, nIn_LI, X_fld, max2, min2, nTupD0, nTupD1, nTupD2, nTupD3, nTupD4, nLstD0, nLstD1, nLstD2, nLstD3, nLstD4, isi_int_int, isi_int_bl, isi_int_tup, isi_int_lst, isi_int_non, isi_int_str, isi_bool_int, isi_bool_bl, isi_bool_tup, isi_bool_lst, isi_bool_non, isi_bool_str, isi_tuple_int, isi_tuple_bl, isi_tuple_tup, isi_tuple_lst, isi_tuple_non, isi_tuple_str, isi_list_int, isi_list_bl, isi_list_tup, isi_list_lst, isi_list_non, isi_list_str, isi_str_int, isi_str_bl, isi_str_tup, isi_str_lst, isi_str_non, isi_str_str, isN_non, notN_non, nonD_non, nonD_int, nonD_bl, nonD_tup, nonD_lst, nonD_str, Z_bTup, Z_bsC, Z_bsN, Z_bNm, Option.bind_some, Option.map_some, List.getElem?_cons_zero, List.getElem?_cons_succ, List.set_cons_zero, List.set_cons_succ, List.length_cons, List.length_nil, id, Bool.not_true, Bool.not_false, List.length_map, List.length_set, decide_true, decide_false, eq_self, if_true, if_false, Bool.false_eq_true, decide_eq_true_eq, not_true_eq_false, not_false_eq_true, true_and, and_true, Int.cast_ofNat_Int, Int.reduceLT, Int.reduceLE, Int.reduceEq, bindT, wipeE, backE, Z_seq, Z_pC, Z_v0, Z_vS, Z_iP, Z_p1, Z_p2, Z_i1, Z_i2, Z_psN, Z_psC, Z_isN, Z_isC, Z_pN, Z_iN, Z_bP, Z_bI, Z_liftB, Z_andP, Z_orP, Z_bNotP, Z_andI, Z_orI, Z_bNotI, Z_pAnd, Z_pOr, Z_pNot, Z_iAnd, Z_iOr, Z_iNot, Z_pIf, Z_iIf, Z_pChain, Z_iCall, Z_iMod, Z_ivSeq, Z_itSeq, Z_ivN, Z_itN, Z_sNx, Z_sBk, Z_sCt, Z_if, Z_sAsg, Z_sEx, Z_sRt, Z_sRtN, Z_sRtO, Z_sAug, Z_sTg, Z_sFor, Z_asB, Z_lstOf, Z_set, Z_app2, Z_appK, Z_sPar, Z_whl, Z_no, Z_ite', Z_some, Z_pComp, Z_iComp, Z_pSl, ZpO_some, ↓Z_forL_nil, ↓Z_forL_cons, ↓Z_compP_nil, ↓Z_compP_cons, ↓Z_compI_nil, ↓Z_compI_cons, ↓Z_bYes, ↓Z_iYes, Z_forL_nil, Z_forL_cons, Z_compP_nil, Z_compP_cons, Z_compI_nil, Z_compI_cons]
      refine ⟨size_lt (by omega), Z_cmp D.int (fun b => !indep L a b) D.int (fun b hb => ⟨?_, fun _ => ?_⟩) ?_⟩
      · simp -dsimp only [↓Z_seq, ↓Z_pC, ↓Z_v0, ↓Z_vS, ↓Z_iP, ↓Z_p1, ↓Z_p2, ↓Z_i1, ↓Z_i2, ↓Z_psN, ↓Z_psC, ↓Z_isN, ↓Z_isC, ↓Z_pN, ↓Z_iN, ↓Z_bP, ↓Z_bI, ↓Z_liftB, ↓Z_andP, ↓Z_orP, ↓Z_bNotP, ↓Z_andI, ↓Z_orI, ↓Z_bNotI, ↓Z_pAnd, ↓Z_pOr, ↓Z_pNot, ↓Z_iAnd, ↓Z_iOr, ↓Z_iNot, ↓Z_pIf, ↓Z_iIf, ↓Z_pChain, ↓Z_iCall, ↓Z_iMod, ↓Z_ivSeq, ↓Z_itSeq, ↓Z_ivN, ↓Z_itN, ↓Z_sNx, ↓Z_sBk, ↓Z_sCt, ↓Z_if, ↓Z_sAsg, ↓Z_sEx, ↓Z_sRt, ↓Z_sRtN, ↓Z_sRtO, ↓Z_sAug, ↓Z_sTg, ↓Z_sFor, ↓Z_asB, ↓Z_lstOf, ↓Z_set, ↓Z_app2, ↓Z_appK, ↓Z_sPar, X_ex2, ↓Z_whl, ↓Z_no, ↓Z_ite', ↓Z_some, Z_map, ↓Z_pComp, ↓Z_iComp, ↓Z_pSl, pO_none, ↓ZpO_some, ZpO_int, Zx_nx, Zx_rt, Zx_bk, Zx_ct, Zf_nx, Zf_ct, Zf_bk, Zf_rt, Zr_rt, Zr_nx, Zr1_rt, Zr1_nx, wIf_t, wIf_f, wIf_not, sE, List.map_cons, List.map_nil, List.replicate_succ, List.replicate_zero, List.cons_append, List.nil_append, Nat.reduceSub, Nat.reduceAdd, nLen_lst, nLen_tup, nInt_int, nList_lst, nList_tup, nList_scr, nTuple_lst, nTuple_tup, nIx_lst, nIx_tup, seqOf_lst, seqOf_tup, gRev_eq, gPop_eq, nI2_i, nIc_ok, nCmp_i, nAdd_i, nEq_int, nNe_int, nEq_bl, nNe_bl, nEq_TI, nNe_TI, nEq_LI, nNe_LI, nIn_TI, nIn_LI, X_fld, max2, min2, nTupD0, nTupD1, nTupD2, nTupD3, nTupD4, nLstD0, nLstD1, nLstD2, nLstD3, nLstD4, isi_int_int, isi_int_bl, isi_int_tup, isi_int_lst, isi_int_non, isi_int_str, isi_bool_int, isi_bool_bl, isi_bool_tup, isi_bool_lst, isi_bool_non, isi_bool_str, isi_tuple_int, isi_tuple_bl, isi_tuple_tup, isi_tuple_lst, isi_tuple_non, isi_tuple_str, isi_list_int, isi_list_bl, isi_list_tup, isi_list_lst, isi_list_non, isi_list_str, isi_str_int, isi_str_bl, isi_str_tup, isi_str_lst, isi_str_non, isi_str_str, isN_non, notN_non, nonD_non, nonD_int, nonD_bl, nonD_tup, nonD_lst, nonD_str, Z_bTup, Z_bsC, Z_bsN, Z_bNm, Option.bind_some, Option.map_some, List.getElem?_cons_zero, List.getElem?_cons_succ, List.set_cons_zero, List.set_cons_succ, List.length_cons, List.length_nil, id, Bool.not_true, Bool.not_false, List.length_map, List.length_set, decide_true, decide_false, eq_self, if_true, if_false, Bool.false_eq_true, decide_eq_true_eq, not_true_eq_false, not_false_eq_true, true_and, and_true, Int.cast_ofNat_Int, Int.reduceLT, Int.reduceLE, Int.reduceEq, bindT, wipeE, backE, Z_seq, Z_pC, Z_v0, Z_vS, Z_iP, Z_p1, Z_p2, Z_i1, Z_i2, Z_psN, Z_psC, Z_isN, Z_isC, Z_pN, Z_iN, Z_bP, Z_bI, Z_liftB, Z_andP, Z_orP, Z_bNotP, Z_andI, Z_orI, Z_bNotI, Z_pAnd, Z_pOr, Z_pNot, Z_iAnd, Z_iOr, Z_iNot, Z_pIf, Z_iIf, Z_pChain, Z_iCall, Z_iMod, Z_ivSeq, Z_itSeq, Z_ivN, Z_itN, Z_sNx, Z_sBk, Z_sCt, Z_if, Z_sAsg, Z_sEx, Z_sRt, Z_sRtN, Z_sRtO, Z_sAug, Z_sTg, Z_sFor, Z_asB, Z_lstOf, Z_set, Z_app2, Z_appK, Z_sPar, Z_whl, Z_no, Z_ite', Z_some, Z_pComp, Z_iComp, Z_pSl, ZpO_some, ↓Z_forL_nil, ↓Z_forL_cons, ↓Z_compP_nil, ↓Z_compP_cons, ↓Z_compI_nil, ↓Z_compI_cons, ↓Z_bYes, ↓Z_iYes, Z_forL_nil, Z_forL_cons, Z_compP_nil, Z_compP_cons, Z_compI_nil, Z_compI_cons, e_free, free_spec har (hr b hb) (by have := hl64 _ (lt_mem har.1 har.2); omega)]
      · simp -dsimp only [↓Z_seq, ↓Z_pC, ↓Z_v0, ↓Z_vS, ↓Z_iP, ↓Z_p1, ↓Z_p2, ↓Z_i1, ↓Z_i2, ↓Z_psN, ↓Z_psC, ↓Z_isN, ↓Z_isC, ↓Z_pN, ↓Z_iN, ↓Z_bP, ↓Z_bI, ↓Z_liftB, ↓Z_andP, ↓Z_orP, ↓Z_bNotP, ↓Z_andI, ↓Z_orI, ↓Z_bNotI, ↓Z_pAnd, ↓Z_pOr, ↓Z_pNot, ↓Z_iAnd, ↓Z_iOr, ↓Z_iNot, ↓Z_pIf, ↓Z_iIf, ↓Z_pChain, ↓Z_iCall, ↓Z_iMod, ↓Z_ivSeq, ↓Z_itSeq, ↓Z_ivN, ↓Z_itN, ↓Z_sNx, ↓Z_sBk, ↓Z_sCt, ↓Z_if, ↓Z_sAsg, ↓Z_sEx, ↓Z_sRt, ↓Z_sRtN, ↓Z_sRtO, ↓Z_sAug, ↓Z_sTg, ↓Z_sFor, ↓Z_asB, ↓Z_lstOf, ↓Z_set, ↓Z_app2, ↓Z_appK, ↓Z_sPar, X_ex2, ↓Z_whl, ↓Z_no, ↓Z_ite', ↓Z_some, Z_map, ↓Z_pComp, ↓Z_iComp, ↓Z_pSl, pO_none, ↓ZpO_some, ZpO_int, Zx_nx, Zx_rt, Zx_bk, Zx_ct, Zf_nx, Zf_ct, Zf_bk, Zf_rt, Zr_rt, Zr_nx, Zr1_rt, Zr1_nx, wIf_t, wIf_f, wIf_not, sE, List.map_cons, List.map_nil, List.replicate_succ, List.replicate_zero, List.cons_append, List.nil_append, Nat.reduceSub, Nat.reduceAdd, nLen_lst, nLen_tup, nInt_int, nList_lst, nList_tup, nList_scr, nTuple_lst, nTuple_tup, nIx_lst, nIx_tup, seqOf_lst, seqOf_tup, gRev_eq, gPop_eq, nI2_i, nIc_ok, nCmp_i, nAdd_i, nEq_int, nNe_int, nEq_bl, nNe_bl, nEq_TI, nNe_TI, nEq_LI, nNe_LI, nIn_TI, nIn_LI, X_fld, max2, min2, nTupD0, nTupD1, nTupD2, nTupD3, nTupD4, nLstD0, nLstD1, nLstD2, nLstD3, nLstD4, isi_int_int, isi_int_bl, isi_int_tup, isi_int_lst, isi_int_non, isi_int_str, isi_bool_int, isi_bool_bl, isi_bool_tup, isi_bool_lst, isi_bool_non, isi_bool_str, isi_tuple_int, isi_tuple_bl, isi_tuple_tup, isi_tuple_lst, isi_tuple_non, isi_tuple_str, isi_list_int, isi_list_bl, isi_list_tup, isi_list_lst, isi_list_non, isi_list_str, isi_str_int, isi_str_bl, isi_str_tup, isi_str_lst, isi_str_non, isi_str_str, isN_non, notN_non, nonD_non, nonD_int, nonD_bl, nonD_tup, nonD_lst, nonD_str, Z_bTup, Z_bsC, Z_bsN, Z_bNm, Option.bind_some, Option.map_some, List.getElem?_cons_zero, List.getElem?_cons_succ, List.set_cons_zero, List.set_cons_succ, List.length_cons, List.length_nil, id, Bool.not_true, Bool.not_false, List.length_map, List.length_set, decide_true, decide_false, eq_self, if_true, if_false, Bool.false_eq_true, decide_eq_true_eq, not_true_eq_false, not_false_eq_true, true_and, and_true, Int.cast_ofNat_Int, Int.reduceLT, Int.reduceLE, Int.reduceEq, bindT, wipeE, backE, Z_seq, Z_pC, Z_v0, Z_vS, Z_iP, Z_p1, Z_p2, Z_i1, Z_i2, Z_psN, Z_psC, Z_isN, Z_isC, Z_pN, Z_iN, Z_bP, Z_bI, Z_liftB, Z_andP, Z_orP, Z_bNotP, Z_andI, Z_orI, Z_bNotI, Z_pAnd, Z_pOr, Z_pNot, Z_iAnd, Z_iOr, Z_iNot, Z_pIf, Z_iIf, Z_pChain, Z_iCall, Z_iMod, Z_ivSeq, Z_itSeq, Z_ivN, Z_itN, Z_sNx, Z_sBk, Z_sCt, Z_if, Z_sAsg, Z_sEx, Z_sRt, Z_sRtN, Z_sRtO, Z_sAug, Z_sTg, Z_sFor, Z_asB, Z_lstOf, Z_set, Z_app2, Z_appK, Z_sPar, Z_whl, Z_no, Z_ite', Z_some, Z_pComp, Z_iComp, Z_pSl, ZpO_some, ↓Z_forL_nil, ↓Z_forL_cons, ↓Z_compP_nil, ↓Z_compP_cons, ↓Z_compI_nil, ↓Z_compI_cons, ↓Z_bYes, ↓Z_iYes, Z_forL_nil, Z_forL_cons, Z_compP_nil, Z_compP_cons, Z_compI_nil, Z_compI_cons]
      · simp -dsimp only [↓Z_seq, ↓Z_pC, ↓Z_v0, ↓Z_vS, ↓Z_iP, ↓Z_p1, ↓Z_p2, ↓Z_i1, ↓Z_i2, ↓Z_psN, ↓Z_psC, ↓Z_isN, ↓Z_isC, ↓Z_pN, ↓Z_iN, ↓Z_bP, ↓Z_bI, ↓Z_liftB, ↓Z_andP, ↓Z_orP, ↓Z_bNotP, ↓Z_andI, ↓Z_orI, ↓Z_bNotI, ↓Z_pAnd, ↓Z_pOr, ↓Z_pNot, ↓Z_iAnd, ↓Z_iOr, ↓Z_iNot, ↓Z_pIf, ↓Z_iIf, ↓Z_pChain, ↓Z_iCall, ↓Z_iMod, ↓Z_ivSeq, ↓Z_itSeq, ↓Z_ivN, ↓Z_itN, ↓Z_sNx, ↓Z_sBk, ↓Z_sCt, ↓Z_if, ↓Z_sAsg, ↓Z_sEx, ↓Z_sRt, ↓Z_sRtN, ↓Z_sRtO, ↓Z_sAug, ↓Z_sTg, ↓Z_sFor, ↓Z_asB, ↓Z_lstOf, ↓Z_set, ↓Z_app2, ↓Z_appK, ↓Z_sPar, X_ex2, ↓Z_whl, ↓Z_no, ↓Z_ite', ↓Z_some, Z_map, ↓Z_pComp, ↓Z_iComp, ↓Z_pSl, pO_none, ↓ZpO_some, ZpO_int, Zx_nx, Zx_rt, Zx_bk, Zx_ct, Zf_nx, Zf_ct, Zf_bk, Zf_rt, Zr_rt, Zr_nx, Zr1_rt, Zr1_nx, wIf_t, wIf_f, wIf_not, sE, List.map_cons, List.map_nil, List.replicate_succ, List.replicate_zero, List.cons_append, List.nil_append, Nat.reduceSub, Nat.reduceAdd, nLen_lst, nLen_tup, nInt_int, nList_lst, nList_tup, nList_scr, nTuple_lst, nTuple_tup, nIx_lst, nIx_tup, seqOf_lst, seqOf_tup, gRev_eq, gPop_eq, nI2_i, nIc_ok, nCmp_i, nAdd_i, nEq_int, nNe_int, nEq_bl, nNe_bl, nEq_TI, nNe_TI, nEq_LI, nNe_LI, nIn_TI, nIn_LI, X_fld, max2, min2, nTupD0, nTupD1, nTupD2, nTupD3, nTupD4, nLstD0, nLstD1, nLstD2, nLstD3, nLstD4, isi_int_int, isi_int_bl, isi_int_tup, isi_int_lst, isi_int_non, isi_int_str, isi_bool_int, isi_bool_bl, isi_bool_tup, isi_bool_lst, isi_bool_non, isi_bool_str, isi_tuple_int, isi_tuple_bl, isi_tuple_tup, isi_tuple_lst, isi_tuple_non, isi_tuple_str, isi_list_int, isi_list_bl, isi_list_tup, isi_list_lst, isi_list_non, isi_list_str, isi_str_int, isi_str_bl, isi_str_tup, isi_str_lst, isi_str_non, isi_str_str, isN_non, notN_non, nonD_non, nonD_int, nonD_bl, nonD_tup, nonD_lst, nonD_str, Z_bTup, Z_bsC, Z_bsN, Z_bNm, Option.bind_some, Option.map_some, List.getElem?_cons_zero, List.getElem?_cons_succ, List.set_cons_zero, List.set_cons_succ, List.length_cons, List.length_nil, id, Bool.not_true, Bool.not_false, List.length_map, List.length_set, decide_true, decide_false, eq_self, if_true, if_false, Bool.false_eq_true, decide_eq_true_eq, not_true_eq_false, not_false_eq_true, true_and, and_true, Int.cast_ofNat_Int, Int.reduceLT, Int.reduceLE, Int.reduceEq, bindT, wipeE, backE, Z_seq, Z_pC, Z_v0, Z_vS, Z_iP, Z_p1, Z_p2, Z_i1, Z_i2, Z_psN, Z_psC, Z_isN, Z_isC, Z_pN, Z_iN, Z_bP, Z_bI, Z_liftB, Z_andP, Z_orP, Z_bNotP, Z_andI, Z_orI, Z_bNotI, Z_pAnd, Z_pOr, Z_pNot, Z_iAnd, Z_iOr, Z_iNot, Z_pIf, Z_iIf, Z_pChain, Z_iCall, Z_iMod, Z_ivSeq, Z_itSeq, Z_ivN, Z_itN, Z_sNx, Z_sBk, Z_sCt, Z_if, Z_sAsg, Z_sEx, Z_sRt, Z_sRtN, Z_sRtO, Z_sAug, Z_sTg, Z_sFor, Z_asB, Z_lstOf, Z_set, Z_app2, Z_appK, Z_sPar, Z_whl, Z_no, Z_ite', Z_some, Z_pComp, Z_iComp, Z_pSl, ZpO_some, ↓Z_forL_nil, ↓Z_forL_cons, ↓Z_compP_nil, ↓Z_compP_cons, ↓Z_compI_nil, ↓Z_compI_cons, ↓Z_bYes, ↓Z_iYes, Z_forL_nil, Z_forL_cons, Z_compP_nil, Z_compP_cons, Z_compI_nil, Z_compI_cons]
    · simp -dsimp only [↓Z_seq, ↓Z_pC, ↓Z_v0, ↓Z_vS, ↓Z_iP, ↓Z_p1, ↓Z_p2, ↓Z_i1, ↓Z_i2, ↓Z_psN, ↓Z_psC, ↓Z_isN, ↓Z_isC, ↓Z_pN, ↓Z_iN, ↓Z_bP, ↓Z_bI, ↓Z_liftB, ↓Z_andP, ↓Z_orP, ↓Z_bNotP, ↓Z_andI, ↓Z_orI, ↓Z_bNotI, ↓Z_pAnd, ↓Z_pOr, ↓Z_pNot, ↓Z_iAnd, ↓Z_iOr, ↓Z_iNot, ↓Z_pIf, ↓Z_iIf, ↓Z_pChain, ↓Z_iCall, ↓Z_iMod, ↓Z_ivSeq, ↓Z_itSeq, ↓Z_ivN, ↓Z_itN, ↓Z_sNx, ↓Z_sBk, ↓Z_sCt, ↓Z_if, ↓Z_sAsg, ↓Z_sEx, ↓Z_sRt, ↓Z_sRtN, ↓Z_sRtO, ↓Z_sAug, ↓Z_sTg, ↓Z_sFor, ↓Z_asB, ↓Z_lstOf, ↓Z_set, ↓Z_app2, ↓Z_appK, ↓Z_sPar, X_ex2, ↓Z_whl, ↓Z_no, ↓Z_ite', ↓Z_some, Z_map, ↓Z_pComp, ↓Z_iComp, ↓Z_pSl, pO_none, ↓ZpO_some, ZpO_int, Zx_nx, Zx_rt, Zx_bk, Zx_ct, Zf_nx, Zf_ct, Zf_bk, Zf_rt, Zr_rt, Zr_nx, Zr1_rt, Zr1_nx, wIf_t, wIf_f, wIf_not, sE, List.map_cons, List.map_nil, List.replicate_succ, List.replicate_zero, List.cons_append, List.nil_append, Nat.reduceSub, Nat.reduceAdd, nLen_lst, nLen_tup, nInt_int, nList_lst, nList_tup, nList_scr, nTuple_lst, nTuple_tup, nIx_lst, nIx_tup, seqOf_lst, seqOf_tup, gRev_eq, gPop_eq, nI2_i, nIc_ok, nCmp_i, nAdd_i, nEq_int, nNe_int, nEq_bl, nNe_bl, nEq_TI, nNe_TI, nEq_LI, nNe_LI, nIn_TI, nIn_LI, X_fld, max2, min2, nTupD0, nTupD1, nTupD2, nTupD3, nTupD4, nLstD0, nLstD1, nLstD2, nLstD3, nLstD4, isi_int_int, isi_int_bl, isi_int_tup, isi_int_lst, isi_int_non, isi_int_str, isi_bool_int, isi_bool_bl, isi_bool_tup, isi_bool_lst, isi_bool_non, isi_bool_str, isi_tuple_int, isi_tuple_bl, isi_tuple_tup, isi_tuple_lst, isi_tuple_non, isi_tuple_str, isi_list_int, isi_list_bl, isi_list_tup, isi_list_lst, isi_list_non, isi_list_str, isi_str_int, isi_str_bl, isi_str_tup, isi_str_lst, isi_str_non, isi_str_str, isN_non, notN_non, nonD_non, nonD_int, nonD_bl, nonD_tup, nonD_lst, nonD_str, Z_bTup, Z_bsC, Z_bsN, Z_bNm, Option.bind_some, Option.map_some, List.getElem?_cons_zero, List.getElem?_cons_succ, List.set_cons_zero, List.set_cons_succ, List.length_cons, List.length_nil, id, Bool.not_true, Bool.not_false, List.length_map, List.length_set, decide_true, decide_false, eq_self, if_true, if_false, Bool.false_eq_true, decide_eq_true_eq, not_true_eq_false, not_false_eq_true, true_and, and_true, Int.cast_ofNat_Int, Int.reduceLT, Int.reduceLE, Int.reduceEq, bindT, wipeE, backE, Z_seq, Z_pC, Z_v0, Z_vS, Z_iP, Z_p1, Z_p2, Z_i1, Z_i2, Z_psN, Z_psC, Z_isN, Z_isC, Z_pN, Z_iN, Z_bP, Z_bI, Z_liftB, Z_andP, Z_orP, Z_bNotP, Z_andI, Z_orI, Z_bNotI, Z_pAnd, Z_pOr, Z_pNot, Z_iAnd, Z_iOr, Z_iNot, Z_pIf, Z_iIf, Z_pChain, Z_iCall, Z_iMod, Z_ivSeq, Z_itSeq, Z_ivN, Z_itN, Z_sNx, Z_sBk, Z_sCt, Z_if, Z_sAsg, Z_sEx, Z_sRt, Z_sRtN, Z_sRtO, Z_sAug, Z_sTg, Z_sFor, Z_asB, Z_lstOf, Z_set, Z_app2, Z_appK, Z_sPar, Z_whl, Z_no, Z_ite', Z_some, Z_pComp, Z_iComp, Z_pSl, ZpO_some, ↓Z_forL_nil, ↓Z_forL_cons, ↓Z_compP_nil, ↓Z_compP_cons, ↓Z_compI_nil, ↓Z_compI_cons, ↓Z_bYes, ↓Z_iYes, Z_forL_nil, Z_forL_cons, Z_compP_nil, Z_compP_cons, Z_compI_nil, Z_compI_cons]
    · simp -dsimp only [↓Z_seq, ↓Z_pC, ↓Z_v0, ↓Z_vS, ↓Z_iP, ↓Z_p1, ↓Z_p2, ↓Z_i1, ↓Z_i2, ↓Z_psN, ↓Z_psC, ↓Z_isN, ↓Z_isC, ↓Z_pN, ↓Z_iN, ↓Z_bP, ↓Z_bI, ↓Z_liftB, ↓Z_andP, ↓Z_orP, ↓Z_bNotP, ↓Z_andI, ↓Z_orI, ↓Z_bNotI, ↓Z_pAnd, ↓Z_pOr, ↓Z_pNot, ↓Z_iAnd, ↓Z_iOr, ↓Z_iNot, ↓Z_pIf, ↓Z_iIf, ↓Z_pChain, ↓Z_iCall, ↓Z_iMod, ↓Z_ivSeq, ↓Z_itSeq, ↓Z_ivN, ↓Z_itN, ↓Z_sNx, ↓Z_sBk, ↓Z_sCt, ↓Z_if, ↓Z_sAsg, ↓Z_sEx, ↓Z_sRt, ↓Z_sRtN, ↓Z_sRtO, ↓Z_sAug, ↓Z_sTg, ↓Z_sFor, ↓Z_asB, ↓Z_lstOf, ↓Z_set, ↓Z_app2, ↓Z_appK, ↓Z_sPar, X_ex2, ↓Z_whl, ↓Z_no, ↓Z_ite', ↓Z_some, Z_map, ↓Z_pComp, ↓Z_iComp, ↓Z_pSl, pO_none, ↓ZpO_some, ZpO_int, Zx_nx, Zx_rt, Zx_bk, Zx_ct, Zf_nx, Zf_ct, Zf_bk, Zf_rt, Zr_rt, Zr_nx, Zr1_rt, Zr1_nx, wIf_t, wIf_f, wIf_not, sE, List.map_cons, List.map_nil, List.replicate_succ, List.replicate_zero, List.cons_append, List.nil_append, Nat.reduceSub, Nat.reduceAdd, nLen_lst, nLen_tup, nInt_int, nList_lst, nList_tup, nList_scr, nTuple_lst, nTuple_tup, nIx_lst, nIx_tup, seqOf_lst, seqOf_tup, gRev_eq, gPop_eq, nI2_i, nIc_ok, nCmp_i, nAdd_i, nEq_int, nNe_int, nEq_bl, nNe_bl, nEq_TI, nNe_TI, nEq_LI, nNe_LI, nIn_TI, nIn_LI, X_fld, max2, min2, nTupD0, nTupD1, nTupD2, nTupD3, nTupD4, nLstD0, nLstD1, nLstD2, nLstD3, nLstD4, isi_int_int, isi_int_bl, isi_int_tup, isi_int_lst, isi_int_non, isi_int_str, isi_bool_int, isi_bool_bl, isi_bool_tup, isi_bool_lst, isi_bool_non, isi_bool_str, isi_tuple_int, isi_tuple_bl, isi_tuple_tup, isi_tuple_lst, isi_tuple_non, isi_tuple_str, isi_list_int, isi_list_bl, isi_list_tup, isi_list_lst, isi_list_non, isi_list_str, isi_str_int, isi_str_bl, isi_str_tup, isi_str_lst, isi_str_non, isi_str_str, isN_non, notN_non, nonD_non, nonD_int, nonD_bl, nonD_tup, nonD_lst, nonD_str, Z_bTup, Z_bsC, Z_bsN, Z_bNm, Option.bind_some, Option.map_some, List.getElem?_cons_zero, List.getElem?_cons_succ, List.set_cons_zero, List.set_cons_succ, List.length_cons, List.length_nil, id, Bool.not_true, Bool.not_false, List.length_map, List.length_set, decide_true, decide_false, eq_self, if_true, if_false, Bool.false_eq_true, decide_eq_true_eq, not_true_eq_false, not_false_eq_true, true_and, and_true, Int.cast_ofNat_Int, Int.reduceLT, Int.reduceLE, Int.reduceEq, bindT, wipeE, backE, Z_seq, Z_pC, Z_v0, Z_vS, Z_iP, Z_p1, Z_p2, Z_i1, Z_i2, Z_psN, Z_psC, Z_isN, Z_isC, Z_pN, Z_iN, Z_bP, Z_bI, Z_liftB, Z_andP, Z_orP, Z_bNotP, Z_andI, Z_orI, Z_bNotI, Z_pAnd, Z_pOr, Z_pNot, Z_iAnd, Z_iOr, Z_iNot, Z_pIf, Z_iIf, Z_pChain, Z_iCall, Z_iMod, Z_ivSeq, Z_itSeq, Z_ivN, Z_itN, Z_sNx, Z_sBk, Z_sCt, Z_if, Z_sAsg, Z_sEx, Z_sRt, Z_sRtN, Z_sRtO, Z_sAug, Z_sTg, Z_sFor, Z_asB, Z_lstOf, Z_set, Z_app2, Z_appK, Z_sPar, Z_whl, Z_no, Z_ite', Z_some, Z_pComp, Z_iComp, Z_pSl, ZpO_some, ↓Z_forL_nil, ↓Z_forL_cons, ↓Z_compP_nil, ↓Z_compP_cons, ↓Z_compI_nil, ↓Z_compI_cons, ↓Z_bYes, ↓Z_iYes, Z_forL_nil, Z_forL_cons, Z_compP_nil, Z_compP_cons, Z_compI_nil, Z_compI_cons]
      refine ⟨s.filter fun a => decide (((r.filter fun b => !indep L a b).length : Int) = 0), fun x hx => hs x (List.mem_filter.mp hx).1, ?_, rfl⟩
      have := List.length_filter_le (fun a => decide (((r.filter fun b => !indep L a b).length : Int) = 0)) s
      omega
  · intro _
    simp -dsimp only [↓Z_seq, ↓Z_pC, ↓Z_v0, ↓Z_vS, ↓Z_iP, ↓Z_p1, ↓Z_p2, ↓Z_i1, ↓Z_i2, ↓Z_psN, ↓Z_psC, ↓Z_isN, ↓Z_isC, ↓Z_pN, ↓Z_iN, ↓Z_bP, ↓Z_bI, ↓Z_liftB, ↓Z_andP, ↓Z_orP, ↓Z_bNotP, ↓Z_andI, ↓Z_orI, ↓Z_bNotI, ↓Z_pAnd, ↓Z_pOr, ↓Z_pNot, ↓Z_iAnd, ↓Z_iOr, ↓Z_iNot, ↓Z_pIf, ↓Z_iIf, ↓Z_pChain, ↓Z_iCall, ↓Z_iMod, ↓Z_ivSeq, ↓Z_itSeq, ↓Z_ivN, ↓Z_itN, ↓Z_sNx, ↓Z_sBk, ↓Z_sCt, ↓Z_if, ↓Z_sAsg, ↓Z_sEx, ↓Z_sRt, ↓Z_sRtN, ↓Z_sRtO, ↓Z_sAug, ↓Z_sTg, ↓Z_sFor, ↓Z_asB, ↓Z_lstOf, ↓Z_set, ↓Z_app2, ↓Z_appK, ↓Z_sPar, X_ex2, ↓Z_whl, ↓Z_no, ↓Z_ite', ↓Z_some, Z_map, ↓Z_pComp, ↓Z_iComp, ↓Z_pSl, pO_none, ↓ZpO_some, ZpO_int, Zx_nx, Zx_rt, Zx_bk, Zx_ct, Zf_nx, Zf_ct, Zf_bk, Zf_rt, Zr_rt, Zr_nx, Zr1_rt, Zr1_nx, wIf_t, wIf_f, wIf_not, sE, List.map_cons, List.map_nil, List.replicate_succ, List.replicate_zero, List.cons_append, List.nil_append, Nat.reduceSub, Nat.reduceAdd, nLen_lst, nLen_tup, nInt_int, nList_lst, nList_tup, nList_scr, nTuple_lst, nTuple_tup, nIx_lst, nIx_tup, seqOf_lst, seqOf_tup, gRev_eq, gPop_eq, nI2_i, nIc_ok, nCmp_i, nAdd_i, nEq_int, nNe_int, nEq_bl, nNe_bl, nEq_TI, nNe_TI, nEq_LI, nNe_LI, nIn_TI, nIn_LI, X_fld, max2, min2, nTupD0, nTupD1, nTupD2, nTupD3, nTupD4, nLstD0, nLstD1, nLstD2, nLstD3, nLstD4, isi_int_int, isi_int_bl, isi_int_tup, isi_int_lst, isi_int_non, isi_int_str, isi_bool_int, isi_bool_bl, isi_bool_tup, isi_bool_lst, isi_bool_non, isi_bool_str, isi_tuple_int, isi_tuple_bl, isi_tuple_tup, isi_tuple_lst, isi_tuple_non, isi_tuple_str, isi_list_int, isi_list_bl, isi_list_tup, isi_list_lst, isi_list_non, isi_list_str, isi_str_int, isi_str_bl, isi_str_tup, isi_str_lst, isi_str_non, isi_str_str, isN_non, notN_non, nonD_non, nonD_int, nonD_bl, nonD_tup, nonD_lst, nonD_str, Z_bTup, Z_bsC, Z_bsN, Z_bNm, Option.bind_some, Option.map_some, List.getElem?_cons_zero, List.getElem?_cons_succ, List.set_cons_zero, List.set_cons_succ, List.length_cons, List.length_nil, id, Bool.not_true, Bool.not_false, List.length_map, List.length_set, decide_true, decide_false, eq_self, if_true, if_false, Bool.false_eq_true, decide_eq_true_eq, not_true_eq_false, not_false_eq_true, true_and, and_true, Int.cast_ofNat_Int, Int.reduceLT, Int.reduceLE, Int.reduceEq, bindT, wipeE, backE, Z_seq, Z_pC, Z_v0, Z_vS, Z_iP, Z_p1, Z_p2, Z_i1, Z_i2, Z_psN, Z_psC, Z_isN, Z_isC, Z_pN, Z_iN, Z_bP, Z_bI, Z_liftB, Z_andP, Z_orP, Z_bNotP, Z_andI, Z_orI, Z_bNotI, Z_pAnd, Z_pOr, Z_pNot, Z_iAnd, Z_iOr, Z_iNot, Z_pIf, Z_iIf, Z_pChain, Z_iCall, Z_iMod, Z_ivSeq, Z_itSeq, Z_ivN, Z_itN, Z_sNx, Z_sBk, Z_sCt, Z_if, Z_sAsg, Z_sEx, Z_sRt, Z_sRtN, Z_sRtO, Z_sAug, Z_sTg, Z_sFor, Z_asB, Z_lstOf, Z_set, Z_app2, Z_appK, Z_sPar, Z_whl, Z_no, Z_ite', Z_some, Z_pComp, Z_iComp, Z_pSl, ZpO_some, ↓Z_forL_nil, ↓Z_forL_cons, ↓Z_compP_nil, ↓Z_compP_cons, ↓Z_compI_nil, ↓Z_compI_cons, ↓Z_bYes, ↓Z_iYes, Z_forL_nil, Z_forL_cons, Z_compP_nil, Z_compP_cons, Z_compI_nil, Z_compI_cons]
    exact ⟨s, hs, ls, rfl⟩
  clear hs ls
  rintro env ⟨s, hs, ls, rfl⟩
  simp -dsimp only [↓Z_seq, ↓Z_pC, ↓Z_v0, ↓Z_vS, ↓Z_iP, ↓Z_p1, ↓Z_p2, ↓Z_i1, ↓Z_i2, ↓Z_psN, ↓Z_psC, ↓Z_isN, ↓Z_isC, ↓Z_pN, ↓Z_iN, ↓Z_bP, ↓Z_bI, ↓Z_liftB, ↓Z_andP, ↓Z_orP, ↓Z_bNotP, ↓Z_andI, ↓Z_orI, ↓Z_bNotI, ↓Z_pAnd, ↓Z_pOr, ↓Z_pNot, ↓Z_iAnd, ↓Z_iOr, ↓Z_iNot, ↓Z_pIf, ↓Z_iIf, ↓Z_pChain, ↓Z_iCall, ↓Z_iMod, ↓Z_ivSeq, ↓Z_itSeq, ↓Z_ivN, ↓Z_itN, ↓Z_sNx, ↓Z_sBk, ↓Z_sCt, ↓Z_if, ↓Z_sAsg, ↓Z_sEx, ↓Z_sRt, ↓Z_sRtN, ↓Z_sRtO, ↓Z_sAug, ↓Z_sTg, ↓Z_sFor, ↓Z_asB, ↓Z_lstOf, ↓Z_set, ↓Z_app2, ↓Z_appK, ↓Z_sPar, X_ex2, ↓Z_whl, ↓Z_no, ↓Z_ite', ↓Z_some, Z_map, ↓Z_pComp, ↓Z_iComp, ↓Z_pSl, pO_none, ↓ZpO_some, ZpO_int, Zx_nx, Zx_rt, Zx_bk, Zx_ct, Zf_nx, Zf_ct, Zf_bk, Zf_rt, Zr_rt, Zr_nx, Zr1_rt, Zr1_nx, wIf_t, wIf_f, wIf_not, sE, List.map_cons, List.map_nil, List.replicate_succ, List.replicate_zero, List.cons_append, List.nil_append, Nat.reduceSub, Nat.reduceAdd, nLen_lst, nLen_tup, nInt_int, nList_lst, nList_tup, nList_scr, nTuple_lst, nTuple_tup, nIx_lst, nIx_tup, seqOf_lst, seqOf_tup, gRev_eq, gPop_eq, nI2_i, nIc_ok, nCmp_i, nAdd_i, nEq_int, nNe_int, nEq_bl, nNe_bl, nEq_TI, nNe_TI, nEq_LI, nNe_LI, nIn_TI, nIn_LI, X_fld, max2, min2, nTupD0, nTupD1, nTupD2, nTupD3, nTupD4, nLstD0, nLstD1, nLstD2, nLstD3, nLstD4, isi_int_int, isi_int_bl, isi_int_tup, isi_int_lst, isi_int_non, isi_int_str, isi_bool_int, isi_bool_bl, isi_bool_tup, isi_bool_lst, isi_bool_non, isi_bool_str, isi_tuple_int, isi_tuple_bl, isi_tuple_tup, isi_tuple_lst, isi_tuple_non, isi_tuple_str, isi_list_int, isi_list_bl, isi_list_tup, isi_list_lst, isi_list_non, isi_list_str, isi_str_int, isi_str_bl, isi_str_tup, isi_str_lst, isi_str_non, isi_str_str, isN_non, notN_non, nonD_non, nonD_int, nonD_bl, nonD_tup, nonD_lst, nonD_str, Z_bTup, Z_bsC, Z_bsN, Z_bNm, Option.bind_some, Option.map_some, List.getElem?_cons_zero, List.getElem?_cons_succ, List.set_cons_zero, List.set_cons_succ, List.length_cons, List.length_nil, id, Bool.not_true, Bool.not_false, List.length_map, List.length_set, decide_true, decide_false, eq_self, if_true, if_false, Bool.false_eq_true, decide_eq_true_eq, not_true_eq_false, not_false_eq_true, true_and, and_true, Int.cast_ofNat_Int, Int.reduceLT, Int.reduceLE, Int.reduceEq, bindT, wipeE, backE, Z_seq, Z_pC, Z_v0, Z_vS, Z_iP, Z_p1, Z_p2, Z_i1, Z_i2, Z_psN, Z_psC, Z_isN, Z_isC, Z_pN, Z_iN, Z_bP, Z_bI, Z_liftB, Z_andP, Z_orP, Z_bNotP, Z_andI, Z_orI, Z_bNotI, Z_pAnd, Z_pOr, Z_pNot, Z_iAnd, Z_iOr, Z_iNot, Z_pIf, Z_iIf, Z_pChain, Z_iCall, Z_iMod, Z_ivSeq, Z_itSeq, Z_ivN, Z_itN, Z_sNx, Z_sBk, Z_sCt, Z_if, Z_sAsg, Z_sEx, Z_sRt, Z_sRtN, Z_sRtO, Z_sAug, Z_sTg, Z_sFor, Z_asB, Z_lstOf, Z_set, Z_app2, Z_appK, Z_sPar, Z_whl, Z_no, Z_ite', Z_some, Z_pComp, Z_iComp, Z_pSl, ZpO_some, ↓Z_forL_nil, ↓Z_forL_cons, ↓Z_compP_nil, ↓Z_compP_cons, ↓Z_compI_nil, ↓Z_compI_cons, ↓Z_bYes, ↓Z_iYes, Z_forL_nil, Z_forL_cons, Z_compP_nil, Z_compP_cons, Z_compI_nil, Z_compI_cons, sem_law_8, cat_TI p r (by omega), cat_TI s q (by omega), cat_TI p s (by omega), cat_TI r q (by omega), e_shuf]
  refine ⟨size_lt (by omega), ?_⟩
  refine W.mono (shuffled_spec hd6 (inR_app hp hr) hl64 20 (by omega) (by omega) (by rw [List.length_append]; omega)) ?_
  rintro ⟨_, d7⟩ ⟨x, rfl, hd7, hx⟩
  have hd7 : Dr d7 := hd7
  have hx : Sw L (p ++ r) x := hx
  simp -dsimp only [↓Z_seq, ↓Z_pC, ↓Z_v0, ↓Z_vS, ↓Z_iP, ↓Z_p1, ↓Z_p2, ↓Z_i1, ↓Z_i2, ↓Z_psN, ↓Z_psC, ↓Z_isN, ↓Z_isC, ↓Z_pN, ↓Z_iN, ↓Z_bP, ↓Z_bI, ↓Z_liftB, ↓Z_andP, ↓Z_orP, ↓Z_bNotP, ↓Z_andI, ↓Z_orI, ↓Z_bNotI, ↓Z_pAnd, ↓Z_pOr, ↓Z_pNot, ↓Z_iAnd, ↓Z_iOr, ↓Z_iNot, ↓Z_pIf, ↓Z_iIf, ↓Z_pChain, ↓Z_iCall, ↓Z_iMod, ↓Z_ivSeq, ↓Z_itSeq, ↓Z_ivN, ↓Z_itN, ↓Z_sNx, ↓Z_sBk, ↓Z_sCt, ↓Z_if, ↓Z_sAsg, ↓Z_sEx, ↓Z_sRt, ↓Z_sRtN, ↓Z_sRtO, ↓Z_sAug, ↓Z_sTg, ↓Z_sFor, ↓Z_asB, ↓Z_lstOf, ↓Z_set, ↓Z_app2, ↓Z_appK, ↓Z_sPar, X_ex2, ↓Z_whl, ↓Z_no, ↓Z_ite', ↓Z_some, Z_map, ↓Z_pComp, ↓Z_iComp, ↓Z_pSl, pO_none, ↓ZpO_some, ZpO_int, Zx_nx, Zx_rt, Zx_bk, Zx_ct, Zf_nx, Zf_ct, Zf_bk, Zf_rt, Zr_rt, Zr_nx, Zr1_rt, Zr1_nx, wIf_t, wIf_f, wIf_not, sE, List.map_cons, List.map_nil, List.replicate_succ, List.replicate_zero, List.cons_append, List.nil_append, Nat.reduceSub, Nat.reduceAdd, nLen_lst, nLen_tup, nInt_int, nList_lst, nList_tup, nList_scr, nTuple_lst, nTuple_tup, nIx_lst, nIx_tup, seqOf_lst, seqOf_tup, gRev_eq, gPop_eq, nI2_i, nIc_ok, nCmp_i, nAdd_i, nEq_int, nNe_int, nEq_bl, nNe_bl, nEq_TI, nNe_TI, nEq_LI, nNe_LI, nIn_TI, nIn_LI, X_fld, max2, min2, nTupD0, nTupD1, nTupD2, nTupD3, nTupD4, nLstD0, nLstD1, nLstD2, nLstD3, nLstD4, isi_int_int, isi_int_bl, isi_int_tup, isi_int_lst, isi_int_non, isi_int_str, isi_bool_int, isi_bool_bl, isi_bool_tup, isi_bool_lst, isi_bool_non, isi_bool_str, isi_tuple_int, isi_tuple_bl, isi_tuple_tup, isi_tuple_lst, isi_tuple_non, isi_tuple_str, isi_list_int, isi_list_bl, isi_list_tup, isi_list_lst, isi_list_non, isi_list_str, isi_str_int, isi_str_bl, isi_str_tup, isi_str_lst, isi_str_non, isi_str_str, isN_non, notN_non, nonD_non, nonD_int, nonD_bl, nonD_tup, nonD_lst, nonD_str, Z_bTup, Z_bsC, Z_bsN, Z_bNm, Option.bind_some, Option.map_some, List.getElem?_cons_zero, List.getElem?_cons_succ, List.set_cons_zero, List.set_cons_succ, List.length_cons, List.length_nil, id, Bool.not_true, Bool.not_false, List.length_map, List.length_set, decide_true, decide_false, eq_self, if_true, if_false, Bool.false_eq_true, decide_eq_true_eq, not_true_eq_false, not_false_eq_true, true_and, and_true, Int.cast_ofNat_Int, Int.reduceLT, Int.reduceLE, Int.reduceEq, bindT, wipeE, backE, Z_seq, Z_pC, Z_v0, Z_vS, Z_iP, Z_p1, Z_p2, Z_i1, Z_i2, Z_psN, Z_psC, Z_isN, Z_isC, Z_pN, Z_iN, Z_bP, Z_bI, Z_liftB, Z_andP, Z_orP, Z_bNotP, Z_andI, Z_orI, Z_bNotI, Z_pAnd, Z_pOr, Z_pNot, Z_iAnd, Z_iOr, Z_iNot, Z_pIf, Z_iIf, Z_pChain, Z_iCall, Z_iMod, Z_ivSeq, Z_itSeq, Z_ivN, Z_itN, Z_sNx, Z_sBk, Z_sCt, Z_if, Z_sAsg, Z_sEx, Z_sRt, Z_sRtN, Z_sRtO, Z_sAug, Z_sTg, Z_sFor, Z_asB, Z_lstOf, Z_set, Z_app2, Z_appK, Z_sPar, Z_whl, Z_no, Z_ite', Z_some, Z_pComp, Z_iComp, Z_pSl, ZpO_some, ↓Z_forL_nil, ↓Z_forL_cons, ↓Z_compP_nil, ↓Z_compP_cons, ↓Z_compI_nil, ↓Z_compI_cons, ↓Z_bYes, ↓Z_iYes, Z_forL_nil, Z_forL_cons, Z_compP_nil, Z_compP_cons, Z_compI_nil, Z_compI_cons, e_shuf]
  refine W.mono (shuffled_spec hd7 (inR_app hs hq) hl64 20 (by omega) (by omega) (by rw [List.length_append]; omega)) ?_
  rintro ⟨_, d8⟩ ⟨y, rfl, hd8, hy⟩
  have hd8 : Dr d8 := hd8
  have hy : Sw L (s ++ q) y := hy
  simp -dsimp only [↓Z_seq, ↓Z_pC, ↓Z_v0, ↓Z_vS, ↓Z_iP, ↓Z_p1, ↓Z_p2, ↓Z_i1, ↓Z_i2, ↓Z_psN, ↓Z_psC, ↓Z_isN, ↓Z_isC, ↓Z_pN, ↓Z_iN, ↓Z_bP, ↓Z_bI, ↓Z_liftB, ↓Z_andP, ↓Z_orP, ↓Z_bNotP, ↓Z_andI, ↓Z_orI, ↓Z_bNotI, ↓Z_pAnd, ↓Z_pOr, ↓Z_pNot, ↓Z_iAnd, ↓Z_iOr, ↓Z_iNot, ↓Z_pIf, ↓Z_iIf, ↓Z_pChain, ↓Z_iCall, ↓Z_iMod, ↓Z_ivSeq, ↓Z_itSeq, ↓Z_ivN, ↓Z_itN, ↓Z_sNx, ↓Z_sBk, ↓Z_sCt, ↓Z_if, ↓Z_sAsg, ↓Z_sEx, ↓Z_sRt, ↓Z_sRtN, ↓Z_sRtO, ↓Z_sAug, ↓Z_sTg, ↓Z_sFor, ↓Z_asB, ↓Z_lstOf, ↓Z_set, ↓Z_app2, ↓Z_appK, ↓Z_sPar, X_ex2, ↓Z_whl, ↓Z_no, ↓Z_ite', ↓Z_some, Z_map, ↓Z_pComp, ↓Z_iComp, ↓Z_pSl, pO_none, ↓ZpO_some, ZpO_int, Zx_nx, Zx_rt, Zx_bk, Zx_ct, Zf_nx, Zf_ct, Zf_bk, Zf_rt, Zr_rt, Zr_nx, Zr1_rt, Zr1_nx, wIf_t, wIf_f, wIf_not, sE, List.map_cons, List.map_nil, List.replicate_succ, List.replicate_zero, List.cons_append, List.nil_append, Nat.reduceSub, Nat.reduceAdd, nLen_lst, nLen_tup, nInt_int, nList_lst, nList_tup, nList_scr, nTuple_lst, nTuple_tup, nIx_lst, nIx_tup, seqOf_lst, seqOf_tup, gRev_eq, gPop_eq, nI2_i, nIc_ok, nCmp_i, nAdd_i, nEq_int, nNe_int, nEq_bl, nNe_bl, nEq_TI, nNe_TI, nEq_LI, nNe_LI, nIn_TI, nIn_LI, X_fld, max2, min2, nTupD0, nTupD1, nTupD2, nTupD3, nTupD4, nLstD0, nLstD1, nLstD2, nLstD3, nLstD4, isi_int_int, isi_int_bl, isi_int_tup, isi_int_lst, isi_int_non, isi_int_str, isi_bool_int, isi_bool_bl, isi_bool_tup, isi_bool_lst, isi_bool_non, isi_bool_str, isi_tuple_int, isi_tuple_bl, isi_tuple_tup, isi_tuple_lst, isi_tuple_non, isi_tuple_str, isi_list_int, isi_list_bl, isi_list_tup, isi_list_lst, isi_list_non, isi_list_str, isi_str_int, isi_str_bl, isi_str_tup, isi_str_lst, isi_str_non, isi_str_str, isN_non, notN_non, nonD_non, nonD_int, nonD_bl, nonD_tup, nonD_lst, nonD_str, Z_bTup, Z_bsC, Z_bsN, Z_bNm, Option.bind_some, Option.map_some, List.getElem?_cons_zero, List.getElem?_cons_succ, List.set_cons_zero, List.set_cons_succ, List.length_cons, List.length_nil, id, Bool.not_true, Bool.not_false, List.length_map, List.length_set, decide_true, decide_false, eq_self, if_true, if_false, Bool.false_eq_true, decide_eq_true_eq, not_true_eq_false, not_false_eq_true, true_and, and_true, Int.cast_ofNat_Int, Int.reduceLT, Int.reduceLE, Int.reduceEq, bindT, wipeE, backE, Z_seq, Z_pC, Z_v0, Z_vS, Z_iP, Z_p1, Z_p2, Z_i1, Z_i2, Z_psN, Z_psC, Z_isN, Z_isC, Z_pN, Z_iN, Z_bP, Z_bI, Z_liftB, Z_andP, Z_orP, Z_bNotP, Z_andI, Z_orI, Z_bNotI, Z_pAnd, Z_pOr, Z_pNot, Z_iAnd, Z_iOr, Z_iNot, Z_pIf, Z_iIf, Z_pChain, Z_iCall, Z_iMod, Z_ivSeq, Z_itSeq, Z_ivN, Z_itN, Z_sNx, Z_sBk, Z_sCt, Z_if, Z_sAsg, Z_sEx, Z_sRt, Z_sRtN, Z_sRtO, Z_sAug, Z_sTg, Z_sFor, Z_asB, Z_lstOf, Z_set, Z_app2, Z_appK, Z_sPar, Z_whl, Z_no, Z_ite', Z_some, Z_pComp, Z_iComp, Z_pSl, ZpO_some, ↓Z_forL_nil, ↓Z_forL_cons, ↓Z_compP_nil, ↓Z_compP_cons, ↓Z_compI_nil, ↓Z_compI_cons, ↓Z_bYes, ↓Z_iYes, Z_forL_nil, Z_forL_cons, Z_compP_nil, Z_compP_cons, Z_compI_nil, Z_compI_cons, e_shuf]
  refine W.mono (shuffled_spec hd8 (inR_app hp hs) hl64 20 (by omega) (by omega) (by rw [List.length_append]; omega)) ?_
  rintro ⟨_, d9⟩ ⟨u, rfl, hd9, hu⟩
  have hd9 : Dr d9 := hd9
  have hu : Sw L (p ++ s) u := hu
  simp -dsimp only [↓Z_seq, ↓Z_pC, ↓Z_v0, ↓Z_vS, ↓Z_iP, ↓Z_p1, ↓Z_p2, ↓Z_i1, ↓Z_i2, ↓Z_psN, ↓Z_psC, ↓Z_isN, ↓Z_isC, ↓Z_pN, ↓Z_iN, ↓Z_bP, ↓Z_bI, ↓Z_liftB, ↓Z_andP, ↓Z_orP, ↓Z_bNotP, ↓Z_andI, ↓Z_orI, ↓Z_bNotI, ↓Z_pAnd, ↓Z_pOr, ↓Z_pNot, ↓Z_iAnd, ↓Z_iOr, ↓Z_iNot, ↓Z_pIf, ↓Z_iIf, ↓Z_pChain, ↓Z_iCall, ↓Z_iMod, ↓Z_ivSeq, ↓Z_itSeq, ↓Z_ivN, ↓Z_itN, ↓Z_sNx, ↓Z_sBk, ↓Z_sCt, ↓Z_if, ↓Z_sAsg, ↓Z_sEx, ↓Z_sRt, ↓Z_sRtN, ↓Z_sRtO, ↓Z_sAug, ↓Z_sTg, ↓Z_sFor, ↓Z_asB, ↓Z_lstOf, ↓Z_set, ↓Z_app2, ↓Z_appK, ↓Z_sPar, X_ex2, ↓Z_whl, ↓Z_no, ↓Z_ite', ↓Z_some, Z_map, ↓Z_pComp, ↓Z_iComp, ↓Z_pSl, pO_none, ↓ZpO_some, ZpO_int, Zx_nx, Zx_rt, Zx_bk, Zx_ct, Zf_nx, Zf_ct, Zf_bk, Zf_rt, Zr_rt, Zr_nx, Zr1_rt, Zr1_nx, wIf_t, wIf_f, wIf_not, sE, List.map_cons, List.map_nil, List.replicate_succ, List.replicate_zero, List.cons_append, List.nil_append, Nat.reduceSub, Nat.reduceAdd, nLen_lst, nLen_tup, nInt_int, nList_lst, nList_tup, nList_scr, nTuple_lst, nTuple_tup, nIx_lst, nIx_tup, seqOf_lst, seqOf_tup, gRev_eq, gPop_eq, nI2_i, nIc_ok, nCmp_i, nAdd_i, nEq_int, nNe_int, nEq_bl, nNe_bl, nEq_TI, nNe_TI, nEq_LI, nNe_LI, nIn_TI, nIn_LI, X_fld, max2, min2, nTupD0, nTupD1, nTupD2, nTupD3, nTupD4, nLstD0, nLstD1, nLstD2, nLstD3, nLstD4, isi_int_int, isi_int_bl, isi_int_tup, isi_int_lst, isi_int_non, isi_int_str, isi_bool_int, isi_bool_bl, isi_bool_tup, isi_bool_lst, isi_bool_non, isi_bool_str, isi_tuple_int, isi_tuple_bl, isi_tuple_tup, isi_tuple_lst, isi_tuple_non, isi_tuple_str, isi_list_int, isi_list_bl, isi_list_tup, isi_list_lst, isi_list_non, isi_list_str, isi_str_int, isi_str_bl, isi_str_tup, isi_str_lst, isi_str_non, isi_str_str, isN_non, notN_non, nonD_non, nonD_int, nonD_bl, nonD_tup, nonD_lst, nonD_str, Z_bTup, Z_bsC, Z_bsN, Z_bNm, Option.bind_some, Option.map_some, List.getElem?_cons_zero, List.getElem?_cons_succ, List.set_cons_zero, List.set_cons_succ, List.length_cons, List.length_nil, id, Bool.not_true, Bool.not_false, List.length_map, List.length_set, decide_true, decide_false, eq_self, if_true, if_false, Bool.false_eq_true, decide_eq_true_eq, not_true_eq_false, not_false_eq_true, true_and, and_true, Int.cast_ofNat_Int, Int.reduceLT, Int.reduceLE, Int.reduceEq, bindT, wipeE, backE, Z_seq, Z_pC, Z_v0, Z_vS, Z_iP, Z_p1, Z_p2, Z_i1, Z_i2, Z_psN, Z_psC, Z_isN, Z_isC, Z_pN, Z_iN, Z_bP, Z_bI, Z_liftB, Z_andP, Z_orP, Z_bNotP, Z_andI, Z_orI, Z_bNotI, Z_pAnd, Z_pOr, Z_pNot, Z_iAnd, Z_iOr, Z_iNot, Z_pIf, Z_iIf, Z_pChain, Z_iCall, Z_iMod, Z_ivSeq, Z_itSeq, Z_ivN, Z_itN, Z_sNx, Z_sBk, Z_sCt, Z_if, Z_sAsg, Z_sEx, Z_sRt, Z_sRtN, Z_sRtO, Z_sAug, Z_sTg, Z_sFor, Z_asB, Z_lstOf, Z_set, Z_app2, Z_appK, Z_sPar, Z_whl, Z_no, Z_ite', Z_some, Z_pComp, Z_iComp, Z_pSl, ZpO_some, ↓Z_forL_nil, ↓Z_forL_cons, ↓Z_compP_nil, ↓Z_compP_cons, ↓Z_compI_nil, ↓Z_compI_cons, ↓Z_bYes, ↓Z_iYes, Z_forL_nil, Z_forL_cons, Z_compP_nil, Z_compP_cons, Z_compI_nil, Z_compI_cons, e_shuf]
  refine W.mono (shuffled_spec hd9 (inR_app hr hq) hl64 20 (by omega) (by omega) (by rw [List.length_append]; omega)) ?_
  rintro ⟨_, d10⟩ ⟨v, rfl, hd10, hv⟩
  have hd10 : Dr d10 := hd10
  have hv : Sw L (r ++ q) v := hv
  have shin : ∀ {a b : List Int}, Sw L a b → inR L.length a → inR L.length b := fun h ha z hz => ha z (h.perm.mem_iff.mp hz)
  have x0 := shin hx (inR_app hp hr)
  have y0 := shin hy (inR_app hs hq)
  have u0 := shin hu (inR_app hp hs)
  have v0 := shin hv (inR_app hr hq)
  have lx := hx.perm.length_eq
  have ly := hy.perm.length_eq
  have lu := hu.perm.length_eq
  have lv := hv.perm.length_eq
  rw [List.length_append] at lx ly lu lv
  by_cases hyl : (0 : Int) < (y.length : Nat)
  · simp -dsimp only [↓Z_seq, ↓Z_pC, ↓Z_v0, ↓Z_vS, ↓Z_iP, ↓Z_p1, ↓Z_p2, ↓Z_i1, ↓Z_i2, ↓Z_psN, ↓Z_psC, ↓Z_isN, ↓Z_isC, ↓Z_pN, ↓Z_iN, ↓Z_bP, ↓Z_bI, ↓Z_liftB, ↓Z_andP, ↓Z_orP, ↓Z_bNotP, ↓Z_andI, ↓Z_orI, ↓Z_bNotI, ↓Z_pAnd, ↓Z_pOr, ↓Z_pNot, ↓Z_iAnd, ↓Z_iOr, ↓Z_iNot, ↓Z_pIf, ↓Z_iIf, ↓Z_pChain, ↓Z_iCall, ↓Z_iMod, ↓Z_ivSeq, ↓Z_itSeq, ↓Z_ivN, ↓Z_itN, ↓Z_sNx, ↓Z_sBk, ↓Z_sCt, ↓Z_if, ↓Z_sAsg, ↓Z_sEx, ↓Z_sRt, ↓Z_sRtN, ↓Z_sRtO, ↓Z_sAug, ↓Z_sTg, ↓Z_sFor, ↓Z_asB, ↓Z_lstOf, ↓Z_set, ↓Z_app2, ↓Z_appK, ↓Z_sPar, X_ex2, ↓Z_whl, ↓Z_no, ↓Z_ite', ↓Z_some, Z_map, ↓Z_pComp, ↓Z_iComp, ↓Z_pSl, pO_none, ↓ZpO_some, ZpO_int, Zx_nx, Zx_rt, Zx_bk, Zx_ct, Zf_nx, Zf_ct, Zf_bk, Zf_rt, Zr_rt, Zr_nx, Zr1_rt, Zr1_nx, wIf_t, wIf_f, wIf_not, sE, List.map_cons, List.map_nil, List.replicate_succ, List.replicate_zero, List.cons_append, List.nil_append, Nat.reduceSub, Nat.reduceAdd, nLen_lst, nLen_tup, nInt_int, nList_lst, nList_tup, nList_scr, nTuple_lst, nTuple_tup, nIx_lst, nIx_tup, seqOf_lst, seqOf_tup, gRev_eq, gPop_eq, nI2_i, nIc_ok, nCmp_i, nAdd_i, nEq_int, nNe_int, nEq_bl, nNe_bl, nEq_TI, nNe_TI, nEq_LI, nNe_LI, nIn_TI, nIn_LI, X_fld, max2, min2, nTupD0, nTupD1, nTupD2, nTupD3, nTupD4, nLstD0, nLstD1, nLstD2, nLstD3, nLstD4, isi_int_int, isi_int_bl, isi_int_tup, isi_int_lst, isi_int_non, isi_int_str, isi_bool_int, isi_bool_bl, isi_bool_tup, isi_bool_lst, isi_bool_non, isi_bool_str, isi_tuple_int, isi_tuple_bl, isi_tuple_tup, isi_tuple_lst, isi_tuple_non, isi_tuple_str, isi_list_int, isi_list_bl, isi_list_tup, isi_list_lst, isi_list_non, isi_list_str, isi_str_int, isi_str_bl, isi_str_tup, isi_str_lst, isi_str_non, isi_str_str, isN_non, notN_non, nonD_non, nonD_int, nonD_bl, nonD_tup, nonD_lst, nonD_str, Z_bTup, Z_bsC, Z_bsN, Z_bNm, Option.bind_some, Option.map_some, List.getElem?_cons_zero, List.getElem?_cons_succ, List.set_cons_zero, List.set_cons_succ, List.length_cons, List.length_nil, id, Bool.not_true, Bool.not_false, List.length_map, List.length_set, decide_true, decide_false, eq_self, if_true, if_false, Bool.false_eq_true, decide_eq_true_eq, not_true_eq_false, not_false_eq_true, true_and, and_true, Int.cast_ofNat_Int, Int.reduceLT, Int.reduceLE, Int.reduceEq, bindT, wipeE, backE, Z_seq, Z_pC, Z_v0, Z_vS, Z_iP, Z_p1, Z_p2, Z_i1, Z_i2, Z_psN, Z_psC, Z_isN, Z_isC, Z_pN, Z_iN, Z_bP, Z_bI, Z_liftB, Z_andP, Z_orP, Z_bNotP, Z_andI, Z_orI, Z_bNotI, Z_pAnd, Z_pOr, Z_pNot, Z_iAnd, Z_iOr, Z_iNot, Z_pIf, Z_iIf, Z_pChain, Z_iCall, Z_iMod, Z_ivSeq, Z_itSeq, Z_ivN, Z_itN, Z_sNx, Z_sBk, Z_sCt, Z_if, Z_sAsg, Z_sEx, Z_sRt, Z_sRtN, Z_sRtO, Z_sAug, Z_sTg, Z_sFor, Z_asB, Z_lstOf, Z_set, Z_app2, Z_appK, Z_sPar, Z_whl, Z_no, Z_ite', Z_some, Z_pComp, Z_iComp, Z_pSl, ZpO_some, ↓Z_forL_nil, ↓Z_forL_cons, ↓Z_compP_nil, ↓Z_compP_cons, ↓Z_compI_nil, ↓Z_compI_cons, ↓Z_bYes, ↓Z_iYes, Z_forL_nil, Z_forL_cons, Z_compP_nil, Z_compP_cons, Z_compI_nil, Z_compI_cons, sem_law_9, ix1, hyl, e_take]
    refine W.mono (take_spec hd10 (k := 5) (by omega)) ?_
    rintro ⟨_, d11⟩ ⟨k', rfl, hd11, _, _⟩
    have hd11 : Dr d11 := hd11
    simp -dsimp only [↓Z_seq, ↓Z_pC, ↓Z_v0, ↓Z_vS, ↓Z_iP, ↓Z_p1, ↓Z_p2, ↓Z_i1, ↓Z_i2, ↓Z_psN, ↓Z_psC, ↓Z_isN, ↓Z_isC, ↓Z_pN, ↓Z_iN, ↓Z_bP, ↓Z_bI, ↓Z_liftB, ↓Z_andP, ↓Z_orP, ↓Z_bNotP, ↓Z_andI, ↓Z_orI, ↓Z_bNotI, ↓Z_pAnd, ↓Z_pOr, ↓Z_pNot, ↓Z_iAnd, ↓Z_iOr, ↓Z_iNot, ↓Z_pIf, ↓Z_iIf, ↓Z_pChain, ↓Z_iCall, ↓Z_iMod, ↓Z_ivSeq, ↓Z_itSeq, ↓Z_ivN, ↓Z_itN, ↓Z_sNx, ↓Z_sBk, ↓Z_sCt, ↓Z_if, ↓Z_sAsg, ↓Z_sEx, ↓Z_sRt, ↓Z_sRtN, ↓Z_sRtO, ↓Z_sAug, ↓Z_sTg, ↓Z_sFor, ↓Z_asB, ↓Z_lstOf, ↓Z_set, ↓Z_app2, ↓Z_appK, ↓Z_sPar, X_ex2, ↓Z_whl, ↓Z_no, ↓Z_ite', ↓Z_some, Z_map, ↓Z_pComp, ↓Z_iComp, ↓Z_pSl, pO_none, ↓ZpO_some, ZpO_int, Zx_nx, Zx_rt, Zx_bk, Zx_ct, Zf_nx, Zf_ct, Zf_bk, Zf_rt, Zr_rt, Zr_nx, Zr1_rt, Zr1_nx, wIf_t, wIf_f, wIf_not, sE, List.map_cons, List.map_nil, List.replicate_succ, List.replicate_zero, List.cons_append, List.nil_append, Nat.reduceSub, Nat.reduceAdd, nLen_lst, nLen_tup, nInt_int, nList_lst, nList_tup, nList_scr, nTuple_lst, nTuple_tup, nIx_lst, nIx_tup, seqOf_lst, seqOf_tup, gRev_eq, gPop_eq, nI2_i, nIc_ok, nCmp_i, nAdd_i, nEq_int, nNe_int, nEq_bl, nNe_bl, nEq_TI, nNe_TI, nEq_LI, nNe_LI, nIn_TI, nIn_LI, X_fld, max2, min2, nTupD0, nTupD1, nTupD2, nTupD3, nTupD4, nLstD0, nLstD1, nLstD2, nLstD3, nLstD4, isi_int_int, isi_int_bl, isi_int_tup, isi_int_lst, isi_int_non, isi_int_str, isi_bool_int, isi_bool_bl, isi_bool_tup, isi_bool_lst, isi_bool_non, isi_bool_str, isi_tuple_int, isi_tuple_bl, isi_tuple_tup, isi_tuple_lst, isi_tuple_non, isi_tuple_str, isi_list_int, isi_list_bl, isi_list_tup, isi_list_lst, isi_list_non, isi_list_str, isi_str_int, isi_str_bl, isi_str_tup, isi_str_lst, isi_str_non, isi_str_str, isN_non, notN_non, nonD_non, nonD_int, nonD_bl, nonD_tup, nonD_lst, nonD_str, Z_bTup, Z_bsC, Z_bsN, Z_bNm, Option.bind_some, Option.map_some, List.getElem?_cons_zero, List.getElem?_cons_succ, List.set_cons_zero, List.set_cons_succ, List.length_cons, List.length_nil, id, Bool.not_true, Bool.not_false, List.length_map, List.length_set, decide_true, decide_false, eq_self, if_true, if_false, Bool.false_eq_true, decide_eq_true_eq, not_true_eq_false, not_false_eq_true, true_and, and_true, Int.cast_ofNat_Int, Int.reduceLT, Int.reduceLE, Int.reduceEq, bindT, wipeE, backE, Z_seq, Z_pC, Z_v0, Z_vS, Z_iP, Z_p1, Z_p2, Z_i1, Z_i2, Z_psN, Z_psC, Z_isN, Z_isC, Z_pN, Z_iN, Z_bP, Z_bI, Z_liftB, Z_andP, Z_orP, Z_bNotP, Z_andI, Z_orI, Z_bNotI, Z_pAnd, Z_pOr, Z_pNot, Z_iAnd, Z_iOr, Z_iNot, Z_pIf, Z_iIf, Z_pChain, Z_iCall, Z_iMod, Z_ivSeq, Z_itSeq, Z_ivN, Z_itN, Z_sNx, Z_sBk, Z_sCt, Z_if, Z_sAsg, Z_sEx, Z_sRt, Z_sRtN, Z_sRtO, Z_sAug, Z_sTg, Z_sFor, Z_asB, Z_lstOf, Z_set, Z_app2, Z_appK, Z_sPar, Z_whl, Z_no, Z_ite', Z_some, Z_pComp, Z_iComp, Z_pSl, ZpO_some, ↓Z_forL_nil, ↓Z_forL_cons, ↓Z_compP_nil, ↓Z_compP_cons, ↓Z_compI_nil, ↓Z_compI_cons, ↓Z_bYes, ↓Z_iYes, Z_forL_nil, Z_forL_cons, Z_compP_nil, Z_compP_cons, Z_compI_nil, Z_compI_cons]
    refine wIf_join (fun e => ∃ (y' : List Int) (d : D), inR L.length y' ∧ y'.length < 50 ∧ e = [some (.scr ns), some d, some (.int (cn : Int)), some (.lst (LT L)), some (OB (cn : Int) L), some (TI p), some (TI r), some (TI s), some (TI q), none, none, some (.lst [TI x, TI y', TI u, TI v]), none, none, none, none]) ?_ ?_ ?_
    · intro _
      have e1 := sl_hi y (n := (y.length : Int) - 1) (by omega)
      simp -dsimp only [↓Z_seq, ↓Z_pC, ↓Z_v0, ↓Z_vS, ↓Z_iP, ↓Z_p1, ↓Z_p2, ↓Z_i1, ↓Z_i2, ↓Z_psN, ↓Z_psC, ↓Z_isN, ↓Z_isC, ↓Z_pN, ↓Z_iN, ↓Z_bP, ↓Z_bI, ↓Z_liftB, ↓Z_andP, ↓Z_orP, ↓Z_bNotP, ↓Z_andI, ↓Z_orI, ↓Z_bNotI, ↓Z_pAnd, ↓Z_pOr, ↓Z_pNot, ↓Z_iAnd, ↓Z_iOr, ↓Z_iNot, ↓Z_pIf, ↓Z_iIf, ↓Z_pChain, ↓Z_iCall, ↓Z_iMod, ↓Z_ivSeq, ↓Z_itSeq, ↓Z_ivN, ↓Z_itN, ↓Z_sNx, ↓Z_sBk, ↓Z_sCt, ↓Z_if, ↓Z_sAsg, ↓Z_sEx, ↓Z_sRt, ↓Z_sRtN, ↓Z_sRtO, ↓Z_sAug, ↓Z_sTg, ↓Z_sFor, ↓Z_asB, ↓Z_lstOf, ↓Z_set, ↓Z_app2, ↓Z_appK, ↓Z_sPar, X_ex2, ↓Z_whl, ↓Z_no, ↓Z_ite', ↓Z_some, Z_map, ↓Z_pComp, ↓Z_iComp, ↓Z_pSl, pO_none, ↓ZpO_some, ZpO_int, Zx_nx, Zx_rt, Zx_bk, Zx_ct, Zf_nx, Zf_ct, Zf_bk, Zf_rt, Zr_rt, Zr_nx, Zr1_rt, Zr1_nx, wIf_t, wIf_f, wIf_not, sE, List.map_cons, List.map_nil, List.replicate_succ, List.replicate_zero, List.cons_append, List.nil_append, Nat.reduceSub, Nat.reduceAdd, nLen_lst, nLen_tup, nInt_int, nList_lst, nList_tup, nList_scr, nTuple_lst, nTuple_tup, nIx_lst, nIx_tup, seqOf_lst, seqOf_tup, gRev_eq, gPop_eq, nI2_i, nIc_ok, nCmp_i, nAdd_i, nEq_int, nNe_int, nEq_bl, nNe_bl, nEq_TI, nNe_TI, nEq_LI, nNe_LI, nIn_TI, nIn_LI, X_fld, max2, min2, nTupD0, nTupD1, nTupD2, nTupD3, nTupD4, nLstD0, nLstD1, nLstD2, nLstD3, nLstD4, isi_int_int, isi_int_bl, isi_int_tup, isi_int_lst, isi_int_non, isi_int_str, isi_bool_int, isi_bool_bl, isi_bool_tup, isi_bool_lst, isi_bool_non, isi_bool_str, isi_tuple_int, isi_tuple_bl, isi_tuple_tup, isi_tuple_lst, isi_tuple_non, isi_tuple_str, isi_list_int, isi_list_bl, isi_list_tup, isi_list_lst, isi_list_non, isi_list_str, isi_str_int, isi_str_bl, isi_str_tup, isi_str_lst, isi_str_non, isi_str_str, isN_non, notN_non, nonD_non, nonD_int, nonD_bl, nonD_tup, nonD_lst, nonD_str, Z_bTup, Z_bsC, Z_bsN, Z_bNm, Option.bind_some, Option.map_some, List.getElem?_cons_zero, List.getElem?_cons_succ, List.set_cons_zero, List.set_cons_succ, List.length_cons, List.length_nil, id, Bool.not_true, Bool.not_false, List.length_map, List.length_set, decide_true, decide_false, eq_self, if_true, if_false, Bool.false_eq_true, decide_eq_true_eq, not_true_eq_false, not_false_eq_true, true_and, and_true, Int.cast_ofNat_Int, Int.reduceLT, Int.reduceLE, Int.reduceEq, bindT, wipeE, backE, Z_seq, Z_pC, Z_v0, Z_vS, Z_iP, Z_p1, Z_p2, Z_i1, Z_i2, Z_psN, Z_psC, Z_isN, Z_isC, Z_pN, Z_iN, Z_bP, Z_bI, Z_liftB, Z_andP, Z_orP, Z_bNotP, Z_andI, Z_orI, Z_bNotI, Z_pAnd, Z_pOr, Z_pNot, Z_iAnd, Z_iOr, Z_iNot, Z_pIf, Z_iIf, Z_pChain, Z_iCall, Z_iMod, Z_ivSeq, Z_itSeq, Z_ivN, Z_itN, Z_sNx, Z_sBk, Z_sCt, Z_if, Z_sAsg, Z_sEx, Z_sRt, Z_sRtN, Z_sRtO, Z_sAug, Z_sTg, Z_sFor, Z_asB, Z_lstOf, Z_set, Z_app2, Z_appK, Z_sPar, Z_whl, Z_no, Z_ite', Z_some, Z_pComp, Z_iComp, Z_pSl, ZpO_some, ↓Z_forL_nil, ↓Z_forL_cons, ↓Z_compP_nil, ↓Z_compP_cons, ↓Z_compI_nil, ↓Z_compI_cons, ↓Z_bYes, ↓Z_iYes, Z_forL_nil, Z_forL_cons, Z_compP_nil, Z_compP_cons, Z_compI_nil, Z_compI_cons, ix1, e1, e_take]
      refine W.mono (take_spec hd11 hlp) ?_
      rintro ⟨_, d12⟩ ⟨b, rfl, hd12, b0, b1⟩
      have e2 : nAdd (TI (y.take ((y.length : Int) - 1).toNat)) (.tup [.int b]) = some (TI (y.take ((y.length : Int) - 1).toNat ++ [b])) := cat_TI _ [b] (by rw [List.length_take]; simp; omega)
      simp -dsimp only [↓Z_seq, ↓Z_pC, ↓Z_v0, ↓Z_vS, ↓Z_iP, ↓Z_p1, ↓Z_p2, ↓Z_i1, ↓Z_i2, ↓Z_psN, ↓Z_psC, ↓Z_isN, ↓Z_isC, ↓Z_pN, ↓Z_iN, ↓Z_bP, ↓Z_bI, ↓Z_liftB, ↓Z_andP, ↓Z_orP, ↓Z_bNotP, ↓Z_andI, ↓Z_orI, ↓Z_bNotI, ↓Z_pAnd, ↓Z_pOr, ↓Z_pNot, ↓Z_iAnd, ↓Z_iOr, ↓Z_iNot, ↓Z_pIf, ↓Z_iIf, ↓Z_pChain, ↓Z_iCall, ↓Z_iMod, ↓Z_ivSeq, ↓Z_itSeq, ↓Z_ivN, ↓Z_itN, ↓Z_sNx, ↓Z_sBk, ↓Z_sCt, ↓Z_if, ↓Z_sAsg, ↓Z_sEx, ↓Z_sRt, ↓Z_sRtN, ↓Z_sRtO, ↓Z_sAug, ↓Z_sTg, ↓Z_sFor, ↓Z_asB, ↓Z_lstOf, ↓Z_set, ↓Z_app2, ↓Z_appK, ↓Z_sPar, X_ex2, ↓Z_whl, ↓Z_no, ↓Z_ite', ↓Z_some, Z_map, ↓Z_pComp, ↓Z_iComp, ↓Z_pSl, pO_none, ↓ZpO_some, ZpO_int, Zx_nx, Zx_rt, Zx_bk, Zx_ct, Zf_nx, Zf_ct, Zf_bk, Zf_rt, Zr_rt, Zr_nx, Zr1_rt, Zr1_nx, wIf_t, wIf_f, wIf_not, sE, List.map_cons, List.map_nil, List.replicate_succ, List.replicate_zero, List.cons_append, List.nil_append, Nat.reduceSub, Nat.reduceAdd, nLen_lst, nLen_tup, nInt_int, nList_lst, nList_tup, nList_scr, nTuple_lst, nTuple_tup, nIx_lst, nIx_tup, seqOf_lst, seqOf_tup, gRev_eq, gPop_eq, nI2_i, nIc_ok, nCmp_i, nAdd_i, nEq_int, nNe_int, nEq_bl, nNe_bl, nEq_TI, nNe_TI, nEq_LI, nNe_LI, nIn_TI, nIn_LI, X_fld, max2, min2, nTupD0, nTupD1, nTupD2, nTupD3, nTupD4, nLstD0, nLstD1, nLstD2, nLstD3, nLstD4, isi_int_int, isi_int_bl, isi_int_tup, isi_int_lst, isi_int_non, isi_int_str, isi_bool_int, isi_bool_bl, isi_bool_tup, isi_bool_lst, isi_bool_non, isi_bool_str, isi_tuple_int, isi_tuple_bl, isi_tuple_tup, isi_tuple_lst, isi_tuple_non, isi_tuple_str, isi_list_int, isi_list_bl, isi_list_tup, isi_list_lst, isi_list_non, isi_list_str, isi_str_int, isi_str_bl, isi_str_tup, isi_str_lst, isi_str_non, isi_str_str, isN_non, notN_non, nonD_non, nonD_int, nonD_bl, nonD_tup, nonD_lst, nonD_str, Z_bTup, Z_bsC, Z_bsN, Z_bNm, Option.bind_some, Option.map_some, List.getElem?_cons_zero, List.getElem?_cons_succ, List.set_cons_zero, List.set_cons_succ, List.length_cons, List.length_nil, id, Bool.not_true, Bool.not_false, List.length_map, List.length_set, decide_true, decide_false, eq_self, if_true, if_false, Bool.false_eq_true, decide_eq_true_eq, not_true_eq_false, not_false_eq_true, true_and, and_true, Int.cast_ofNat_Int, Int.reduceLT, Int.reduceLE, Int.reduceEq, bindT, wipeE, backE, Z_seq, Z_pC, Z_v0, Z_vS, Z_iP, Z_p1, Z_p2, Z_i1, Z_i2, Z_psN, Z_psC, Z_isN, Z_isC, Z_pN, Z_iN, Z_bP, Z_bI, Z_liftB, Z_andP, Z_orP, Z_bNotP, Z_andI, Z_orI, Z_bNotI, Z_pAnd, Z_pOr, Z_pNot, Z_iAnd, Z_iOr, Z_iNot, Z_pIf, Z_iIf, Z_pChain, Z_iCall, Z_iMod, Z_ivSeq, Z_itSeq, Z_ivN, Z_itN, Z_sNx, Z_sBk, Z_sCt, Z_if, Z_sAsg, Z_sEx, Z_sRt, Z_sRtN, Z_sRtO, Z_sAug, Z_sTg, Z_sFor, Z_asB, Z_lstOf, Z_set, Z_app2, Z_appK, Z_sPar, Z_whl, Z_no, Z_ite', Z_some, Z_pComp, Z_iComp, Z_pSl, ZpO_some, ↓Z_forL_nil, ↓Z_forL_cons, ↓Z_compP_nil, ↓Z_compP_cons, ↓Z_compI_nil, ↓Z_compI_cons, ↓Z_bYes, ↓Z_iYes, Z_forL_nil, Z_forL_cons, Z_compP_nil, Z_compP_cons, Z_compI_nil, Z_compI_cons, e2, st1]
      refine ⟨_, _, ?_, ?_, rfl⟩
      · intro z hz
        rcases List.mem_append.mp hz with h | h
        · exact y0 z (List.mem_of_mem_take h)
        · rw [List.mem_singleton.mp h]; exact ⟨b0, b1⟩
      · rw [List.length_append, List.length_take, List.length_singleton]; omega
    · intro _
      simp -dsimp only [↓Z_seq, ↓Z_pC, ↓Z_v0, ↓Z_vS, ↓Z_iP, ↓Z_p1, ↓Z_p2, ↓Z_i1, ↓Z_i2, ↓Z_psN, ↓Z_psC, ↓Z_isN, ↓Z_isC, ↓Z_pN, ↓Z_iN, ↓Z_bP, ↓Z_bI, ↓Z_liftB, ↓Z_andP, ↓Z_orP, ↓Z_bNotP, ↓Z_andI, ↓Z_orI, ↓Z_bNotI, ↓Z_pAnd, ↓Z_pOr, ↓Z_pNot, ↓Z_iAnd, ↓Z_iOr, ↓Z_iNot, ↓Z_pIf, ↓Z_iIf, ↓Z_pChain, ↓Z_iCall, ↓Z_iMod, ↓Z_ivSeq, ↓Z_itSeq, ↓Z_ivN, ↓Z_itN, ↓Z_sNx, ↓Z_sBk, ↓Z_sCt, ↓Z_if, ↓Z_sAsg, ↓Z_sEx, ↓Z_sRt, ↓Z_sRtN, ↓Z_sRtO, ↓Z_sAug, ↓Z_sTg, ↓Z_sFor, ↓Z_asB, ↓Z_lstOf, ↓Z_set, ↓Z_app2, ↓Z_appK, ↓Z_sPar, X_ex2, ↓Z_whl, ↓Z_no, ↓Z_ite', ↓Z_some, Z_map, ↓Z_pComp, ↓Z_iComp, ↓Z_pSl, pO_none, ↓ZpO_some, ZpO_int, Zx_nx, Zx_rt, Zx_bk, Zx_ct, Zf_nx, Zf_ct, Zf_bk, Zf_rt, Zr_rt, Zr_nx, Zr1_rt, Zr1_nx, wIf_t, wIf_f, wIf_not, sE, List.map_cons, List.map_nil, List.replicate_succ, List.replicate_zero, List.cons_append, List.nil_append, Nat.reduceSub, Nat.reduceAdd, nLen_lst, nLen_tup, nInt_int, nList_lst, nList_tup, nList_scr, nTuple_lst, nTuple_tup, nIx_lst, nIx_tup, seqOf_lst, seqOf_tup, gRev_eq, gPop_eq, nI2_i, nIc_ok, nCmp_i, nAdd_i, nEq_int, nNe_int, nEq_bl, nNe_bl, nEq_TI, nNe_TI, nEq_LI, nNe_LI, nIn_TI, nIn_LI, X_fld, max2, min2, nTupD0, nTupD1, nTupD2, nTupD3, nTupD4, nLstD0, nLstD1, nLstD2, nLstD3, nLstD4, isi_int_int, isi_int_bl, isi_int_tup, isi_int_lst, isi_int_non, isi_int_str, isi_bool_int, isi_bool_bl, isi_bool_tup, isi_bool_lst, isi_bool_non, isi_bool_str, isi_tuple_int, isi_tuple_bl, isi_tuple_tup, isi_tuple_lst, isi_tuple_non, isi_tuple_str, isi_list_int, isi_list_bl, isi_list_tup, isi_list_lst, isi_list_non, isi_list_str, isi_str_int, isi_str_bl, isi_str_tup, isi_str_lst, isi_str_non, isi_str_str, isN_non, notN_non, nonD_non, nonD_int, nonD_bl, nonD_tup, nonD_lst, nonD_str, Z_bTup, Z_bsC, Z_bsN, Z_bNm, Option.bind_some, Option.map_some, List.getElem?_cons_zero, List.getElem?_cons_succ, List.set_cons_zero, List.set_cons_succ, List.length_cons, List.length_nil, id, Bool.not_true, Bool.not_false, List.length_map, List.length_set, decide_true, decide_false, eq_self, if_true, if_false, Bool.false_eq_true, decide_eq_true_eq, not_true_eq_false, not_false_eq_true, true_and, and_true, Int.cast_ofNat_Int, Int.reduceLT, Int.reduceLE, Int.reduceEq, bindT, wipeE, backE, Z_seq, Z_pC, Z_v0, Z_vS, Z_iP, Z_p1, Z_p2, Z_i1, Z_i2, Z_psN, Z_psC, Z_isN, Z_isC, Z_pN, Z_iN, Z_bP, Z_bI, Z_liftB, Z_andP, Z_orP, Z_bNotP, Z_andI, Z_orI, Z_bNotI, Z_pAnd, Z_pOr, Z_pNot, Z_iAnd, Z_iOr, Z_iNot, Z_pIf, Z_iIf, Z_pChain, Z_iCall, Z_iMod, Z_ivSeq, Z_itSeq, Z_ivN, Z_itN, Z_sNx, Z_sBk, Z_sCt, Z_if, Z_sAsg, Z_sEx, Z_sRt, Z_sRtN, Z_sRtO, Z_sAug, Z_sTg, Z_sFor, Z_asB, Z_lstOf, Z_set, Z_app2, Z_appK, Z_sPar, Z_whl, Z_no, Z_ite', Z_some, Z_pComp, Z_iComp, Z_pSl, ZpO_some, ↓Z_forL_nil, ↓Z_forL_cons, ↓Z_compP_nil, ↓Z_compP_cons, ↓Z_compI_nil, ↓Z_compI_cons, ↓Z_bYes, ↓Z_iYes, Z_forL_nil, Z_forL_cons, Z_compP_nil, Z_compP_cons, Z_compI_nil, Z_compI_cons]
      exact ⟨y, _, y0, by omega, rfl⟩
    rintro env ⟨y', d, hy', ly', rfl⟩
    simp -dsimp only [↓Z_seq, ↓Z_pC, ↓Z_v0, ↓Z_vS, ↓Z_iP, ↓Z_p1, ↓Z_p2, ↓Z_i1, ↓Z_i2, ↓Z_psN, ↓Z_psC, ↓Z_isN, ↓Z_isC, ↓Z_pN, ↓Z_iN, ↓Z_bP, ↓Z_bI, ↓Z_liftB, ↓Z_andP, ↓Z_orP, ↓Z_bNotP, ↓Z_andI, ↓Z_orI, ↓Z_bNotI, ↓Z_pAnd, ↓Z_pOr, ↓Z_pNot, ↓Z_iAnd, ↓Z_iOr, ↓Z_iNot, ↓Z_pIf, ↓Z_iIf, ↓Z_pChain, ↓Z_iCall, ↓Z_iMod, ↓Z_ivSeq, ↓Z_itSeq, ↓Z_ivN, ↓Z_itN, ↓Z_sNx, ↓Z_sBk, ↓Z_sCt, ↓Z_if, ↓Z_sAsg, ↓Z_sEx, ↓Z_sRt, ↓Z_sRtN, ↓Z_sRtO, ↓Z_sAug, ↓Z_sTg, ↓Z_sFor, ↓Z_asB, ↓Z_lstOf, ↓Z_set, ↓Z_app2, ↓Z_appK, ↓Z_sPar, X_ex2, ↓Z_whl, ↓Z_no, ↓Z_ite', ↓Z_some, Z_map, ↓Z_pComp, ↓Z_iComp, ↓Z_pSl, pO_none, ↓ZpO_some, ZpO_int, Zx_nx, Zx_rt, Zx_bk, Zx_ct, Zf_nx, Zf_ct, Zf_bk, Zf_rt, Zr_rt, Zr_nx, Zr1_rt, Zr1_nx, wIf_t, wIf_f, wIf_not, sE, List.map_cons, List.map_nil, List.replicate_succ, List.replicate_zero, List.cons_append, List.nil_append, Nat.reduceSub, Nat.reduceAdd, nLen_lst, nLen_tup, nInt_int, nList_lst, nList_tup, nList_scr, nTuple_lst, nTuple_tup, nIx_lst, nIx_tup, seqOf_lst, seqOf_tup, gRev_eq, gPop_eq, nI2_i, nIc_ok, nCmp_i, nAdd_i, nEq_int, nNe_int, nEq_bl, nNe_bl, nEq_TI, nNe_TI, nEq_LI, nNe_LI, nIn_TI, nIn_LI, X_fld, max2, min2, nTupD0, nTupD1, nTupD2, nTupD3, nTupD4, nLstD0, nLstD1, nLstD2, nLstD3, nLstD4, isi_int_int, isi_int_bl, isi_int_tup, isi_int_lst, isi_int_non, isi_int_str, isi_bool_int, isi_bool_bl, isi_bool_tup, isi_bool_lst, isi_bool_non, isi_bool_str, isi_tuple_int, isi_tuple_bl, isi_tuple_tup, isi_tuple_lst, isi_tuple_non, isi_tuple_str, isi_list_int, isi_list_bl, isi_list_tup, isi_list_lst, isi_list_non, isi_list_str, isi_str_int, isi_str_bl, isi_str_tup, isi_str_lst, isi_str_non, isi_str_str, isN_non, notN_non, nonD_non, nonD_int, nonD_bl, nonD_tup, nonD_lst, nonD_str, Z_bTup, Z_bsC, Z_bsN, Z_bNm, Option.bind_some, Option.map_some, List.getElem?_cons_zero, List.getElem?_cons_succ, List.set_cons_zero, List.set_cons_succ, List.length_cons, List.length_nil, id, Bool.not_true, Bool.not_false, List.length_map, List.length_set, decide_true, decide_false, eq_self, if_true, if_false, Bool.false_eq_true, decide_eq_true_eq, not_true_eq_false, not_false_eq_true, true_and, and_true, Int.cast_ofNat_Int, Int.reduceLT, Int.reduceLE, Int.reduceEq, bindT, wipeE, backE, Z_seq, Z_pC, Z_v0, Z_vS, Z_iP, Z_p1, Z_p2, Z_i1, Z_i2, Z_psN, Z_psC, Z_isN, Z_isC, Z_pN, Z_iN, Z_bP, Z_bI, Z_liftB, Z_andP, Z_orP, Z_bNotP, Z_andI, Z_orI, Z_bNotI, Z_pAnd, Z_pOr, Z_pNot, Z_iAnd, Z_iOr, Z_iNot, Z_pIf, Z_iIf, Z_pChain, Z_iCall, Z_iMod, Z_ivSeq, Z_itSeq, Z_ivN, Z_itN, Z_sNx, Z_sBk, Z_sCt, Z_if, Z_sAsg, Z_sEx, Z_sRt, Z_sRtN, Z_sRtO, Z_sAug, Z_sTg, Z_sFor, Z_asB, Z_lstOf, Z_set, Z_app2, Z_appK, Z_sPar, Z_whl, Z_no, Z_ite', Z_some, Z_pComp, Z_iComp, Z_pSl, ZpO_some, ↓Z_forL_nil, ↓Z_forL_cons, ↓Z_compP_nil, ↓Z_compP_cons, ↓Z_compI_nil, ↓Z_compI_cons, ↓Z_bYes, ↓Z_iYes, Z_forL_nil, Z_forL_cons, Z_compP_nil, Z_compP_cons, Z_compI_nil, Z_compI_cons]
    exact tail10 ns d cn (by omega) hL (by omega) x0 hy' u0 v0 (by omega) ly' (by omega) (by omega) _ _ _ _
  · simp -dsimp only [↓Z_seq, ↓Z_pC, ↓Z_v0, ↓Z_vS, ↓Z_iP, ↓Z_p1, ↓Z_p2, ↓Z_i1, ↓Z_i2, ↓Z_psN, ↓Z_psC, ↓Z_isN, ↓Z_isC, ↓Z_pN, ↓Z_iN, ↓Z_bP, ↓Z_bI, ↓Z_liftB, ↓Z_andP, ↓Z_orP, ↓Z_bNotP, ↓Z_andI, ↓Z_orI, ↓Z_bNotI, ↓Z_pAnd, ↓Z_pOr, ↓Z_pNot, ↓Z_iAnd, ↓Z_iOr, ↓Z_iNot, ↓Z_pIf, ↓Z_iIf, ↓Z_pChain, ↓Z_iCall, ↓Z_iMod, ↓Z_ivSeq, ↓Z_itSeq, ↓Z_ivN, ↓Z_itN, ↓Z_sNx, ↓Z_sBk, ↓Z_sCt, ↓Z_if, ↓Z_sAsg, ↓Z_sEx, ↓Z_sRt, ↓Z_sRtN, ↓Z_sRtO, ↓Z_sAug, ↓Z_sTg, ↓Z_sFor, ↓Z_asB, ↓Z_lstOf, ↓Z_set, ↓Z_app2, ↓Z_appK, ↓Z_sPar, X_ex2, ↓Z_whl, ↓Z_no, ↓Z_ite', ↓Z_some, Z_map, ↓Z_pComp, ↓Z_iComp, ↓Z_pSl, pO_none, ↓ZpO_some, ZpO_int, Zx_nx, Zx_rt, Zx_bk, Zx_ct, Zf_nx, Zf_ct, Zf_bk, Zf_rt, Zr_rt, Zr_nx, Zr1_rt, Zr1_nx, wIf_t, wIf_f, wIf_not, sE, List.map_cons, List.map_nil, List.replicate_succ, List.replicate_zero, List.cons_append, List.nil_append, Nat.reduceSub, Nat.reduceAdd, nLen_lst, nLen_tup, nInt_int, nList_lst, nList_tup, nList_scr, nTuple_lst, nTuple_tup, nIx_lst, nIx_tup, seqOf_lst, seqOf_tup, gRev_eq, gPop_eq, nI2_i, nIc_ok, nCmp_i, nAdd_i, nEq_int, nNe_int, nEq_bl, nNe_bl, nEq_TI, nNe_TI, nEq_LI, nNe_LI, nIn_TI, nIn_LI, X_fld, max2, min2, nTupD0, nTupD1, nTupD2, nTupD3, nTupD4, nLstD0, nLstD1, nLstD2, nLstD3, nLstD4, isi_int_int, isi_int_bl, isi_int_tup, isi_int_lst, isi_int_non, isi_int_str, isi_bool_int, isi_bool_bl, isi_bool_tup, isi_bool_lst, isi_bool_non, isi_bool_str, isi_tuple_int, isi_tuple_bl, isi_tuple_tup, isi_tuple_lst, isi_tuple_non, isi_tuple_str, isi_list_int, isi_list_bl, isi_list_tup, isi_list_lst, isi_list_non, isi_list_str, isi_str_int, isi_str_bl, isi_str_tup, isi_str_lst, isi_str_non, isi_str_str, isN_non, notN_non, nonD_non, nonD_int, nonD_bl, nonD_tup, nonD_lst, nonD_str, Z_bTup, Z_bsC, Z_bsN, Z_bNm, Option.bind_some, Option.map_some, List.getElem?_cons_zero, List.getElem?_cons_succ, List.set_cons_zero, List.set_cons_succ, List.length_cons, List.length_nil, id, Bool.not_true, Bool.not_false, List.length_map, List.length_set, decide_true, decide_false, eq_self, if_true, if_false, Bool.false_eq_true, decide_eq_true_eq, not_true_eq_false, not_false_eq_true, true_and, and_true, Int.cast_ofNat_Int, Int.reduceLT, Int.reduceLE, Int.reduceEq, bindT, wipeE, backE, Z_seq, Z_pC, Z_v0, Z_vS, Z_iP, Z_p1, Z_p2, Z_i1, Z_i2, Z_psN, Z_psC, Z_isN, Z_isC, Z_pN, Z_iN, Z_bP, Z_bI, Z_liftB, Z_andP, Z_orP, Z_bNotP, Z_andI, Z_orI, Z_bNotI, Z_pAnd, Z_pOr, Z_pNot, Z_iAnd, Z_iOr, Z_iNot, Z_pIf, Z_iIf, Z_pChain, Z_iCall, Z_iMod, Z_ivSeq, Z_itSeq, Z_ivN, Z_itN, Z_sNx, Z_sBk, Z_sCt, Z_if, Z_sAsg, Z_sEx, Z_sRt, Z_sRtN, Z_sRtO, Z_sAug, Z_sTg, Z_sFor, Z_asB, Z_lstOf, Z_set, Z_app2, Z_appK, Z_sPar, Z_whl, Z_no, Z_ite', Z_some, Z_pComp, Z_iComp, Z_pSl, ZpO_some, ↓Z_forL_nil, ↓Z_forL_cons, ↓Z_compP_nil, ↓Z_compP_cons, ↓Z_compI_nil, ↓Z_compI_cons, ↓Z_bYes, ↓Z_iYes, Z_forL_nil, Z_forL_cons, Z_compP_nil, Z_compP_cons, Z_compI_nil, Z_compI_cons, sem_law_9, ix1, hyl]
    exact tail10 ns d10 cn (by omega) hL (by omega) x0 y0 u0 v0 (by omega) (by omega) (by omega) (by omega) _ _ _ _
end Wk33

namespace Wk33
open PySem L2 T3
def top (i : Nat) : Stmt := PySem.Challenge.pw_tracetalk_k33_crossings.main.body.getD i (.Pass ⟨0, 0, 0, 0⟩)
abbrev s__law_draws : Stmt := top 25
abbrev s__law_take : Stmt := top 26
abbrev s__law_alphabet : Stmt := top 29
abbrev s_fits : Stmt := top 6
abbrev s_Alphabet___init__ : Stmt := inClass (top 7) 0
abbrev s__law_word : Stmt := top 31
abbrev s_independent : Stmt := top 8
abbrev s_masks : Stmt := top 9
abbrev s_first_letters : Stmt := top 11
abbrev s_least_form : Stmt := top 12
abbrev s_first_place : Stmt := top 17
abbrev s_without : Stmt := top 18
abbrev s_common_prefix : Stmt := top 20
abbrev s_rest : Stmt := top 19
abbrev s_place_word : Stmt := top 14
abbrev s_equivalent : Stmt := top 15
abbrev s_crossing : Stmt := top 23
abbrev s_commute : Stmt := top 22
abbrev s__law_free : Stmt := top 30
abbrev s__law_shuffled : Stmt := top 34
abbrev s__law_place : Stmt := top 32
abbrev s__law_alike : Stmt := top 33
abbrev s__law_is_integer : Stmt := top 27
abbrev s__law_is_word : Stmt := top 28
abbrev s__law_least : Stmt := top 35
abbrev s_law : Stmt := top 36
structure Txt (K : PySem.W.Frag) (mg : Str → Option Value) : Prop where
  n_bool : mg "bool" = none
  n_int : mg "int" = none
  n_isinstance : mg "isinstance" = none
  n_len : mg "len" = none
  n_list : mg "list" = none
  n_range : mg "range" = none
  n_set : mg "set" = none
  n_sorted : mg "sorted" = none
  n_tuple : mg "tuple" = none
  c_MOST_LETTERS : ∃ t : Tok, mg "MOST_LETTERS" = some (.int 6 t)
  c_MOST_PLACES : ∃ t : Tok, mg "MOST_PLACES" = some (.int 4 t)
abbrev N__law_draws : List Str := ["script", "count", "cells", "found", "mixed", "k", "j", "cell", "again"]
theorem sc__law_draws : FnScope N__law_draws ["script", "count"] (defScope s__law_draws) := ⟨rfl, rfl, rfl, by decide +kernel, rfl, by decide +kernel, by decide +kernel⟩
abbrev N__law_take : List Str := ["draws", "limit"]
theorem sc__law_take : FnScope N__law_take ["draws", "limit"] (defScope s__law_take) := ⟨rfl, rfl, rfl, by decide +kernel, rfl, by decide +kernel, by decide +kernel⟩
abbrev N__law_alphabet : List Str := ["draws", "places", "most", "count", "letters", "k", "size", "there", "j"]
theorem sc__law_alphabet : FnScope N__law_alphabet ["draws", "places", "most"] (defScope s__law_alphabet) := ⟨rfl, rfl, rfl, by decide +kernel, rfl, by decide +kernel, by decide +kernel⟩
abbrev N_fits : List Str := ["letter", "places", "k"]
theorem sc_fits : FnScope N_fits ["letter", "places"] (defScope s_fits) := ⟨rfl, rfl, rfl, by decide +kernel, rfl, by decide +kernel, by decide +kernel⟩
abbrev N_Alphabet___init__ : List Str := ["self", "places", "letters", "valid", "letter"]
theorem sc_Alphabet___init__ : FnScope N_Alphabet___init__ ["self", "places", "letters"] (defScope s_Alphabet___init__) := ⟨rfl, rfl, rfl, by decide +kernel, rfl, by decide +kernel, by decide +kernel⟩
abbrev N__law_word : List Str := ["draws", "letters", "most", "k"]
theorem sc__law_word : FnScope N__law_word ["draws", "letters", "most"] (defScope s__law_word) := ⟨rfl, rfl, rfl, by decide +kernel, rfl, by decide +kernel, by decide +kernel⟩
abbrev N_independent : List Str := ["alphabet", "first", "second", "place"]
theorem sc_independent : FnScope N_independent ["alphabet", "first", "second"] (defScope s_independent) := ⟨rfl, rfl, rfl, by decide +kernel, rfl, by decide +kernel, by decide +kernel⟩
abbrev N_masks : List Str := ["alphabet", "found", "first", "mask", "second"]
theorem sc_masks : FnScope N_masks ["alphabet"] (defScope s_masks) := ⟨rfl, rfl, rfl, by decide +kernel, rfl, by decide +kernel, by decide +kernel⟩
abbrev N_first_letters : List Str := ["alphabet", "word", "found", "blocked", "dependent", "k"]
theorem sc_first_letters : FnScope N_first_letters ["alphabet", "word"] (defScope s_first_letters) := ⟨rfl, rfl, rfl, by decide +kernel, rfl, by decide +kernel, by decide +kernel⟩
abbrev N_least_form : List Str := ["alphabet", "word", "rest", "found", "best", "k"]
theorem sc_least_form : FnScope N_least_form ["alphabet", "word"] (defScope s_least_form) := ⟨rfl, rfl, rfl, by decide +kernel, rfl, by decide +kernel, by decide +kernel⟩
abbrev N_first_place : List Str := ["alphabet", "word", "letter", "k"]
theorem sc_first_place : FnScope N_first_place ["alphabet", "word", "letter"] (defScope s_first_place) := ⟨rfl, rfl, rfl, by decide +kernel, rfl, by decide +kernel, by decide +kernel⟩
abbrev N_without : List Str := ["word", "position"]
theorem sc_without : FnScope N_without ["word", "position"] (defScope s_without) := ⟨rfl, rfl, rfl, by decide +kernel, rfl, by decide +kernel, by decide +kernel⟩
abbrev N_common_prefix : List Str := ["alphabet", "first", "second", "one", "two", "found", "at", "k", "j"]
theorem sc_common_prefix : FnScope N_common_prefix ["alphabet", "first", "second"] (defScope s_common_prefix) := ⟨rfl, rfl, rfl, by decide +kernel, rfl, by decide +kernel, by decide +kernel⟩
abbrev N_rest : List Str := ["alphabet", "first", "second", "left", "letter", "at"]
theorem sc_rest : FnScope N_rest ["alphabet", "first", "second"] (defScope s_rest) := ⟨rfl, rfl, rfl, by decide +kernel, rfl, by decide +kernel, by decide +kernel⟩
abbrev N_place_word : List Str := ["alphabet", "word", "place", "letter"]
theorem sc_place_word : FnScope N_place_word ["alphabet", "word", "place"] (defScope s_place_word) := ⟨rfl, rfl, rfl, by decide +kernel, rfl, by decide +kernel, by decide +kernel⟩
abbrev N_equivalent : List Str := ["alphabet", "first", "second", "place"]
theorem sc_equivalent : FnScope N_equivalent ["alphabet", "first", "second"] (defScope s_equivalent) := ⟨rfl, rfl, rfl, by decide +kernel, rfl, by decide +kernel, by decide +kernel⟩
abbrev N_crossing : List Str := ["alphabet", "x", "y", "u", "v", "p", "r", "s"]
theorem sc_crossing : FnScope N_crossing ["alphabet", "x", "y", "u", "v"] (defScope s_crossing) := ⟨rfl, rfl, rfl, by decide +kernel, rfl, by decide +kernel, by decide +kernel⟩
abbrev N_commute : List Str := ["alphabet", "first", "second", "one"]
theorem sc_commute : FnScope N_commute ["alphabet", "first", "second"] (defScope s_commute) := ⟨rfl, rfl, rfl, by decide +kernel, rfl, by decide +kernel, by decide +kernel⟩
abbrev N__law_free : List Str := ["letters", "first", "second", "place"]
theorem sc__law_free : FnScope N__law_free ["letters", "first", "second"] (defScope s__law_free) := ⟨rfl, rfl, rfl, by decide +kernel, rfl, by decide +kernel, by decide +kernel⟩
abbrev N__law_shuffled : List Str := ["draws", "letters", "word", "times", "found", "k", "at", "one"]
theorem sc__law_shuffled : FnScope N__law_shuffled ["draws", "letters", "word", "times"] (defScope s__law_shuffled) := ⟨rfl, rfl, rfl, by decide +kernel, rfl, by decide +kernel, by decide +kernel⟩
abbrev N__law_place : List Str := ["letters", "word", "place", "letter"]
theorem sc__law_place : FnScope N__law_place ["letters", "word", "place"] (defScope s__law_place) := ⟨rfl, rfl, rfl, by decide +kernel, rfl, by decide +kernel, by decide +kernel⟩
abbrev N__law_alike : List Str := ["count", "letters", "first", "second", "place"]
theorem sc__law_alike : FnScope N__law_alike ["count", "letters", "first", "second"] (defScope s__law_alike) := ⟨rfl, rfl, rfl, by decide +kernel, rfl, by decide +kernel, by decide +kernel⟩
abbrev N__law_is_integer : List Str := ["actual"]
theorem sc__law_is_integer : FnScope N__law_is_integer ["actual"] (defScope s__law_is_integer) := ⟨rfl, rfl, rfl, by decide +kernel, rfl, by decide +kernel, by decide +kernel⟩
abbrev N__law_is_word : List Str := ["actual", "letters", "letter"]
theorem sc__law_is_word : FnScope N__law_is_word ["actual", "letters"] (defScope s__law_is_word) := ⟨rfl, rfl, rfl, by decide +kernel, rfl, by decide +kernel, by decide +kernel⟩
abbrev N__law_least : List Str := ["letters", "word", "left", "found", "turn", "best", "k", "blocked", "j"]
theorem sc__law_least : FnScope N__law_least ["letters", "word"] (defScope s__law_least) := ⟨rfl, rfl, rfl, by decide +kernel, rfl, by decide +kernel, by decide +kernel⟩
abbrev N_law : List Str := ["script", "draws", "count", "letters", "alphabet", "p", "r", "s", "q", "one", "two", "words", "found", "said", "whole", "k"]
theorem sc_law : FnScope N_law ["script"] (defScope s_law) := ⟨rfl, rfl, rfl, by decide +kernel, rfl, by decide +kernel, by decide +kernel⟩
section
variable {P : Program} {w : World} {K : PySem.W.Frag} {mg : Str → Option Value} {base : Heap} {ct : CT}
set_option maxHeartbeats 4100000 in
theorem okF__law_draws {f : Addr} {fd : FuncData} (F : Fun K "_law_draws" "_law_draws" s__law_draws f fd) (T : Txt K mg) : FnOk P w K mg base CX0 1 f fd ["script", "count"] (sp0 K ct (.lst .fz) G__law_draws) := by
  exact fn0 (k := 0) (mE := []) F sc__law_draws (by decide) (fun cdv A outer s H E hr =>
 (sjs_cons (sj_asg (fun _ h => pst 2 sc__law_draws.nd h) (ei_of (ep_nw (fun _ h => tcal call_list_of T.n_list h) vo_list (aw_cons (ew_var (pv 0) rfl rfl) aw_nil))) (by decide) (by decide))
 (sjs_cons (sj_if (ti_of (tp_2 (fun _ _ ha hb => pt_cmpR (op_eqD hr.units) ha hb (nomark _)) vo_eq (ev_of (ep_n (fun _ h => bcal call_len_seq T.n_len h) vo_len (av_cons (ev_var (pv 2)) av_nil))) (ev_of ep_int))) (sjs_one (sj_asg (fun _ h => pst 2 sc__law_draws.nd h) (ei_of (ep_lst (af_cons ep_int af_nil))) (by decide) (by decide)))
 sjs_nil)
 (sjs_cons (sj_asg (fun _ h => pst 3 sc__law_draws.nd h) (ei_of (ep_nil (k := .fz))) (by decide) (by decide))
 (sjs_cons (sj_asg (fun _ h => pst 4 sc__law_draws.nd h) (ei_of ep_int) (by decide) (by decide))
 (sjs_cons (sj_for PassesOwn.never rfl (it_range1 (by rfl) T.n_range (ai_cons (ei_of (ep_var (pv 1) rfl)) ai_nil)) (gj_nm (pgn 5 sc__law_draws.nd) rfl) (sjs_cons (sj_asg (fun _ h => pst 6 sc__law_draws.nd h) (ei_of (ep_2 (fun _ _ ha hb => pe_op op_mod ha hb) (vo_ic cPos_ok) (ev_var (pv 5)) (ev_of (ep_n (fun _ h => bcal call_len_seq T.n_len h) vo_len (av_cons (ev_var (pv 2)) av_nil))))) (by decide) (by decide))
 (sjs_cons (sj_asg (fun _ h => pst 7 sc__law_draws.nd h) (ei_of (ep_2w (fun _ _ ha hb => pe_ix (ix_list.or ix_tup) ha hb (fun _ _ => rfl)) vo_ix (ew_var (pv 2) rfl rfl) (ew_var (pv 6) rfl rfl))) (by decide) (by decide))
 (sjs_cons (sj_asg (fun _ h => pst 4 sc__law_draws.nd h) (ei_of (ep_2 (fun _ _ ha hb => pe_op op_mod ha hb) (vo_ic cPos_ok) (ev_of (ep_n (fun _ h => tcal call_int1 T.n_int h) vo_int (av_cons (ev_of (ep_2w (fun _ _ ha hb => pe_op (op_add.or (op_cat.or op_catA)) ha hb) vo_add (ew_of (ep_2w (fun _ _ ha hb => pe_op (op_add.or (op_cat.or op_catA)) ha hb) vo_add (ew_of (ep_2w (fun _ _ ha hb => pe_op (op_add.or (op_cat.or op_catA)) ha hb) vo_add (ew_of (ep_2 (fun _ _ ha hb => pe_op op_mul ha hb) (vo_ic cMul_ok) (ev_var (pv 4)) (ev_of ep_int)) rfl) (ew_of (ep_2 (fun _ _ ha hb => pe_op op_mul ha hb) (vo_ic cMul_ok) (ev_of (ep_2 (fun _ _ ha hb => pe_op op_mod ha hb) (vo_ic cPos_ok) (ev_of (ep_n (fun _ h => tcal call_int1 T.n_int h) vo_int (av_cons (ev_var (pv 7)) av_nil))) (ev_of ep_int))) (ev_of ep_int)) rfl)) rfl) (ew_of (ep_2 (fun _ _ ha hb => pe_op op_mul ha hb) (vo_ic cMul_ok) (ev_var (pv 5)) (ev_of ep_int)) rfl)) rfl) (ew_of ep_int rfl))) av_nil))) (ev_of ep_int))) (by decide) (by decide))
 (sjs_cons (sj_asg (fun _ h => pst 8 sc__law_draws.nd h) (ei_of (ep_2 (fun _ _ ha hb => pe_op op_mod ha hb) (vo_ic cPos_ok) (ev_of (ep_n (fun _ h => tcal call_int1 T.n_int h) vo_int (av_cons (ev_of (ep_2w (fun _ _ ha hb => pe_op (op_add.or (op_cat.or op_catA)) ha hb) vo_add (ew_of (ep_2w (fun _ _ ha hb => pe_op (op_add.or (op_cat.or op_catA)) ha hb) vo_add (ew_of (ep_2 (fun _ _ ha hb => pe_op op_mul ha hb) (vo_ic cMul_ok) (ev_var (pv 4)) (ev_var (pv 4))) rfl) (ew_of (ep_2 (fun _ _ ha hb => pe_op op_mul ha hb) (vo_ic cMul_ok) (ev_of ep_int) (ev_var (pv 4))) rfl)) rfl) (ew_var (pv 5) rfl rfl))) av_nil))) (ev_of ep_int))) (by decide) (by decide))
 (sjs_one (sj_if (ti_of (tp_2 (fun _ _ ha hb => pt_cmpR op_ge ha hb (nomark _)) vo_cmp (ev_var (pv 7)) (ev_of (ep_2 (fun _ _ ha hb => pe_op op_pow ha hb) (vo_ic cPow_ok) (ev_of ep_int) (ev_of ep_int))))) (sjs_cons (sj_ex (ei_mod (fun _ _ h1 h2 => pe_bm PySem.F.plainAttrs_list PySem.F.slot_list_append PySem.F.type_list_append mt_append h1 h2) vm_append (pv 3) rfl (ai_cons (ei_of (ep_2 (fun _ _ ha hb => pe_op op_mod ha hb) (vo_ic cPos_ok) (ev_of (ep_n (fun _ h => tcal call_int1 T.n_int h) vo_int (av_cons (ev_var (pv 7)) av_nil))) (ev_of ep_int))) ai_nil)))
 (sjs_one (sj_set (fun _ _ _ h1 h2 h3 => ps_asg h1 (pg_sub h2 h3 set_list)) (ei_of (ep_2 (fun _ _ ha hb => pe_op op_fdiv ha hb) (vo_ic cDiv_ok) (ev_var (pv 7)) (ev_of ep_int))) (pv 2) (ei_of (ep_var (pv 6) rfl)) rfl)))
 (sjs_one (sj_ex (ei_mod (fun _ _ h1 h2 => pe_bm PySem.F.plainAttrs_list PySem.F.slot_list_append PySem.F.type_list_append mt_append h1 h2) vm_append (pv 3) rfl (ai_cons (ei_of (ep_2 (fun _ _ ha hb => pe_op op_mod ha hb) (vo_ic cPos_ok) (ev_of (ep_n (fun _ h => tcal call_int1 T.n_int h) vo_int (av_cons (ev_var (pv 8)) av_nil))) (ev_of ep_int))) ai_nil)))))))))) (by decide))
 (sjs_cons (sj_ex (ei_mod0 (fun _ h => pe_bm0 PySem.F.plainAttrs_list PySem.F.slot_list_reverse PySem.F.type_list_reverse mt_reverse h) vm_rev (pv 3) rfl))
 (sjs_one (sj_rtO (pv 3) rfl (fun h => by cases h))))))))))
set_option maxHeartbeats 4100000 in
theorem okF__law_take {f : Addr} {fd : FuncData} (F : Fun K "_law_take" "_law_take" s__law_take f fd) (T : Txt K mg) : FnOk P w K mg base CX0 1 f fd ["draws", "limit"] (sp1 K ct .fz (.lst .fz) (.lst .fz) G__law_take) := by
  exact fn1 (k := 0) (n := 1) (mE := [.lst .fz]) F sc__law_take rfl (by decide) rfl (fun cdv A outer s H E hr =>
 (sjs_cons (sj_if (ti_of (tp_2 (fun _ _ ha hb => pt_cmpR (op_eqD hr.units) ha hb (nomark _)) vo_eq (ev_of (ep_n (fun _ h => bcal call_len_seq T.n_len h) vo_len (av_cons (ev_var (pv 0)) av_nil))) (ev_of ep_int))) (sjs_one (sj_rt (ei_of ep_int) (fun _ => rfl)))
 sjs_nil)
 (sjs_one (sj_rt (ei_2 (fun _ _ ha hb => pe_op op_mod ha hb) (vo_ic cPos_ok) (ei_n (fun _ h => tcal call_int1 T.n_int h) vo_int (ai_cons (ei_mod0 (fun _ h => pe_bm0 PySem.F.plainAttrs_list PySem.F.slot_list_pop PySem.F.type_list_pop mt_pop h) vm_pop (pv 0) rfl) ai_nil)) (ei_of (ep_var (pv 1) rfl))) (fun _ => rfl)))))
set_option maxHeartbeats 4100000 in
theorem okF__law_alphabet {f : Addr} {fd : FuncData} (F : Fun K "_law_alphabet" "_law_alphabet" s__law_alphabet f fd) (T : Txt K mg) (c__law_take : CalX P w K mg base 1 "_law_take" ["draws", "limit"] (sp1 K ct .fz (.lst .fz) (.lst .fz) G__law_take)) : FnOk P w K mg base CX0 2 f fd ["draws", "places", "most"] (sp1 K ct .fz (.lst .fz) (.lst .fz) G__law_alphabet) := by
  exact fn1 (k := 1) (n := 8) (mE := [.lst .fz]) F sc__law_alphabet rfl (by decide) rfl (fun cdv A outer s H E hr =>
 (sjs_cons (sj_asg (fun _ h => pst 3 sc__law_alphabet.nd h) (ei_2w (fun _ _ ha hb => pe_op (op_add.or (op_cat.or op_catA)) ha hb) vo_add (ei_of ep_int) (ei_cal1 c__law_take (hr.mono (by decide)) (pv 0) rfl (ai_cons (ei_of (ep_var (pv 1) rfl)) ai_nil))) (by decide) (by decide))
 (sjs_cons (sj_asg (fun _ h => pst 4 sc__law_alphabet.nd h) (ei_of (ep_nil (k := .fz))) (by decide) (by decide))
 (sjs_cons (sj_for PassesOwn.never rfl (it_range1 (by rfl) T.n_range (ai_cons (ei_2w (fun _ _ ha hb => pe_op (op_add.or (op_cat.or op_catA)) ha hb) vo_add (ei_of ep_int) (ei_cal1 c__law_take (hr.mono (by decide)) (pv 0) rfl (ai_cons (ei_of (ep_var (pv 2) rfl)) ai_nil))) ai_nil)) (gj_nm (pgn 5 sc__law_alphabet.nd) rfl) (sjs_cons (sj_asg (fun _ h => pst 6 sc__law_alphabet.nd h) (ei_2w (fun _ _ ha hb => pe_ix (ix_list.or ix_tup) ha hb (fun _ _ => rfl)) vo_ix (ei_fz (ei_of (ep_lst (af_cons ep_int (af_cons ep_int (af_cons ep_int (af_cons ep_int (af_cons ep_int (af_cons ep_int af_nil))))))))) (ei_cal1 c__law_take (hr.mono (by decide)) (pv 0) rfl (ai_cons (ei_of ep_int) ai_nil))) (by decide) (by decide))
 (sjs_cons (sj_ilcF (ps_setLc (i := 7) (own := [("j", 8)]) rfl sc__law_alphabet.nd rfl rfl (sw_true rfl rfl rfl (by decide +kernel)) (it_range1 (by rfl) T.n_range (ai_cons (ei_of (ep_var (pv 6) rfl)) ai_nil)) (blkOk_by (N := N__law_alphabet) (sc := (defScope s__law_alphabet)) (by decide +kernel)) (fun _ _ _ _ _ => (gj_nm (pgn 8 sc__law_alphabet.nd) rfl)) (fun _ _ _ _ _ => tis_nil) (fun _ _ _ _ _ => (ei_cal1 c__law_take (hr.mono (by decide)) (pv 0) rfl (ai_cons (ei_of (ep_var (pv 3) rfl)) ai_nil)))) (fzs rfl) (by decide) (by decide) (by decide))
 (sjs_one (sj_ex (ei_mod (fun _ _ h1 h2 => pe_bm PySem.F.plainAttrs_list PySem.F.slot_list_append PySem.F.type_list_append mt_append h1 h2) vm_append (pv 4) rfl (ai_cons (ei_of (ep_nw (fun _ h => tcal call_tuple_of T.n_tuple h) vo_tuple (aw_cons (ew_of (ep_sset rfl (by rfl) T.n_sorted (by rfl) T.n_set (aw_cons (ew_var (pv 7) rfl rfl) aw_nil)) rfl) aw_nil))) ai_nil)))))) (by decide))
 (sjs_frz 4 rfl (sjs_one (sj_rt (ei_of (ep_tup (af_cons (ep_var (pv 3) rfl) (af_cons (ep_var (pv 4) rfl) af_nil)))) (fun _ => rfl))))))))
set_option maxHeartbeats 4100000 in
theorem okF_fits {f : Addr} {fd : FuncData} (F : Fun K "fits" "fits" s_fits f fd) (T : Txt K mg) : FnOk P w K mg base CX0 1 f fd ["letter", "places"] (sp0 K ct .fz G_fits) := by
  exact fn0 (k := 0) (mE := []) F sc_fits (by decide) (fun cdv A outer s H E hr =>
 (sjs_cons (sj_if (ti_of (tp_2 (fun _ _ ha hb => pt_cmpR (op_eqD hr.units) ha hb (nomark _)) vo_eq (ev_of (ep_n (fun _ h => bcal call_len_seq T.n_len h) vo_len (av_cons (ev_var (pv 0)) av_nil))) (ev_of ep_int))) (sjs_one (sj_rt (ei_of ep_bl) (fun h => by cases h)))
 sjs_nil)
 (sjs_cons (sj_for PassesOwn.never rfl (it_range1 (by rfl) T.n_range (ai_cons (ei_of (ep_n (fun _ h => bcal call_len_seq T.n_len h) vo_len (av_cons (ev_var (pv 0)) av_nil))) ai_nil)) (gj_nm (pgn 2 sc_fits.nd) rfl) (sjs_one (sj_if (ti_of (tp_w (wp_or (tp_2 (fun _ _ ha hb => pt_cmpR op_lt ha hb (nomark _)) vo_cmp (ev_of (ep_2w (fun _ _ ha hb => pe_ix (ix_list.or ix_tup) ha hb (fun _ _ => rfl)) vo_ix (ew_var (pv 0) rfl rfl) (ew_var (pv 2) rfl rfl))) (ev_of ep_int)) (wp_or (tp_2 (fun _ _ ha hb => pt_cmpR op_ge ha hb (nomark _)) vo_cmp (ev_of (ep_2w (fun _ _ ha hb => pe_ix (ix_list.or ix_tup) ha hb (fun _ _ => rfl)) vo_ix (ew_var (pv 0) rfl rfl) (ew_var (pv 2) rfl rfl))) (ev_var (pv 1))) (wp_or1 (tp_w (wp_and (tp_2 (fun _ _ ha hb => pt_cmpR op_gt ha hb (nomark _)) vo_cmp (ev_var (pv 2)) (ev_of ep_int)) (wp_and1 (tp_2 (fun _ _ ha hb => pt_cmpR op_le ha hb (nomark _)) vo_cmp (ev_of (ep_2w (fun _ _ ha hb => pe_ix (ix_list.or ix_tup) ha hb (fun _ _ => rfl)) vo_ix (ew_var (pv 0) rfl rfl) (ew_var (pv 2) rfl rfl))) (ev_of (ep_2w (fun _ _ ha hb => pe_ix (ix_list.or ix_tup) ha hb (fun _ _ => rfl)) vo_ix (ew_var (pv 0) rfl rfl) (ew_of (ep_2 (fun _ _ ha hb => pe_op op_sub ha hb) vo_i2 (ev_var (pv 2)) (ev_of ep_int)) rfl)))))))))))) (sjs_one (sj_rt (ei_of ep_bl) (fun h => by cases h)))
 sjs_nil)) (by decide))
 (sjs_one (sj_rt (ei_of ep_bl) (fun h => by cases h))))))
set_option maxHeartbeats 4100000 in
theorem okF_Alphabet___init__ {f : Addr} {fd : FuncData} (F : Fun K "__init__" "Alphabet.__init__" s_Alphabet___init__ f fd) (T : Txt K mg) {C_Alphabet : Addr} (ci_Alphabet : CInfo K ct 0 C_Alphabet ["places", "letters"]) (c_fits : CalX P w K mg base 1 "fits" ["letter", "places"] (sp0 K ct .fz G_fits)) : FnOk P w K mg base CX0 2 f fd ["self", "places", "letters"] (sp1 K ct .fz (.ins 0 []) (.ins 0 [.fz, .fz]) G_Alphabet___init__) := by
  exact fn1 (k := 1) (n := 4) F sc_Alphabet___init__ rfl (by decide) rfl (fun cdv A outer s H E hr =>
 (sjs_cons (sj_asg (fun _ h => pst 3 sc_Alphabet___init__.nd h) (ei_of (ep_and (ev_of (ep_chain op_le op_le vo_cmp vo_cmp (ev_of ep_int) (ev_var (pv 1)) (ev_of (ep_gintE (by rfl) T.c_MOST_PLACES)))) (ep_one (ep_chain op_le op_le vo_cmp vo_cmp (ev_of ep_int) (ev_of (ep_n (fun _ h => bcal call_len_seq T.n_len h) vo_len (av_cons (ev_var (pv 2)) av_nil))) (ev_of (ep_gintE (by rfl) T.c_MOST_LETTERS)))))) (by decide) (by decide))
 (sjs_cons (sj_for PassesOwn.never rfl (it_seq (ei_of (ep_var (pv 2) rfl))) (gj_nm (pgn 4 sc_Alphabet___init__.nd) rfl) (sjs_one (sj_asg (fun _ h => pst 3 sc_Alphabet___init__.nd h) (ei_of (ep_and (ev_var (pv 3)) (ep_one (ep_cal c_fits (hr.mono (by decide)) (af_cons (ep_var (pv 4) rfl) (af_cons (ep_var (pv 1) rfl) af_nil)))))) (by decide) (by decide))) (by decide))
 (sjs_cons (sj_if (ti_of (tp_not (tp_val (ev_var (pv 3))))) (sjs_one sj_no)
 sjs_nil)
 (sjs_cons (sj_fldN (fun _ _ h1 h2 => ps_fld h1 h2 rfl) ci_Alphabet (by decide +kernel) (by decide) (pv 0) (ei_of (ep_var (pv 1) rfl)) rfl)
 (sjs_one (sj_fldN (fun _ _ h1 h2 => ps_fld h1 h2 rfl) ci_Alphabet (by decide +kernel) (by decide) (pv 0) (ei_of (ep_nw (fun _ h => tcal call_tuple_of T.n_tuple h) vo_tuple (aw_cons (ew_of (ep_comp (own := [("letter", 4)]) rfl sc_Alphabet___init__.nd (iv_seq (ew_var (pv 2) rfl rfl)) (blkOk_by (N := N_Alphabet___init__) (sc := (defScope s_Alphabet___init__)) (by decide +kernel)) (fun _ _ _ _ _ => (gj_nm (pgn 4 sc_Alphabet___init__.nd) rfl)) (fun _ _ _ _ _ => tps_nil) (fun _ _ _ _ _ => (ep_nw (fun _ h => tcal call_tuple_of T.n_tuple h) vo_tuple (aw_cons (ew_var (pv 4) rfl rfl) aw_nil))) (fzs rfl) (by decide)) rfl) aw_nil))) rfl)))))))
set_option maxHeartbeats 4100000 in
theorem okF__law_word {f : Addr} {fd : FuncData} (F : Fun K "_law_word" "_law_word" s__law_word f fd) (T : Txt K mg) (c__law_take : CalX P w K mg base 1 "_law_take" ["draws", "limit"] (sp1 K ct .fz (.lst .fz) (.lst .fz) G__law_take)) : FnOk P w K mg base CX0 2 f fd ["draws", "letters", "most"] (sp1 K ct .fz (.lst .fz) (.lst .fz) G__law_word) := by
  exact fn1 (k := 1) (n := 3) (mE := [.lst .fz]) F sc__law_word rfl (by decide) rfl (fun cdv A outer s H E hr =>
 (sjs_one (sj_rt (ei_nw (fun _ h => tcal call_tuple_of T.n_tuple h) vo_tuple (ai_cons (ei_fz (ei_comp (own := [("k", 3)]) rfl sc__law_word.nd (it_range1 (by rfl) T.n_range (ai_cons (ei_cal1 c__law_take (hr.mono (by decide)) (pv 0) rfl (ai_cons (ei_of (ep_2w (fun _ _ ha hb => pe_op (op_add.or (op_cat.or op_catA)) ha hb) vo_add (ew_var (pv 2) rfl rfl) (ew_of ep_int rfl))) ai_nil)) ai_nil)) (blkOk_by (N := N__law_word) (sc := (defScope s__law_word)) (by decide +kernel)) (fun _ _ _ _ _ => (gj_nm (pgn 3 sc__law_word.nd) rfl)) (fun _ _ _ _ _ => tis_nil) (fun _ _ _ _ _ => (ei_cal1 c__law_take (hr.mono (by decide)) (pv 0) rfl (ai_cons (ei_of (ep_var (pv 1) rfl)) ai_nil))) (fzs rfl) (by decide))) ai_nil)) (fun _ => rfl))))
set_option maxHeartbeats 4100000 in
theorem okF_independent {f : Addr} {fd : FuncData} (F : Fun K "independent" "independent" s_independent f fd) (T : Txt K mg) {C_Alphabet : Addr} (ci_Alphabet : CInfo K ct 0 C_Alphabet ["places", "letters"]) : FnOk P w K mg base CX0 1 f fd ["alphabet", "first", "second"] (sp0 K ct .fz G_independent) := by
  exact fn0 (k := 0) (mE := []) F sc_independent (by decide) (fun cdv A outer s H E hr =>
 (sjs_cons (sj_for PassesOwn.never rfl (it_seq (ei_of (ep_2w (fun _ _ ha hb => pe_ix (ix_list.or ix_tup) ha hb (fun _ _ => rfl)) vo_ix (ew_of (ep_fld ci_Alphabet (by decide +kernel) (ep_var (pv 0) rfl)) rfl) (ew_var (pv 1) rfl rfl)))) (gj_nm (pgn 3 sc_independent.nd) rfl) (sjs_one (sj_if (ti_of (tp_2 (fun _ _ ha hb => pt_cmpR ((op_inD (hr65 hr)).or op_in_seq) ha hb (by rfl)) vo_in (ev_var (pv 3)) (ev_of (ep_2w (fun _ _ ha hb => pe_ix (ix_list.or ix_tup) ha hb (fun _ _ => rfl)) vo_ix (ew_of (ep_fld ci_Alphabet (by decide +kernel) (ep_var (pv 0) rfl)) rfl) (ew_var (pv 2) rfl rfl))))) (sjs_one (sj_rt (ei_of ep_bl) (fun h => by cases h)))
 sjs_nil)) (by decide))
 (sjs_one (sj_rt (ei_of ep_bl) (fun h => by cases h)))))
set_option maxHeartbeats 4100000 in
theorem okF_masks {f : Addr} {fd : FuncData} (F : Fun K "masks" "masks" s_masks f fd) (T : Txt K mg) {C_Alphabet : Addr} (ci_Alphabet : CInfo K ct 0 C_Alphabet ["places", "letters"]) (c_independent : CalX P w K mg base 1 "independent" ["alphabet", "first", "second"] (sp0 K ct .fz G_independent)) : FnOk P w K mg base CX0 2 f fd ["alphabet"] (sp0 K ct .fz G_masks) := by
  exact fn0 (k := 1) (mE := []) F sc_masks (by decide) (fun cdv A outer s H E hr =>
 (sjs_cons (sj_asg (fun _ h => pst 1 sc_masks.nd h) (ei_of (ep_nil (k := .fz))) (by decide) (by decide))
 (sjs_cons (sj_for PassesOwn.never rfl (it_range1 (by rfl) T.n_range (ai_cons (ei_of (ep_n (fun _ h => bcal call_len_seq T.n_len h) vo_len (av_cons (ev_of (ep_fld ci_Alphabet (by decide +kernel) (ep_var (pv 0) rfl))) av_nil))) ai_nil)) (gj_nm (pgn 2 sc_masks.nd) rfl) (sjs_cons (sj_asg (fun _ h => pst 3 sc_masks.nd h) (ei_of ep_int) (by decide) (by decide))
 (sjs_cons (sj_for PassesOwn.never rfl (it_range1 (by rfl) T.n_range (ai_cons (ei_of (ep_n (fun _ h => bcal call_len_seq T.n_len h) vo_len (av_cons (ev_of (ep_fld ci_Alphabet (by decide +kernel) (ep_var (pv 0) rfl))) av_nil))) ai_nil)) (gj_nm (pgn 4 sc_masks.nd) rfl) (sjs_one (sj_if (ti_of (tp_not (tp_val (ev_of (ep_cal c_independent (hr.mono (by decide)) (af_cons (ep_var (pv 0) rfl) (af_cons (ep_var (pv 2) rfl) (af_cons (ep_var (pv 4) rfl) af_nil)))))))) (sjs_one (sj_asg (fun _ h => pst 3 sc_masks.nd h) (ei_of (ep_2 (fun _ _ ha hb => pe_op op_or ha hb) vo_i2 (ev_var (pv 3)) (ev_of (ep_2 (fun _ _ ha hb => pe_op op_shl ha hb) (vo_ic cPow_ok) (ev_of ep_int) (ev_var (pv 4)))))) (by decide) (by decide)))
 sjs_nil)) (by decide))
 (sjs_one (sj_ex (ei_mod (fun _ _ h1 h2 => pe_bm PySem.F.plainAttrs_list PySem.F.slot_list_append PySem.F.type_list_append mt_append h1 h2) vm_append (pv 1) rfl (ai_cons (ei_of (ep_var (pv 3) rfl)) ai_nil)))))) (by decide))
 (sjs_frz 1 rfl (sjs_one (sj_rt (ei_of (ep_var (pv 1) rfl)) (fun h => by cases h)))))))
set_option maxHeartbeats 4100000 in
theorem okF_first_letters {f : Addr} {fd : FuncData} (F : Fun K "first_letters" "first_letters" s_first_letters f fd) (T : Txt K mg) (c_masks : CalX P w K mg base 2 "masks" ["alphabet"] (sp0 K ct .fz G_masks)) : FnOk P w K mg base CX0 3 f fd ["alphabet", "word"] (sp0 K ct (.lst .fz) G_first_letters) := by
  exact fn0 (k := 2) (mE := []) F sc_first_letters (by decide) (fun cdv A outer s H E hr =>
 (sjs_cons (sj_asg (fun _ h => pst 2 sc_first_letters.nd h) (ei_of (ep_nil (k := .fz))) (by decide) (by decide))
 (sjs_cons (sj_asg (fun _ h => pst 3 sc_first_letters.nd h) (ei_of ep_int) (by decide) (by decide))
 (sjs_cons (sj_asg (fun _ h => pst 4 sc_first_letters.nd h) (ei_of (ep_cal c_masks (hr.mono (by decide)) (af_cons (ep_var (pv 0) rfl) af_nil))) (by decide) (by decide))
 (sjs_cons (sj_for PassesOwn.never rfl (it_range1 (by rfl) T.n_range (ai_cons (ei_of (ep_n (fun _ h => bcal call_len_seq T.n_len h) vo_len (av_cons (ev_var (pv 1)) av_nil))) ai_nil)) (gj_nm (pgn 5 sc_first_letters.nd) rfl) (sjs_cons (sj_if (ti_of (tp_2 (fun _ _ ha hb => pt_cmpR (op_eqD hr.units) ha hb (nomark _)) vo_eq (ev_of (ep_2 (fun _ _ ha hb => pe_op op_and ha hb) vo_i2 (ev_of (ep_2 (fun _ _ ha hb => pe_op op_shr ha hb) (vo_ic cNn_ok) (ev_var (pv 3)) (ev_of (ep_2w (fun _ _ ha hb => pe_ix (ix_list.or ix_tup) ha hb (fun _ _ => rfl)) vo_ix (ew_var (pv 1) rfl rfl) (ew_var (pv 5) rfl rfl))))) (ev_of ep_int))) (ev_of ep_int))) (sjs_one (sj_ex (ei_mod (fun _ _ h1 h2 => pe_bm PySem.F.plainAttrs_list PySem.F.slot_list_append PySem.F.type_list_append mt_append h1 h2) vm_append (pv 2) rfl (ai_cons (ei_of (ep_var (pv 5) rfl)) ai_nil))))
 sjs_nil)
 (sjs_one (sj_asg (fun _ h => pst 3 sc_first_letters.nd h) (ei_of (ep_2 (fun _ _ ha hb => pe_op op_or ha hb) vo_i2 (ev_var (pv 3)) (ev_of (ep_2w (fun _ _ ha hb => pe_ix (ix_list.or ix_tup) ha hb (fun _ _ => rfl)) vo_ix (ew_var (pv 4) rfl rfl) (ew_of (ep_2w (fun _ _ ha hb => pe_ix (ix_list.or ix_tup) ha hb (fun _ _ => rfl)) vo_ix (ew_var (pv 1) rfl rfl) (ew_var (pv 5) rfl rfl)) rfl))))) (by decide) (by decide)))) (by decide))
 (sjs_one (sj_rtO (pv 2) rfl (fun h => by cases h))))))))
set_option maxHeartbeats 4100000 in
theorem okF_least_form {f : Addr} {fd : FuncData} (F : Fun K "least_form" "least_form" s_least_form f fd) (T : Txt K mg) (c_first_letters : CalX P w K mg base 3 "first_letters" ["alphabet", "word"] (sp0 K ct (.lst .fz) G_first_letters)) : FnOk P w K mg base CX0 4 f fd ["alphabet", "word"] (sp0 K ct .fz G_least_form) := by
  exact fn0 (k := 3) (mE := []) F sc_least_form (by decide) (fun cdv A outer s H E hr =>
 (sjs_cons (sj_asg (fun _ h => pst 2 sc_least_form.nd h) (ei_of (ep_nw (fun _ h => tcal call_list_of T.n_list h) vo_list (aw_cons (ew_var (pv 1) rfl rfl) aw_nil))) (by decide) (by decide))
 (sjs_cons (sj_asg (fun _ h => pst 3 sc_least_form.nd h) (ei_of (ep_nil (k := .fz))) (by decide) (by decide))
 (sjs_cons (sj_wh PassesOwn.never (ti_of (tp_2 (fun _ _ ha hb => pt_cmpR op_gt ha hb (nomark _)) vo_cmp (ev_of (ep_n (fun _ h => bcal call_len_seq T.n_len h) vo_len (av_cons (ev_var (pv 2)) av_nil))) (ev_of ep_int))) (sjs_cons (sj_asg (fun _ h => pst 4 sc_least_form.nd h) (ei_of (ep_neg (ev_of ep_int))) (by decide) (by decide))
 (sjs_cons (sj_for PassesOwn.never rfl (it_seq (ei_fz (ei_of (ep_calV c_first_letters (hr.mono (by decide)) (av_cons (ev_var (pv 0)) (av_cons (ev_var (pv 2)) av_nil)))))) (gj_nm (pgn 5 sc_least_form.nd) rfl) (sjs_one (sj_if (ti_of (tp_w (wp_or (tp_2 (fun _ _ ha hb => pt_cmpR op_lt ha hb (nomark _)) vo_cmp (ev_var (pv 4)) (ev_of ep_int)) (wp_or1 (tp_2 (fun _ _ ha hb => pt_cmpR op_lt ha hb (nomark _)) vo_cmp (ev_of (ep_2w (fun _ _ ha hb => pe_ix (ix_list.or ix_tup) ha hb (fun _ _ => rfl)) vo_ix (ew_var (pv 2) rfl rfl) (ew_var (pv 5) rfl rfl))) (ev_of (ep_2w (fun _ _ ha hb => pe_ix (ix_list.or ix_tup) ha hb (fun _ _ => rfl)) vo_ix (ew_var (pv 2) rfl rfl) (ew_var (pv 4) rfl rfl)))))))) (sjs_one (sj_asg (fun _ h => pst 4 sc_least_form.nd h) (ei_of (ep_var (pv 5) rfl)) (by decide) (by decide)))
 sjs_nil)) (by decide))
 (sjs_one (sj_ex (ei_mod (fun _ _ h1 h2 => pe_bm PySem.F.plainAttrs_list PySem.F.slot_list_append PySem.F.type_list_append mt_append h1 h2) vm_append (pv 3) rfl (ai_cons (ei_mod (fun _ _ h1 h2 => pe_bm PySem.F.plainAttrs_list PySem.F.slot_list_pop PySem.F.type_list_pop mt_popAt h1 h2) vm_popAt (pv 2) rfl (ai_cons (ei_of (ep_var (pv 4) rfl)) ai_nil)) ai_nil)))))))
 (sjs_one (sj_rt (ei_of (ep_nw (fun _ h => tcal call_tuple_of T.n_tuple h) vo_tuple (aw_cons (ew_var (pv 3) rfl rfl) aw_nil))) (fun h => by cases h)))))))
set_option maxHeartbeats 4100000 in
theorem okF_first_place {f : Addr} {fd : FuncData} (F : Fun K "first_place" "first_place" s_first_place f fd) (T : Txt K mg) (c_first_letters : CalX P w K mg base 3 "first_letters" ["alphabet", "word"] (sp0 K ct (.lst .fz) G_first_letters)) : FnOk P w K mg base CX0 4 f fd ["alphabet", "word", "letter"] (sp0 K ct .fz G_first_place) := by
  exact fn0 (k := 3) (mE := []) F sc_first_place (by decide) (fun cdv A outer s H E hr =>
 (sjs_cons (sj_for PassesOwn.never rfl (it_seq (ei_fz (ei_of (ep_cal c_first_letters (hr.mono (by decide)) (af_cons (ep_var (pv 0) rfl) (af_cons (ep_var (pv 1) rfl) af_nil)))))) (gj_nm (pgn 3 sc_first_place.nd) rfl) (sjs_one (sj_if (ti_of (tp_2 (fun _ _ ha hb => pt_cmpR (op_eqD hr.units) ha hb (nomark _)) vo_eq (ev_of (ep_2w (fun _ _ ha hb => pe_ix (ix_list.or ix_tup) ha hb (fun _ _ => rfl)) vo_ix (ew_var (pv 1) rfl rfl) (ew_var (pv 3) rfl rfl))) (ev_var (pv 2)))) (sjs_one (sj_rt (ei_of (ep_var (pv 3) rfl)) (fun h => by cases h)))
 sjs_nil)) (by decide))
 (sjs_one (sj_rt (ei_of (ep_neg (ev_of ep_int))) (fun h => by cases h)))))
set_option maxHeartbeats 4100000 in
theorem okF_without {f : Addr} {fd : FuncData} (F : Fun K "without" "without" s_without f fd) (T : Txt K mg) : FnOk P w K mg base CX0 1 f fd ["word", "position"] (sp0 K ct .fz G_without) := by
  exact fn0 (k := 0) (mE := []) F sc_without (by decide) (fun cdv A outer s H E hr =>
 (sjs_one (sj_rt (ei_of (ep_2w (fun _ _ ha hb => pe_op (op_add.or (op_cat.or op_catA)) ha hb) vo_add (ew_of (ep_nw (fun _ h => tcal call_tuple_of T.n_tuple h) vo_tuple (aw_cons (ew_of (ep_slice (sl_list.or sl_tupA) vs_any (ew_var (pv 0) rfl rfl) .none (.some (ev_var (pv 1)))) rfl) aw_nil)) rfl) (ew_of (ep_nw (fun _ h => tcal call_tuple_of T.n_tuple h) vo_tuple (aw_cons (ew_of (ep_slice (sl_list.or sl_tupA) vs_any (ew_var (pv 0) rfl rfl) (.some (ev_of (ep_2w (fun _ _ ha hb => pe_op (op_add.or (op_cat.or op_catA)) ha hb) vo_add (ew_var (pv 1) rfl rfl) (ew_of ep_int rfl)))) .none) rfl) aw_nil)) rfl))) (fun h => by cases h))))
set_option maxHeartbeats 4100000 in
theorem okF_common_prefix {f : Addr} {fd : FuncData} (F : Fun K "common_prefix" "common_prefix" s_common_prefix f fd) (T : Txt K mg) {C_Alphabet : Addr} (ci_Alphabet : CInfo K ct 0 C_Alphabet ["places", "letters"]) (c_first_place : CalX P w K mg base 4 "first_place" ["alphabet", "word", "letter"] (sp0 K ct .fz G_first_place)) (c_without : CalX P w K mg base 1 "without" ["word", "position"] (sp0 K ct .fz G_without)) (c_least_form : CalX P w K mg base 4 "least_form" ["alphabet", "word"] (sp0 K ct .fz G_least_form)) : FnOk P w K mg base CX0 5 f fd ["alphabet", "first", "second"] (sp0 K ct .fz G_common_prefix) := by
  exact fn0 (k := 4) (mE := []) F sc_common_prefix (by decide) (fun cdv A outer s H E hr =>
 (sjs_cons (sj_asg (fun _ h => pst 3 sc_common_prefix.nd h) (ei_of (ep_nw (fun _ h => tcal call_tuple_of T.n_tuple h) vo_tuple (aw_cons (ew_var (pv 1) rfl rfl) aw_nil))) (by decide) (by decide))
 (sjs_cons (sj_asg (fun _ h => pst 4 sc_common_prefix.nd h) (ei_of (ep_nw (fun _ h => tcal call_tuple_of T.n_tuple h) vo_tuple (aw_cons (ew_var (pv 2) rfl rfl) aw_nil))) (by decide) (by decide))
 (sjs_cons (sj_asg (fun _ h => pst 5 sc_common_prefix.nd h) (ei_of (ep_nil (k := .fz))) (by decide) (by decide))
 (sjs_cons (sj_asg (fun _ h => pst 6 sc_common_prefix.nd h) (ei_of ep_int) (by decide) (by decide))
 (sjs_cons (sj_wh PassesOwn.never (ti_of (tp_2 (fun _ _ ha hb => pt_cmpR op_lt ha hb (nomark _)) vo_cmp (ev_var (pv 6)) (ev_of (ep_n (fun _ h => bcal call_len_seq T.n_len h) vo_len (av_cons (ev_of (ep_fld ci_Alphabet (by decide +kernel) (ep_var (pv 0) rfl))) av_nil))))) (sjs_cons (sj_asg (fun _ h => pst 7 sc_common_prefix.nd h) (ei_of (ep_cal c_first_place (hr.mono (by decide)) (af_cons (ep_var (pv 0) rfl) (af_cons (ep_var (pv 3) rfl) (af_cons (ep_var (pv 6) rfl) af_nil))))) (by decide) (by decide))
 (sjs_cons (sj_asg (fun _ h => pst 8 sc_common_prefix.nd h) (ei_of (ep_cal c_first_place (hr.mono (by decide)) (af_cons (ep_var (pv 0) rfl) (af_cons (ep_var (pv 4) rfl) (af_cons (ep_var (pv 6) rfl) af_nil))))) (by decide) (by decide))
 (sjs_one (sj_if (ti_of (tp_w (wp_and (tp_2 (fun _ _ ha hb => pt_cmpR op_ge ha hb (nomark _)) vo_cmp (ev_var (pv 7)) (ev_of ep_int)) (wp_and1 (tp_2 (fun _ _ ha hb => pt_cmpR op_ge ha hb (nomark _)) vo_cmp (ev_var (pv 8)) (ev_of ep_int)))))) (sjs_cons (sj_ex (ei_mod (fun _ _ h1 h2 => pe_bm PySem.F.plainAttrs_list PySem.F.slot_list_append PySem.F.type_list_append mt_append h1 h2) vm_append (pv 5) rfl (ai_cons (ei_of (ep_var (pv 6) rfl)) ai_nil)))
 (sjs_cons (sj_asg (fun _ h => pst 3 sc_common_prefix.nd h) (ei_of (ep_cal c_without (hr.mono (by decide)) (af_cons (ep_var (pv 3) rfl) (af_cons (ep_var (pv 7) rfl) af_nil)))) (by decide) (by decide))
 (sjs_cons (sj_asg (fun _ h => pst 4 sc_common_prefix.nd h) (ei_of (ep_cal c_without (hr.mono (by decide)) (af_cons (ep_var (pv 4) rfl) (af_cons (ep_var (pv 8) rfl) af_nil)))) (by decide) (by decide))
 (sjs_one (sj_asg (fun _ h => pst 6 sc_common_prefix.nd h) (ei_of ep_int) (by decide) (by decide))))))
 (sjs_one (sj_aug (op := .Add) (fun _ h => ps_aug (i := 6) sc_common_prefix.nd rfl (by first | exact Or.inl rfl | exact Or.inr rfl) h ip_add) (ei_of ep_int) rfl (by decide))))))))
 (sjs_frz 5 rfl (sjs_one (sj_rt (ei_of (ep_cal c_least_form (hr.mono (by decide)) (af_cons (ep_var (pv 0) rfl) (af_cons (ep_var (pv 5) rfl) af_nil)))) (fun h => by cases h))))))))))
set_option maxHeartbeats 4100000 in
theorem okF_rest {f : Addr} {fd : FuncData} (F : Fun K "rest" "rest" s_rest f fd) (T : Txt K mg) (c_first_place : CalX P w K mg base 4 "first_place" ["alphabet", "word", "letter"] (sp0 K ct .fz G_first_place)) (c_without : CalX P w K mg base 1 "without" ["word", "position"] (sp0 K ct .fz G_without)) (c_least_form : CalX P w K mg base 4 "least_form" ["alphabet", "word"] (sp0 K ct .fz G_least_form)) : FnOk P w K mg base CX0 5 f fd ["alphabet", "first", "second"] (sp0 K ct .fz G_rest) := by
  exact fn0 (k := 4) (mE := []) F sc_rest (by decide) (fun cdv A outer s H E hr =>
 (sjs_cons (sj_asg (fun _ h => pst 3 sc_rest.nd h) (ei_of (ep_nw (fun _ h => tcal call_tuple_of T.n_tuple h) vo_tuple (aw_cons (ew_var (pv 2) rfl rfl) aw_nil))) (by decide) (by decide))
 (sjs_cons (sj_for PassesOwn.never rfl (it_seq (ei_of (ep_var (pv 1) rfl))) (gj_nm (pgn 4 sc_rest.nd) rfl) (sjs_cons (sj_asg (fun _ h => pst 5 sc_rest.nd h) (ei_of (ep_cal c_first_place (hr.mono (by decide)) (af_cons (ep_var (pv 0) rfl) (af_cons (ep_var (pv 3) rfl) (af_cons (ep_var (pv 4) rfl) af_nil))))) (by decide) (by decide))
 (sjs_cons (sj_if (ti_of (tp_2 (fun _ _ ha hb => pt_cmpR op_lt ha hb (nomark _)) vo_cmp (ev_var (pv 5)) (ev_of ep_int))) (sjs_one (sj_rt (ei_of ep_non) (fun h => by cases h)))
 sjs_nil)
 (sjs_one (sj_asg (fun _ h => pst 3 sc_rest.nd h) (ei_of (ep_cal c_without (hr.mono (by decide)) (af_cons (ep_var (pv 3) rfl) (af_cons (ep_var (pv 5) rfl) af_nil)))) (by decide) (by decide))))) (by decide))
 (sjs_one (sj_rt (ei_of (ep_cal c_least_form (hr.mono (by decide)) (af_cons (ep_var (pv 0) rfl) (af_cons (ep_var (pv 3) rfl) af_nil)))) (fun h => by cases h))))))
set_option maxHeartbeats 4100000 in
theorem okF_place_word {f : Addr} {fd : FuncData} (F : Fun K "place_word" "place_word" s_place_word f fd) (T : Txt K mg) {C_Alphabet : Addr} (ci_Alphabet : CInfo K ct 0 C_Alphabet ["places", "letters"]) : FnOk P w K mg base CX0 1 f fd ["alphabet", "word", "place"] (sp0 K ct .fz G_place_word) := by
  exact fn0 (k := 0) (mE := []) F sc_place_word (by decide) (fun cdv A outer s H E hr =>
 (sjs_one (sj_rt (ei_of (ep_nw (fun _ h => tcal call_tuple_of T.n_tuple h) vo_tuple (aw_cons (ew_of (ep_comp (own := [("letter", 3)]) rfl sc_place_word.nd (iv_seq (ew_var (pv 1) rfl rfl)) (blkOk_by (N := N_place_word) (sc := (defScope s_place_word)) (by decide +kernel)) (fun _ _ _ _ _ => (gj_nm (pgn 3 sc_place_word.nd) rfl)) (fun _ _ _ _ _ => (tps_one (tp_2 (fun _ _ ha hb => pt_cmpR ((op_inD (hr65 hr)).or op_in_seq) ha hb (by rfl)) vo_in (ev_var (pv 2)) (ev_of (ep_2w (fun _ _ ha hb => pe_ix (ix_list.or ix_tup) ha hb (fun _ _ => rfl)) vo_ix (ew_of (ep_fld ci_Alphabet (by decide +kernel) (ep_var (pv 0) rfl)) rfl) (ew_var (pv 3) rfl rfl)))))) (fun _ _ _ _ _ => (ep_var (pv 3) rfl)) (fzs rfl) (by decide)) rfl) aw_nil))) (fun h => by cases h))))
set_option maxHeartbeats 4100000 in
theorem okF_equivalent {f : Addr} {fd : FuncData} (F : Fun K "equivalent" "equivalent" s_equivalent f fd) (T : Txt K mg) {C_Alphabet : Addr} (ci_Alphabet : CInfo K ct 0 C_Alphabet ["places", "letters"]) (c_place_word : CalX P w K mg base 1 "place_word" ["alphabet", "word", "place"] (sp0 K ct .fz G_place_word)) : FnOk P w K mg base CX0 2 f fd ["alphabet", "first", "second"] (sp0 K ct .fz G_equivalent) := by
  exact fn0 (k := 1) (mE := []) F sc_equivalent (by decide) (fun cdv A outer s H E hr =>
 (sjs_cons (sj_for PassesOwn.never rfl (it_range1 (by rfl) T.n_range (ai_cons (ei_of (ep_fld ci_Alphabet (by decide +kernel) (ep_var (pv 0) rfl))) ai_nil)) (gj_nm (pgn 3 sc_equivalent.nd) rfl) (sjs_one (sj_if (ti_of (tp_2 (fun _ _ ha hb => pt_cmpR (op_neD hr.units) ha hb (nomark _)) vo_ne (ev_of (ep_cal c_place_word (hr.mono (by decide)) (af_cons (ep_var (pv 0) rfl) (af_cons (ep_var (pv 1) rfl) (af_cons (ep_var (pv 3) rfl) af_nil))))) (ev_of (ep_cal c_place_word (hr.mono (by decide)) (af_cons (ep_var (pv 0) rfl) (af_cons (ep_var (pv 2) rfl) (af_cons (ep_var (pv 3) rfl) af_nil))))))) (sjs_one (sj_rt (ei_of ep_bl) (fun h => by cases h)))
 sjs_nil)) (by decide))
 (sjs_one (sj_rt (ei_of ep_bl) (fun h => by cases h)))))
set_option maxHeartbeats 4100000 in
theorem okF_crossing {f : Addr} {fd : FuncData} (F : Fun K "crossing" "crossing" s_crossing f fd) (T : Txt K mg) (c_equivalent : CalX P w K mg base 2 "equivalent" ["alphabet", "first", "second"] (sp0 K ct .fz G_equivalent)) (c_common_prefix : CalX P w K mg base 5 "common_prefix" ["alphabet", "first", "second"] (sp0 K ct .fz G_common_prefix)) (c_rest : CalX P w K mg base 5 "rest" ["alphabet", "first", "second"] (sp0 K ct .fz G_rest)) : FnOk P w K mg base CX0 6 f fd ["alphabet", "x", "y", "u", "v"] (sp0 K ct .fz G_crossing) := by
  exact fn0 (k := 5) (mE := []) F sc_crossing (by decide) (fun cdv A outer s H E hr =>
 (sjs_cons (sj_if (ti_of (tp_not (tp_val (ev_of (ep_cal c_equivalent (hr.mono (by decide)) (af_cons (ep_var (pv 0) rfl) (af_cons (ep_2w (fun _ _ ha hb => pe_op (op_add.or (op_cat.or op_catA)) ha hb) vo_add (ew_of (ep_nw (fun _ h => tcal call_tuple_of T.n_tuple h) vo_tuple (aw_cons (ew_var (pv 1) rfl rfl) aw_nil)) rfl) (ew_of (ep_nw (fun _ h => tcal call_tuple_of T.n_tuple h) vo_tuple (aw_cons (ew_var (pv 2) rfl rfl) aw_nil)) rfl)) (af_cons (ep_2w (fun _ _ ha hb => pe_op (op_add.or (op_cat.or op_catA)) ha hb) vo_add (ew_of (ep_nw (fun _ h => tcal call_tuple_of T.n_tuple h) vo_tuple (aw_cons (ew_var (pv 3) rfl rfl) aw_nil)) rfl) (ew_of (ep_nw (fun _ h => tcal call_tuple_of T.n_tuple h) vo_tuple (aw_cons (ew_var (pv 4) rfl rfl) aw_nil)) rfl)) af_nil)))))))) (sjs_one (sj_rt (ei_of ep_non) (fun h => by cases h)))
 sjs_nil)
 (sjs_cons (sj_asg (fun _ h => pst 5 sc_crossing.nd h) (ei_of (ep_cal c_common_prefix (hr.mono (by decide)) (af_cons (ep_var (pv 0) rfl) (af_cons (ep_var (pv 1) rfl) (af_cons (ep_var (pv 3) rfl) af_nil))))) (by decide) (by decide))
 (sjs_cons (sj_asg (fun _ h => pst 6 sc_crossing.nd h) (ei_of (ep_cal c_rest (hr.mono (by decide)) (af_cons (ep_var (pv 0) rfl) (af_cons (ep_var (pv 5) rfl) (af_cons (ep_var (pv 1) rfl) af_nil))))) (by decide) (by decide))
 (sjs_cons (sj_asg (fun _ h => pst 7 sc_crossing.nd h) (ei_of (ep_cal c_rest (hr.mono (by decide)) (af_cons (ep_var (pv 0) rfl) (af_cons (ep_var (pv 5) rfl) (af_cons (ep_var (pv 3) rfl) af_nil))))) (by decide) (by decide))
 (sjs_one (sj_rt (ei_of (ep_tup (af_cons (ep_var (pv 5) rfl) (af_cons (ep_var (pv 6) rfl) (af_cons (ep_var (pv 7) rfl) (af_cons (ep_cal c_rest (hr.mono (by decide)) (af_cons (ep_var (pv 0) rfl) (af_cons (ep_var (pv 7) rfl) (af_cons (ep_var (pv 2) rfl) af_nil)))) af_nil)))))) (fun h => by cases h))))))))
set_option maxHeartbeats 4100000 in
theorem okF_commute {f : Addr} {fd : FuncData} (F : Fun K "commute" "commute" s_commute f fd) (T : Txt K mg) (c_equivalent : CalX P w K mg base 2 "equivalent" ["alphabet", "first", "second"] (sp0 K ct .fz G_equivalent)) : FnOk P w K mg base CX0 3 f fd ["alphabet", "first", "second"] (sp0 K ct .fz G_commute) := by
  exact fn0 (k := 2) (mE := []) F sc_commute (by decide) (fun cdv A outer s H E hr =>
 (sjs_cons (sj_asg (fun _ h => pst 3 sc_commute.nd h) (ei_of (ep_2w (fun _ _ ha hb => pe_op (op_add.or (op_cat.or op_catA)) ha hb) vo_add (ew_of (ep_nw (fun _ h => tcal call_tuple_of T.n_tuple h) vo_tuple (aw_cons (ew_var (pv 1) rfl rfl) aw_nil)) rfl) (ew_of (ep_nw (fun _ h => tcal call_tuple_of T.n_tuple h) vo_tuple (aw_cons (ew_var (pv 2) rfl rfl) aw_nil)) rfl))) (by decide) (by decide))
 (sjs_one (sj_rt (ei_of (ep_cal c_equivalent (hr.mono (by decide)) (af_cons (ep_var (pv 0) rfl) (af_cons (ep_var (pv 3) rfl) (af_cons (ep_2w (fun _ _ ha hb => pe_op (op_add.or (op_cat.or op_catA)) ha hb) vo_add (ew_of (ep_nw (fun _ h => tcal call_tuple_of T.n_tuple h) vo_tuple (aw_cons (ew_var (pv 2) rfl rfl) aw_nil)) rfl) (ew_of (ep_nw (fun _ h => tcal call_tuple_of T.n_tuple h) vo_tuple (aw_cons (ew_var (pv 1) rfl rfl) aw_nil)) rfl)) af_nil))))) (fun h => by cases h)))))
set_option maxHeartbeats 4100000 in
theorem okF__law_free {f : Addr} {fd : FuncData} (F : Fun K "_law_free" "_law_free" s__law_free f fd) (T : Txt K mg) : FnOk P w K mg base CX0 1 f fd ["letters", "first", "second"] (sp0 K ct .fz G__law_free) := by
  exact fn0 (k := 0) (mE := []) F sc__law_free (by decide) (fun cdv A outer s H E hr =>
 (sjs_one (sj_rt (ei_of (ep_2 (fun _ _ ha hb => pe_cmpR (op_eqD hr.units) ha hb (nomark _)) vo_eq (ev_of (ep_n (fun _ h => bcal call_len_seq T.n_len h) vo_len (av_cons (ev_of (ep_comp (own := [("place", 3)]) rfl sc__law_free.nd (iv_seq (ew_of (ep_2w (fun _ _ ha hb => pe_ix (ix_list.or ix_tup) ha hb (fun _ _ => rfl)) vo_ix (ew_var (pv 0) rfl rfl) (ew_var (pv 1) rfl rfl)) rfl)) (blkOk_by (N := N__law_free) (sc := (defScope s__law_free)) (by decide +kernel)) (fun _ _ _ _ _ => (gj_nm (pgn 3 sc__law_free.nd) rfl)) (fun _ _ _ _ _ => (tps_one (tp_2 (fun _ _ ha hb => pt_cmpR ((op_inD (hr65 hr)).or op_in_seq) ha hb (by rfl)) vo_in (ev_var (pv 3)) (ev_of (ep_2w (fun _ _ ha hb => pe_ix (ix_list.or ix_tup) ha hb (fun _ _ => rfl)) vo_ix (ew_var (pv 0) rfl rfl) (ew_var (pv 2) rfl rfl)))))) (fun _ _ _ _ _ => (ep_var (pv 3) rfl)) (fzs rfl) (by decide))) av_nil))) (ev_of ep_int))) (fun h => by cases h))))
set_option maxHeartbeats 4100000 in
theorem okF__law_shuffled {f : Addr} {fd : FuncData} (F : Fun K "_law_shuffled" "_law_shuffled" s__law_shuffled f fd) (T : Txt K mg) (c__law_take : CalX P w K mg base 1 "_law_take" ["draws", "limit"] (sp1 K ct .fz (.lst .fz) (.lst .fz) G__law_take)) (c__law_free : CalX P w K mg base 1 "_law_free" ["letters", "first", "second"] (sp0 K ct .fz G__law_free)) : FnOk P w K mg base CX0 2 f fd ["draws", "letters", "word", "times"] (sp1 K ct .fz (.lst .fz) (.lst .fz) G__law_shuffled) := by
  exact fn1 (k := 1) (n := 7) (mE := [.lst .fz]) F sc__law_shuffled rfl (by decide) rfl (fun cdv A outer s H E hr =>
 (sjs_cons (sj_asg (fun _ h => pst 4 sc__law_shuffled.nd h) (ei_of (ep_nw (fun _ h => tcal call_list_of T.n_list h) vo_list (aw_cons (ew_var (pv 2) rfl rfl) aw_nil))) (by decide) (by decide))
 (sjs_cons (sj_for PassesOwn.never rfl (it_range1 (by rfl) T.n_range (ai_cons (ei_of (ep_var (pv 3) rfl)) ai_nil)) (gj_nm (pgn 5 sc__law_shuffled.nd) rfl) (sjs_one (sj_if (ti_of (tp_2 (fun _ _ ha hb => pt_cmpR op_gt ha hb (nomark _)) vo_cmp (ev_of (ep_n (fun _ h => bcal call_len_seq T.n_len h) vo_len (av_cons (ev_var (pv 4)) av_nil))) (ev_of ep_int))) (sjs_cons (sj_asg (fun _ h => pst 6 sc__law_shuffled.nd h) (ei_cal1 c__law_take (hr.mono (by decide)) (pv 0) rfl (ai_cons (ei_of (ep_2 (fun _ _ ha hb => pe_op op_sub ha hb) vo_i2 (ev_of (ep_n (fun _ h => bcal call_len_seq T.n_len h) vo_len (av_cons (ev_var (pv 4)) av_nil))) (ev_of ep_int))) ai_nil)) (by decide) (by decide))
 (sjs_one (sj_if (ti_of (tp_val (ev_of (ep_cal c__law_free (hr.mono (by decide)) (af_cons (ep_var (pv 1) rfl) (af_cons (ep_2w (fun _ _ ha hb => pe_ix (ix_list.or ix_tup) ha hb (fun _ _ => rfl)) vo_ix (ew_var (pv 4) rfl rfl) (ew_var (pv 6) rfl rfl)) (af_cons (ep_2w (fun _ _ ha hb => pe_ix (ix_list.or ix_tup) ha hb (fun _ _ => rfl)) vo_ix (ew_var (pv 4) rfl rfl) (ew_of (ep_2w (fun _ _ ha hb => pe_op (op_add.or (op_cat.or op_catA)) ha hb) vo_add (ew_var (pv 6) rfl rfl) (ew_of ep_int rfl)) rfl)) af_nil))))))) (sjs_cons (sj_asg (fun _ h => pst 7 sc__law_shuffled.nd h) (ei_of (ep_2w (fun _ _ ha hb => pe_ix (ix_list.or ix_tup) ha hb (fun _ _ => rfl)) vo_ix (ew_var (pv 4) rfl rfl) (ew_var (pv 6) rfl rfl))) (by decide) (by decide))
 (sjs_cons (sj_set (fun _ _ _ h1 h2 h3 => ps_asg h1 (pg_sub h2 h3 set_list)) (ei_of (ep_2w (fun _ _ ha hb => pe_ix (ix_list.or ix_tup) ha hb (fun _ _ => rfl)) vo_ix (ew_var (pv 4) rfl rfl) (ew_of (ep_2w (fun _ _ ha hb => pe_op (op_add.or (op_cat.or op_catA)) ha hb) vo_add (ew_var (pv 6) rfl rfl) (ew_of ep_int rfl)) rfl))) (pv 4) (ei_of (ep_var (pv 6) rfl)) rfl)
 (sjs_one (sj_set (fun _ _ _ h1 h2 h3 => ps_asg h1 (pg_sub h2 h3 set_list)) (ei_of (ep_var (pv 7) rfl)) (pv 4) (ei_of (ep_2w (fun _ _ ha hb => pe_op (op_add.or (op_cat.or op_catA)) ha hb) vo_add (ew_var (pv 6) rfl rfl) (ew_of ep_int rfl))) rfl))))
 sjs_nil)))
 sjs_nil)) (by decide))
 (sjs_one (sj_rt (ei_of (ep_nw (fun _ h => tcal call_tuple_of T.n_tuple h) vo_tuple (aw_cons (ew_var (pv 4) rfl rfl) aw_nil))) (fun _ => rfl))))))
set_option maxHeartbeats 4100000 in
theorem okF__law_place {f : Addr} {fd : FuncData} (F : Fun K "_law_place" "_law_place" s__law_place f fd) (T : Txt K mg) : FnOk P w K mg base CX0 1 f fd ["letters", "word", "place"] (sp0 K ct .fz G__law_place) := by
  exact fn0 (k := 0) (mE := []) F sc__law_place (by decide) (fun cdv A outer s H E hr =>
 (sjs_one (sj_rt (ei_of (ep_nw (fun _ h => tcal call_tuple_of T.n_tuple h) vo_tuple (aw_cons (ew_of (ep_comp (own := [("letter", 3)]) rfl sc__law_place.nd (iv_seq (ew_var (pv 1) rfl rfl)) (blkOk_by (N := N__law_place) (sc := (defScope s__law_place)) (by decide +kernel)) (fun _ _ _ _ _ => (gj_nm (pgn 3 sc__law_place.nd) rfl)) (fun _ _ _ _ _ => (tps_one (tp_2 (fun _ _ ha hb => pt_cmpR ((op_inD (hr65 hr)).or op_in_seq) ha hb (by rfl)) vo_in (ev_var (pv 2)) (ev_of (ep_2w (fun _ _ ha hb => pe_ix (ix_list.or ix_tup) ha hb (fun _ _ => rfl)) vo_ix (ew_var (pv 0) rfl rfl) (ew_var (pv 3) rfl rfl)))))) (fun _ _ _ _ _ => (ep_var (pv 3) rfl)) (fzs rfl) (by decide)) rfl) aw_nil))) (fun h => by cases h))))
set_option maxHeartbeats 4100000 in
theorem okF__law_alike {f : Addr} {fd : FuncData} (F : Fun K "_law_alike" "_law_alike" s__law_alike f fd) (T : Txt K mg) (c__law_place : CalX P w K mg base 1 "_law_place" ["letters", "word", "place"] (sp0 K ct .fz G__law_place)) : FnOk P w K mg base CX0 2 f fd ["count", "letters", "first", "second"] (sp0 K ct .fz G__law_alike) := by
  exact fn0 (k := 1) (mE := []) F sc__law_alike (by decide) (fun cdv A outer s H E hr =>
 (sjs_cons (sj_for PassesOwn.never rfl (it_range1 (by rfl) T.n_range (ai_cons (ei_of (ep_var (pv 0) rfl)) ai_nil)) (gj_nm (pgn 4 sc__law_alike.nd) rfl) (sjs_one (sj_if (ti_of (tp_2 (fun _ _ ha hb => pt_cmpR (op_neD hr.units) ha hb (nomark _)) vo_ne (ev_of (ep_cal c__law_place (hr.mono (by decide)) (af_cons (ep_var (pv 1) rfl) (af_cons (ep_var (pv 2) rfl) (af_cons (ep_var (pv 4) rfl) af_nil))))) (ev_of (ep_cal c__law_place (hr.mono (by decide)) (af_cons (ep_var (pv 1) rfl) (af_cons (ep_var (pv 3) rfl) (af_cons (ep_var (pv 4) rfl) af_nil))))))) (sjs_one (sj_rt (ei_of ep_bl) (fun h => by cases h)))
 sjs_nil)) (by decide))
 (sjs_one (sj_rt (ei_of ep_bl) (fun h => by cases h)))))
set_option maxHeartbeats 4100000 in
theorem okF__law_is_integer {f : Addr} {fd : FuncData} (F : Fun K "_law_is_integer" "_law_is_integer" s__law_is_integer f fd) (T : Txt K mg) : FnOk P w K mg base CX0 1 f fd ["actual"] (sp0 K ct .fz G__law_is_integer) := by
  exact fn0 (k := 0) (mE := []) F sc__law_is_integer (by decide) (fun cdv A outer s H E hr =>
 (sjs_one (sj_rt (ei_of (ep_and (ev_of (ep_isi .int (ev_var (pv 0)) (by rfl) T.n_isinstance (by rfl) T.n_int (by decide +kernel) (by decide) (by decide))) (ep_one (ep_not (ev_of (ep_isi .bool (ev_var (pv 0)) (by rfl) T.n_isinstance (by rfl) T.n_bool (by decide +kernel) (by decide) (by decide))))))) (fun h => by cases h))))
set_option maxHeartbeats 4100000 in
theorem okF__law_is_word {f : Addr} {fd : FuncData} (F : Fun K "_law_is_word" "_law_is_word" s__law_is_word f fd) (T : Txt K mg) (c__law_is_integer : CalX P w K mg base 1 "_law_is_integer" ["actual"] (sp0 K ct .fz G__law_is_integer)) : FnOk P w K mg base CX0 2 f fd ["actual", "letters"] (sp0 K ct .fz G__law_is_word) := by
  exact fn0 (k := 1) (mE := []) F sc__law_is_word (by decide) (fun cdv A outer s H E hr =>
 (sjs_cons (sj_if (ti_of (tp_not (tp_val (ev_of (ep_isi .tuple (ev_var (pv 0)) (by rfl) T.n_isinstance (by rfl) T.n_tuple (by decide +kernel) (by decide) (by decide)))))) (sjs_one (sj_rt (ei_of ep_bl) (fun h => by cases h)))
 sjs_nil)
 (sjs_cons (sj_for PassesOwn.never rfl (it_seq (ei_of (ep_var (pv 0) rfl))) (gj_nm (pgn 2 sc__law_is_word.nd) rfl) (sjs_one (sj_if (ti_of (tp_w (wp_or (tp_not (tp_val (ev_of (ep_cal c__law_is_integer (hr.mono (by decide)) (af_cons (ep_var (pv 2) rfl) af_nil))))) (wp_or (tp_2 (fun _ _ ha hb => pt_cmpR op_lt ha hb (nomark _)) vo_cmp (ev_var (pv 2)) (ev_of ep_int)) (wp_or1 (tp_2 (fun _ _ ha hb => pt_cmpR op_ge ha hb (nomark _)) vo_cmp (ev_var (pv 2)) (ev_var (pv 1)))))))) (sjs_one (sj_rt (ei_of ep_bl) (fun h => by cases h)))
 sjs_nil)) (by decide))
 (sjs_one (sj_rt (ei_of ep_bl) (fun h => by cases h))))))
set_option maxHeartbeats 4100000 in
theorem okF__law_least {f : Addr} {fd : FuncData} (F : Fun K "_law_least" "_law_least" s__law_least f fd) (T : Txt K mg) (c__law_free : CalX P w K mg base 1 "_law_free" ["letters", "first", "second"] (sp0 K ct .fz G__law_free)) : FnOk P w K mg base CX0 2 f fd ["letters", "word"] (sp0 K ct .fz G__law_least) := by
  exact fn0 (k := 1) (mE := []) F sc__law_least (by decide) (fun cdv A outer s H E hr =>
 (sjs_cons (sj_asg (fun _ h => pst 2 sc__law_least.nd h) (ei_fz (ei_of (ep_nw (fun _ h => tcal call_list_of T.n_list h) vo_list (aw_cons (ew_var (pv 1) rfl rfl) aw_nil)))) (by decide) (by decide))
 (sjs_cons (sj_asg (fun _ h => pst 3 sc__law_least.nd h) (ei_of (ep_nil (k := .fz))) (by decide) (by decide))
 (sjs_cons (sj_for PassesOwn.never rfl (it_range1 (by rfl) T.n_range (ai_cons (ei_of (ep_n (fun _ h => bcal call_len_seq T.n_len h) vo_len (av_cons (ev_var (pv 1)) av_nil))) ai_nil)) (gj_nm (pgn 4 sc__law_least.nd) rfl) (sjs_cons (sj_asg (fun _ h => pst 5 sc__law_least.nd h) (ei_of (ep_neg (ev_of ep_int))) (by decide) (by decide))
 (sjs_cons (sj_for PassesOwn.never rfl (it_range1 (by rfl) T.n_range (ai_cons (ei_of (ep_n (fun _ h => bcal call_len_seq T.n_len h) vo_len (av_cons (ev_var (pv 2)) av_nil))) ai_nil)) (gj_nm (pgn 6 sc__law_least.nd) rfl) (sjs_cons (sj_lcF (ps_setLc (i := 7) (own := [("j", 8)]) rfl sc__law_least.nd rfl rfl (sw_true rfl rfl rfl (by decide +kernel)) (iv_range1 (by rfl) T.n_range (af_cons (ep_var (pv 6) rfl) af_nil)) (blkOk_by (N := N__law_least) (sc := (defScope s__law_least)) (by decide +kernel)) (fun _ _ _ _ _ => (gj_nm (pgn 8 sc__law_least.nd) rfl)) (fun _ _ _ _ _ => (tps_one (tp_not (tp_val (ev_of (ep_cal c__law_free (hr.mono (by decide)) (af_cons (ep_var (pv 0) rfl) (af_cons (ep_2w (fun _ _ ha hb => pe_ix (ix_list.or ix_tup) ha hb (fun _ _ => rfl)) vo_ix (ew_var (pv 2) rfl rfl) (ew_var (pv 8) rfl rfl)) (af_cons (ep_2w (fun _ _ ha hb => pe_ix (ix_list.or ix_tup) ha hb (fun _ _ => rfl)) vo_ix (ew_var (pv 2) rfl rfl) (ew_var (pv 6) rfl rfl)) af_nil))))))))) (fun _ _ _ _ _ => (ep_var (pv 8) rfl))) (fzs rfl) (by decide) (by decide) (by decide))
 (sjs_one (sj_if (ti_of (tp_w (wp_and (tp_2 (fun _ _ ha hb => pt_cmpR (op_eqD hr.units) ha hb (nomark _)) vo_eq (ev_of (ep_n (fun _ h => bcal call_len_seq T.n_len h) vo_len (av_cons (ev_var (pv 7)) av_nil))) (ev_of ep_int)) (wp_and1 (tp_w (wp_or (tp_2 (fun _ _ ha hb => pt_cmpR op_lt ha hb (nomark _)) vo_cmp (ev_var (pv 5)) (ev_of ep_int)) (wp_or1 (tp_2 (fun _ _ ha hb => pt_cmpR op_lt ha hb (nomark _)) vo_cmp (ev_of (ep_2w (fun _ _ ha hb => pe_ix (ix_list.or ix_tup) ha hb (fun _ _ => rfl)) vo_ix (ew_var (pv 2) rfl rfl) (ew_var (pv 6) rfl rfl))) (ev_of (ep_2w (fun _ _ ha hb => pe_ix (ix_list.or ix_tup) ha hb (fun _ _ => rfl)) vo_ix (ew_var (pv 2) rfl rfl) (ew_var (pv 5) rfl rfl))))))))))) (sjs_one (sj_asg (fun _ h => pst 5 sc__law_least.nd h) (ei_of (ep_var (pv 6) rfl)) (by decide) (by decide)))
 sjs_nil))) (by decide))
 (sjs_cons (sj_ex (ei_mod (fun _ _ h1 h2 => pe_bm PySem.F.plainAttrs_list PySem.F.slot_list_append PySem.F.type_list_append mt_append h1 h2) vm_append (pv 3) rfl (ai_cons (ei_of (ep_2w (fun _ _ ha hb => pe_ix (ix_list.or ix_tup) ha hb (fun _ _ => rfl)) vo_ix (ew_var (pv 2) rfl rfl) (ew_var (pv 5) rfl rfl))) ai_nil)))
 (sjs_one (sj_asg (fun _ h => pst 2 sc__law_least.nd h) (ei_of (ep_2w (fun _ _ ha hb => pe_op (op_add.or (op_cat.or op_catA)) ha hb) vo_add (ew_of (ep_slice (sl_list.or sl_tupA) vs_any (ew_var (pv 2) rfl rfl) .none (.some (ev_var (pv 5)))) rfl) (ew_of (ep_slice (sl_list.or sl_tupA) vs_any (ew_var (pv 2) rfl rfl) (.some (ev_of (ep_2w (fun _ _ ha hb => pe_op (op_add.or (op_cat.or op_catA)) ha hb) vo_add (ew_var (pv 5) rfl rfl) (ew_of ep_int rfl)))) .none) rfl))) (by decide) (by decide)))))) (by decide))
 (sjs_one (sj_rt (ei_of (ep_nw (fun _ h => tcal call_tuple_of T.n_tuple h) vo_tuple (aw_cons (ew_var (pv 3) rfl rfl) aw_nil))) (fun h => by cases h)))))))
set_option maxHeartbeats 4100000 in
theorem okF_law {f : Addr} {fd : FuncData} (F : Fun K "law" "law" s_law f fd) (T : Txt K mg) (c__law_draws : CalX P w K mg base 1 "_law_draws" ["script", "count"] (sp0 K ct (.lst .fz) G__law_draws)) (c__law_alphabet : CalX P w K mg base 2 "_law_alphabet" ["draws", "places", "most"] (sp1 K ct .fz (.lst .fz) (.lst .fz) G__law_alphabet)) (c__law_word : CalX P w K mg base 2 "_law_word" ["draws", "letters", "most"] (sp1 K ct .fz (.lst .fz) (.lst .fz) G__law_word)) (c__law_take : CalX P w K mg base 1 "_law_take" ["draws", "limit"] (sp1 K ct .fz (.lst .fz) (.lst .fz) G__law_take)) (c__law_free : CalX P w K mg base 1 "_law_free" ["letters", "first", "second"] (sp0 K ct .fz G__law_free)) (c__law_shuffled : CalX P w K mg base 2 "_law_shuffled" ["draws", "letters", "word", "times"] (sp1 K ct .fz (.lst .fz) (.lst .fz) G__law_shuffled)) (c_crossing : CalX P w K mg base 6 "crossing" ["alphabet", "x", "y", "u", "v"] (sp0 K ct .fz G_crossing)) (c_commute : CalX P w K mg base 3 "commute" ["alphabet", "first", "second"] (sp0 K ct .fz G_commute)) (c__law_alike : CalX P w K mg base 2 "_law_alike" ["count", "letters", "first", "second"] (sp0 K ct .fz G__law_alike)) (c__law_least : CalX P w K mg base 2 "_law_least" ["letters", "word"] (sp0 K ct .fz G__law_least)) (c__law_is_word : CalX P w K mg base 2 "_law_is_word" ["actual", "letters"] (sp0 K ct .fz G__law_is_word)) (mk_Alphabet : MakX P w K mg base ct 2 "Alphabet" 0 [.fz, .fz] ["self", "places", "letters"] G_Alphabet___init__) : FnOk P w K mg base CX0 7 f fd ["script"] (sp0 K ct .fz G_law) := by
  exact fn0 (k := 6) (mE := []) F sc_law (by decide) (fun cdv A outer s H E hr =>
 (sjs_cons (sj_asg (fun _ h => pst 1 sc_law.nd h) (ei_of (ep_cal c__law_draws (hr.mono (by decide)) (af_cons (ep_var (pv 0) rfl) (af_cons ep_int af_nil)))) (by decide) (by decide))
 (sjs_cons (sj_tg (fun _ _ h1 h2 => ps_asg h1 h2) (ei_cal1 c__law_alphabet (hr.mono (by decide)) (pv 1) rfl (ai_cons (ei_of ep_int) (ai_cons (ei_of ep_int) ai_nil))) (gs_tup rfl (gss_cons (gs_nm (pgn 2 sc_law.nd) rfl (by decide)) (gss_cons (gs_nm (pgn 3 sc_law.nd) rfl (by decide)) gss_nil))))
 (sjs_cons (sj_asg (fun _ h => pst 4 sc_law.nd h) (ei_fz (ei_of (ep_mak mk_Alphabet (hr.mono (by decide)) (af_cons (ep_var (pv 2) rfl) (af_cons (ep_fz (ep_nw (fun _ h => tcal call_list_of T.n_list h) vo_list (aw_cons (ew_var (pv 3) rfl rfl) aw_nil))) af_nil))))) (by decide) (by decide))
 (sjs_cons (sj_asg (fun _ h => pst 5 sc_law.nd h) (ei_cal1 c__law_word (hr.mono (by decide)) (pv 1) rfl (ai_cons (ei_of (ep_n (fun _ h => bcal call_len_seq T.n_len h) vo_len (av_cons (ev_var (pv 3)) av_nil))) (ai_cons (ei_of ep_int) ai_nil))) (by decide) (by decide))
 (sjs_cons (sj_asg (fun _ h => pst 6 sc_law.nd h) (ei_cal1 c__law_word (hr.mono (by decide)) (pv 1) rfl (ai_cons (ei_of (ep_n (fun _ h => bcal call_len_seq T.n_len h) vo_len (av_cons (ev_var (pv 3)) av_nil))) (ai_cons (ei_of ep_int) ai_nil))) (by decide) (by decide))
 (sjs_cons (sj_asg (fun _ h => pst 7 sc_law.nd h) (ei_cal1 c__law_word (hr.mono (by decide)) (pv 1) rfl (ai_cons (ei_of (ep_n (fun _ h => bcal call_len_seq T.n_len h) vo_len (av_cons (ev_var (pv 3)) av_nil))) (ai_cons (ei_of ep_int) ai_nil))) (by decide) (by decide))
 (sjs_cons (sj_asg (fun _ h => pst 8 sc_law.nd h) (ei_cal1 c__law_word (hr.mono (by decide)) (pv 1) rfl (ai_cons (ei_of (ep_n (fun _ h => bcal call_len_seq T.n_len h) vo_len (av_cons (ev_var (pv 3)) av_nil))) (ai_cons (ei_of ep_int) ai_nil))) (by decide) (by decide))
 (sjs_cons (sj_if (ti_2 (fun _ _ ha hb => pt_cmpR (op_eqD hr.units) ha hb (nomark _)) vo_eq (ei_cal1 c__law_take (hr.mono (by decide)) (pv 1) rfl (ai_cons (ei_of ep_int) ai_nil)) (ei_of ep_int)) (sjs_one (sj_asg (fun _ h => pst 7 sc_law.nd h) (ei_of (ep_nw (fun _ h => tcal call_tuple_of T.n_tuple h) vo_tuple (aw_cons (ew_of (ep_comp (own := [("one", 9)]) rfl sc_law.nd (iv_seq (ew_var (pv 7) rfl rfl)) (blkOk_by (N := N_law) (sc := (defScope s_law)) (by decide +kernel)) (fun _ _ _ _ _ => (gj_nm (pgn 9 sc_law.nd) rfl)) (fun _ _ _ _ _ => (tps_one (tp_2 (fun _ _ ha hb => pt_cmpR (op_eqD hr.units) ha hb (nomark _)) vo_eq (ev_of (ep_n (fun _ h => bcal call_len_seq T.n_len h) vo_len (av_cons (ev_of (ep_comp (own := [("two", 10)]) rfl sc_law.nd (iv_seq (ew_var (pv 6) rfl rfl)) (blkOk_by (by kernel_rfl)) (fun _ _ _ _ _ => (gj_nm (pgn 10 sc_law.nd) rfl)) (fun _ _ _ _ _ => (tps_one (tp_not (tp_val (ev_of (ep_cal c__law_free (hr.mono (by decide)) (af_cons (ep_var (pv 3) rfl) (af_cons (ep_var (pv 9) rfl) (af_cons (ep_var (pv 10) rfl) af_nil))))))))) (fun _ _ _ _ _ => (ep_var (pv 10) rfl)) (fzs rfl) (by decide))) av_nil))) (ev_of ep_int)))) (fun _ _ _ _ _ => (ep_var (pv 9) rfl)) (fzs rfl) (by decide)) rfl) aw_nil))) (by decide) (by decide)))
 sjs_nil)
 (sjs_cons (sj_ilc (ps_setLc (i := 11) (own := [("one", 9)]) rfl sc_law.nd rfl rfl (sw_true rfl rfl rfl (by decide +kernel)) (it_seq (ei_of (ep_tup (af_cons (ep_2w (fun _ _ ha hb => pe_op (op_add.or (op_cat.or op_catA)) ha hb) vo_add (ew_var (pv 5) rfl rfl) (ew_var (pv 6) rfl rfl)) (af_cons (ep_2w (fun _ _ ha hb => pe_op (op_add.or (op_cat.or op_catA)) ha hb) vo_add (ew_var (pv 7) rfl rfl) (ew_var (pv 8) rfl rfl)) (af_cons (ep_2w (fun _ _ ha hb => pe_op (op_add.or (op_cat.or op_catA)) ha hb) vo_add (ew_var (pv 5) rfl rfl) (ew_var (pv 7) rfl rfl)) (af_cons (ep_2w (fun _ _ ha hb => pe_op (op_add.or (op_cat.or op_catA)) ha hb) vo_add (ew_var (pv 6) rfl rfl) (ew_var (pv 8) rfl rfl)) af_nil))))))) (blkOk_by (N := N_law) (sc := (defScope s_law)) (by decide +kernel)) (fun _ _ _ _ _ => (gj_nm (pgn 9 sc_law.nd) rfl)) (fun _ _ _ _ _ => tis_nil) (fun _ _ _ _ _ => (ei_cal1 c__law_shuffled (hr.mono (by decide)) (pv 1) rfl (ai_cons (ei_of (ep_var (pv 3) rfl)) (ai_cons (ei_of (ep_var (pv 9) rfl)) (ai_cons (ei_of ep_int) ai_nil)))))) (fzs rfl) (by decide) (by decide) (by decide))
 (sjs_cons (sj_if (ti_w (wi_and (ti_of (tp_2 (fun _ _ ha hb => pt_cmpR op_gt ha hb (nomark _)) vo_cmp (ev_of (ep_n (fun _ h => bcal call_len_seq T.n_len h) vo_len (av_cons (ev_of (ep_2w (fun _ _ ha hb => pe_ix (ix_list.or ix_tup) ha hb (fun _ _ => rfl)) vo_ix (ew_var (pv 11) rfl rfl) (ew_of ep_int rfl))) av_nil))) (ev_of ep_int))) (wi_and1 (ti_2 (fun _ _ ha hb => pt_cmpR (op_eqD hr.units) ha hb (nomark _)) vo_eq (ei_cal1 c__law_take (hr.mono (by decide)) (pv 1) rfl (ai_cons (ei_of ep_int) ai_nil)) (ei_of ep_int))))) (sjs_one (sj_set (fun _ _ _ h1 h2 h3 => ps_asg h1 (pg_sub h2 h3 set_list)) (ei_2w (fun _ _ ha hb => pe_op (op_add.or (op_cat.or op_catA)) ha hb) vo_add (ei_of (ep_slice (sl_list.or sl_tupA) vs_any (ew_of (ep_2w (fun _ _ ha hb => pe_ix (ix_list.or ix_tup) ha hb (fun _ _ => rfl)) vo_ix (ew_var (pv 11) rfl rfl) (ew_of ep_int rfl)) rfl) .none (.some (ev_of (ep_2 (fun _ _ ha hb => pe_op op_sub ha hb) vo_i2 (ev_of (ep_n (fun _ h => bcal call_len_seq T.n_len h) vo_len (av_cons (ev_of (ep_2w (fun _ _ ha hb => pe_ix (ix_list.or ix_tup) ha hb (fun _ _ => rfl)) vo_ix (ew_var (pv 11) rfl rfl) (ew_of ep_int rfl))) av_nil))) (ev_of ep_int)))))) (ei_tup (ai_cons (ei_cal1 c__law_take (hr.mono (by decide)) (pv 1) rfl (ai_cons (ei_of (ep_n (fun _ h => bcal call_len_seq T.n_len h) vo_len (av_cons (ev_var (pv 3)) av_nil))) ai_nil)) ai_nil))) (pv 11) (ei_of ep_int) rfl))
 sjs_nil)
 (sjs_cons (sj_asg (fun _ h => pst 12 sc_law.nd h) (ei_of (ep_cal c_crossing (hr.mono (by decide)) (af_cons (ep_var (pv 4) rfl) (af_cons (ep_2w (fun _ _ ha hb => pe_ix (ix_list.or ix_tup) ha hb (fun _ _ => rfl)) vo_ix (ew_var (pv 11) rfl rfl) (ew_of ep_int rfl)) (af_cons (ep_fz (ep_nw (fun _ h => tcal call_list_of T.n_list h) vo_list (aw_cons (ew_of (ep_2w (fun _ _ ha hb => pe_ix (ix_list.or ix_tup) ha hb (fun _ _ => rfl)) vo_ix (ew_var (pv 11) rfl rfl) (ew_of ep_int rfl)) rfl) aw_nil))) (af_cons (ep_2w (fun _ _ ha hb => pe_ix (ix_list.or ix_tup) ha hb (fun _ _ => rfl)) vo_ix (ew_var (pv 11) rfl rfl) (ew_of ep_int rfl)) (af_cons (ep_2w (fun _ _ ha hb => pe_ix (ix_list.or ix_tup) ha hb (fun _ _ => rfl)) vo_ix (ew_var (pv 11) rfl rfl) (ew_of ep_int rfl)) af_nil))))))) (by decide) (by decide))
 (sjs_cons (sj_asg (fun _ h => pst 13 sc_law.nd h) (ei_of (ep_cal c_commute (hr.mono (by decide)) (af_cons (ep_var (pv 4) rfl) (af_cons (ep_2w (fun _ _ ha hb => pe_ix (ix_list.or ix_tup) ha hb (fun _ _ => rfl)) vo_ix (ew_var (pv 11) rfl rfl) (ew_of ep_int rfl)) (af_cons (ep_fz (ep_nw (fun _ h => tcal call_list_of T.n_list h) vo_list (aw_cons (ew_of (ep_2w (fun _ _ ha hb => pe_ix (ix_list.or ix_tup) ha hb (fun _ _ => rfl)) vo_ix (ew_var (pv 11) rfl rfl) (ew_of ep_int rfl)) rfl) aw_nil))) af_nil))))) (by decide) (by decide))
 (sjs_cons (sj_if (ti_of (tp_w (wp_or (tp_not (tp_val (ev_of (ep_isi .bool (ev_var (pv 13)) (by rfl) T.n_isinstance (by rfl) T.n_bool (by decide +kernel) (by decide) (by decide))))) (wp_or1 (tp_2 (fun _ _ ha hb => pt_cmpR (op_neD hr.units) ha hb (nomark _)) vo_ne (ev_var (pv 13)) (ev_of (ep_cal c__law_alike (hr.mono (by decide)) (af_cons (ep_var (pv 2) rfl) (af_cons (ep_var (pv 3) rfl) (af_cons (ep_2w (fun _ _ ha hb => pe_op (op_add.or (op_cat.or op_catA)) ha hb) vo_add (ew_of (ep_2w (fun _ _ ha hb => pe_ix (ix_list.or ix_tup) ha hb (fun _ _ => rfl)) vo_ix (ew_var (pv 11) rfl rfl) (ew_of ep_int rfl)) rfl) (ew_of (ep_2w (fun _ _ ha hb => pe_ix (ix_list.or ix_tup) ha hb (fun _ _ => rfl)) vo_ix (ew_var (pv 11) rfl rfl) (ew_of ep_int rfl)) rfl)) (af_cons (ep_2w (fun _ _ ha hb => pe_op (op_add.or (op_cat.or op_catA)) ha hb) vo_add (ew_of (ep_2w (fun _ _ ha hb => pe_ix (ix_list.or ix_tup) ha hb (fun _ _ => rfl)) vo_ix (ew_var (pv 11) rfl rfl) (ew_of ep_int rfl)) rfl) (ew_of (ep_2w (fun _ _ ha hb => pe_ix (ix_list.or ix_tup) ha hb (fun _ _ => rfl)) vo_ix (ew_var (pv 11) rfl rfl) (ew_of ep_int rfl)) rfl)) af_nil))))))))))) (sjs_one (sj_rt (ei_of ep_bl) (fun h => by cases h)))
 sjs_nil)
 (sjs_cons (sj_if (ti_of (tp_not (tp_val (ev_of (ep_cal c__law_alike (hr.mono (by decide)) (af_cons (ep_var (pv 2) rfl) (af_cons (ep_var (pv 3) rfl) (af_cons (ep_2w (fun _ _ ha hb => pe_op (op_add.or (op_cat.or op_catA)) ha hb) vo_add (ew_of (ep_2w (fun _ _ ha hb => pe_ix (ix_list.or ix_tup) ha hb (fun _ _ => rfl)) vo_ix (ew_var (pv 11) rfl rfl) (ew_of ep_int rfl)) rfl) (ew_of (ep_2w (fun _ _ ha hb => pe_ix (ix_list.or ix_tup) ha hb (fun _ _ => rfl)) vo_ix (ew_var (pv 11) rfl rfl) (ew_of ep_int rfl)) rfl)) (af_cons (ep_2w (fun _ _ ha hb => pe_op (op_add.or (op_cat.or op_catA)) ha hb) vo_add (ew_of (ep_2w (fun _ _ ha hb => pe_ix (ix_list.or ix_tup) ha hb (fun _ _ => rfl)) vo_ix (ew_var (pv 11) rfl rfl) (ew_of ep_int rfl)) rfl) (ew_of (ep_2w (fun _ _ ha hb => pe_ix (ix_list.or ix_tup) ha hb (fun _ _ => rfl)) vo_ix (ew_var (pv 11) rfl rfl) (ew_of ep_int rfl)) rfl)) af_nil))))))))) (sjs_one (sj_rt (ei_of (ep_2 (fun _ _ ha hb => pe_cmpR op_isN ha hb (nomark _)) vo_isN (ev_var (pv 12)) (ev_of ep_non))) (fun h => by cases h)))
 sjs_nil)
 (sjs_cons (sj_if (ti_of (tp_w (wp_or (tp_not (tp_val (ev_of (ep_isi .tuple (ev_var (pv 12)) (by rfl) T.n_isinstance (by rfl) T.n_tuple (by decide +kernel) (by decide) (by decide))))) (wp_or1 (tp_2 (fun _ _ ha hb => pt_cmpR (op_neD hr.units) ha hb (nomark _)) vo_ne (ev_of (ep_n (fun _ h => bcal call_len_seq T.n_len h) vo_len (av_cons (ev_var (pv 12)) av_nil))) (ev_of ep_int)))))) (sjs_one (sj_rt (ei_of ep_bl) (fun h => by cases h)))
 sjs_nil)
 (sjs_cons (sj_for PassesOwn.never rfl (it_seq (ei_of (ep_var (pv 12) rfl))) (gj_nm (pgn 9 sc_law.nd) rfl) (sjs_one (sj_if (ti_of (tp_w (wp_or (tp_not (tp_val (ev_of (ep_cal c__law_is_word (hr.mono (by decide)) (af_cons (ep_var (pv 9) rfl) (af_cons (ep_n (fun _ h => bcal call_len_seq T.n_len h) vo_len (av_cons (ev_var (pv 3)) av_nil)) af_nil)))))) (wp_or1 (tp_2 (fun _ _ ha hb => pt_cmpR (op_neD hr.units) ha hb (nomark _)) vo_ne (ev_var (pv 9)) (ev_of (ep_cal c__law_least (hr.mono (by decide)) (af_cons (ep_var (pv 3) rfl) (af_cons (ep_var (pv 9) rfl) af_nil))))))))) (sjs_one (sj_rt (ei_of ep_bl) (fun h => by cases h)))
 sjs_nil)) (by decide))
 (sjs_cons (sj_for PassesOwn.never rfl (it_seq (ei_of (ep_2w (fun _ _ ha hb => pe_ix (ix_list.or ix_tup) ha hb (fun _ _ => rfl)) vo_ix (ew_var (pv 12) rfl rfl) (ew_of ep_int rfl)))) (gj_nm (pgn 9 sc_law.nd) rfl) (sjs_one (sj_if (ti_of (tp_2 (fun _ _ ha hb => pt_cmpR op_gt ha hb (nomark _)) vo_cmp (ev_of (ep_n (fun _ h => bcal call_len_seq T.n_len h) vo_len (av_cons (ev_of (ep_comp (own := [("two", 10)]) rfl sc_law.nd (iv_seq (ew_of (ep_2w (fun _ _ ha hb => pe_ix (ix_list.or ix_tup) ha hb (fun _ _ => rfl)) vo_ix (ew_var (pv 12) rfl rfl) (ew_of ep_int rfl)) rfl)) (blkOk_by (N := N_law) (sc := (defScope s_law)) (by decide +kernel)) (fun _ _ _ _ _ => (gj_nm (pgn 10 sc_law.nd) rfl)) (fun _ _ _ _ _ => (tps_one (tp_not (tp_val (ev_of (ep_cal c__law_free (hr.mono (by decide)) (af_cons (ep_var (pv 3) rfl) (af_cons (ep_var (pv 9) rfl) (af_cons (ep_var (pv 10) rfl) af_nil))))))))) (fun _ _ _ _ _ => (ep_var (pv 10) rfl)) (fzs rfl) (by decide))) av_nil))) (ev_of ep_int))) (sjs_one (sj_rt (ei_of ep_bl) (fun h => by cases h)))
 sjs_nil)) (by decide))
 (sjs_cons (sj_asg (fun _ h => pst 14 sc_law.nd h) (ei_fz (ei_of (ep_lst (af_cons (ep_2w (fun _ _ ha hb => pe_op (op_add.or (op_cat.or op_catA)) ha hb) vo_add (ew_of (ep_2w (fun _ _ ha hb => pe_ix (ix_list.or ix_tup) ha hb (fun _ _ => rfl)) vo_ix (ew_var (pv 12) rfl rfl) (ew_of ep_int rfl)) rfl) (ew_of (ep_2w (fun _ _ ha hb => pe_ix (ix_list.or ix_tup) ha hb (fun _ _ => rfl)) vo_ix (ew_var (pv 12) rfl rfl) (ew_of ep_int rfl)) rfl)) (af_cons (ep_2w (fun _ _ ha hb => pe_op (op_add.or (op_cat.or op_catA)) ha hb) vo_add (ew_of (ep_2w (fun _ _ ha hb => pe_ix (ix_list.or ix_tup) ha hb (fun _ _ => rfl)) vo_ix (ew_var (pv 12) rfl rfl) (ew_of ep_int rfl)) rfl) (ew_of (ep_2w (fun _ _ ha hb => pe_ix (ix_list.or ix_tup) ha hb (fun _ _ => rfl)) vo_ix (ew_var (pv 12) rfl rfl) (ew_of ep_int rfl)) rfl)) (af_cons (ep_2w (fun _ _ ha hb => pe_op (op_add.or (op_cat.or op_catA)) ha hb) vo_add (ew_of (ep_2w (fun _ _ ha hb => pe_ix (ix_list.or ix_tup) ha hb (fun _ _ => rfl)) vo_ix (ew_var (pv 12) rfl rfl) (ew_of ep_int rfl)) rfl) (ew_of (ep_2w (fun _ _ ha hb => pe_ix (ix_list.or ix_tup) ha hb (fun _ _ => rfl)) vo_ix (ew_var (pv 12) rfl rfl) (ew_of ep_int rfl)) rfl)) (af_cons (ep_2w (fun _ _ ha hb => pe_op (op_add.or (op_cat.or op_catA)) ha hb) vo_add (ew_of (ep_2w (fun _ _ ha hb => pe_ix (ix_list.or ix_tup) ha hb (fun _ _ => rfl)) vo_ix (ew_var (pv 12) rfl rfl) (ew_of ep_int rfl)) rfl) (ew_of (ep_2w (fun _ _ ha hb => pe_ix (ix_list.or ix_tup) ha hb (fun _ _ => rfl)) vo_ix (ew_var (pv 12) rfl rfl) (ew_of ep_int rfl)) rfl)) af_nil))))))) (by decide) (by decide))
 (sjs_cons (sj_for PassesOwn.never rfl (it_range1 (by rfl) T.n_range (ai_cons (ei_of ep_int) ai_nil)) (gj_nm (pgn 15 sc_law.nd) rfl) (sjs_one (sj_if (ti_of (tp_not (tp_val (ev_of (ep_cal c__law_alike (hr.mono (by decide)) (af_cons (ep_var (pv 2) rfl) (af_cons (ep_var (pv 3) rfl) (af_cons (ep_2w (fun _ _ ha hb => pe_ix (ix_list.or ix_tup) ha hb (fun _ _ => rfl)) vo_ix (ew_var (pv 14) rfl rfl) (ew_var (pv 15) rfl rfl)) (af_cons (ep_2w (fun _ _ ha hb => pe_ix (ix_list.or ix_tup) ha hb (fun _ _ => rfl)) vo_ix (ew_var (pv 11) rfl rfl) (ew_var (pv 15) rfl rfl)) af_nil))))))))) (sjs_one (sj_rt (ei_of ep_bl) (fun h => by cases h)))
 sjs_nil)) (by decide))
 (sjs_one (sj_rt (ei_of ep_bl) (fun h => by cases h)))))))))))))))))))))))
end
end Wk33

namespace Wk33
open PySem L2 T3
set_option maxHeartbeats 4100000 in
theorem all_mk {l : PySem.W.OpenLaw} {w : World} {K : PySem.W.Frag} {h : Heap} {mg : Str → Option Value} {fa : Addr} (X : K.In h) (G : h.Ns mainGlobals mg) (hfa : mg "law" = some (.ref fa))
    {C_Alphabet f__law_draws f__law_take f__law_alphabet f_fits f_Alphabet___init__ f__law_word f_independent f_masks f_first_letters f_least_form f_first_place f_without f_common_prefix f_rest f_place_word f_equivalent f_crossing f_commute f__law_free f__law_shuffled f__law_place f__law_alike f__law_is_integer f__law_is_word f__law_least f_law : Addr} {od__law_draws an__law_draws od__law_take an__law_take od__law_alphabet an__law_alphabet od_fits an_fits od_Alphabet___init__ an_Alphabet___init__ od__law_word an__law_word od_independent an_independent od_masks an_masks od_first_letters an_first_letters od_least_form an_least_form od_first_place an_first_place od_without an_without od_common_prefix an_common_prefix od_rest an_rest od_place_word an_place_word od_equivalent an_equivalent od_crossing an_crossing od_commute an_commute od__law_free an__law_free od__law_shuffled an__law_shuffled od__law_place an__law_place od__law_alike an__law_alike od__law_is_integer an__law_is_integer od__law_is_word an__law_is_word od__law_least an__law_least od_law an_law : Option Addr} {sl__law_draws sl__law_take sl__law_alphabet sl_fits sl_Alphabet___init__ sl__law_word sl_independent sl_masks sl_first_letters sl_least_form sl_first_place sl_without sl_common_prefix sl_rest sl_place_word sl_equivalent sl_crossing sl_commute sl__law_free sl__law_shuffled sl__law_place sl__law_alike sl__law_is_integer sl__law_is_word sl__law_least sl_law : Array (Option Value)} {oc__law_draws kV__law_draws dc__law_draws pm__law_draws cd__law_draws ct__law_draws oc__law_take kV__law_take dc__law_take pm__law_take cd__law_take ct__law_take oc__law_alphabet kV__law_alphabet dc__law_alphabet pm__law_alphabet cd__law_alphabet ct__law_alphabet oc_fits kV_fits dc_fits pm_fits cd_fits ct_fits oc_Alphabet___init__ kV_Alphabet___init__ dc_Alphabet___init__ pm_Alphabet___init__ cd_Alphabet___init__ ct_Alphabet___init__ oc__law_word kV__law_word dc__law_word pm__law_word cd__law_word ct__law_word oc_independent kV_independent dc_independent pm_independent cd_independent ct_independent oc_masks kV_masks dc_masks pm_masks cd_masks ct_masks oc_first_letters kV_first_letters dc_first_letters pm_first_letters cd_first_letters ct_first_letters oc_least_form kV_least_form dc_least_form pm_least_form cd_least_form ct_least_form oc_first_place kV_first_place dc_first_place pm_first_place cd_first_place ct_first_place oc_without kV_without dc_without pm_without cd_without ct_without oc_common_prefix kV_common_prefix dc_common_prefix pm_common_prefix cd_common_prefix ct_common_prefix oc_rest kV_rest dc_rest pm_rest cd_rest ct_rest oc_place_word kV_place_word dc_place_word pm_place_word cd_place_word ct_place_word oc_equivalent kV_equivalent dc_equivalent pm_equivalent cd_equivalent ct_equivalent oc_crossing kV_crossing dc_crossing pm_crossing cd_crossing ct_crossing oc_commute kV_commute dc_commute pm_commute cd_commute ct_commute oc__law_free kV__law_free dc__law_free pm__law_free cd__law_free ct__law_free oc__law_shuffled kV__law_shuffled dc__law_shuffled pm__law_shuffled cd__law_shuffled ct__law_shuffled oc__law_place kV__law_place dc__law_place pm__law_place cd__law_place ct__law_place oc__law_alike kV__law_alike dc__law_alike pm__law_alike cd__law_alike ct__law_alike oc__law_is_integer kV__law_is_integer dc__law_is_integer pm__law_is_integer cd__law_is_integer ct__law_is_integer oc__law_is_word kV__law_is_word dc__law_is_word pm__law_is_word cd__law_is_word ct__law_is_word oc__law_least kV__law_least dc__law_least pm__law_least cd__law_least ct__law_least oc_law kV_law dc_law pm_law cd_law ct_law : Value} {tk_MOST_LETTERS tk_MOST_PLACES : Tok}
    (aC_Alphabet : PySem.W.nsIn K mainGlobals "Alphabet" = some (some (.ref C_Alphabet)))
    (a__law_draws : PySem.W.nsIn K mainGlobals "_law_draws" = some (some (.ref f__law_draws)))
    (l__law_draws : K.lookup f__law_draws = some ⟨oc__law_draws, od__law_draws, .func (PySem.W.fnOf "_law_draws" "_law_draws" (defArgs s__law_draws) (defBody s__law_draws) (defScope s__law_draws) .none kV__law_draws dc__law_draws pm__law_draws an__law_draws cd__law_draws ct__law_draws), sl__law_draws⟩)
    (c__law_draws : PySem.W.codeIn K cd__law_draws "_law_draws" = true)
    (k__law_draws : PySem.W.keepIn K (.ref f__law_draws) = true)
    (a__law_take : PySem.W.nsIn K mainGlobals "_law_take" = some (some (.ref f__law_take)))
    (l__law_take : K.lookup f__law_take = some ⟨oc__law_take, od__law_take, .func (PySem.W.fnOf "_law_take" "_law_take" (defArgs s__law_take) (defBody s__law_take) (defScope s__law_take) .none kV__law_take dc__law_take pm__law_take an__law_take cd__law_take ct__law_take), sl__law_take⟩)
    (c__law_take : PySem.W.codeIn K cd__law_take "_law_take" = true)
    (k__law_take : PySem.W.keepIn K (.ref f__law_take) = true)
    (a__law_alphabet : PySem.W.nsIn K mainGlobals "_law_alphabet" = some (some (.ref f__law_alphabet)))
    (l__law_alphabet : K.lookup f__law_alphabet = some ⟨oc__law_alphabet, od__law_alphabet, .func (PySem.W.fnOf "_law_alphabet" "_law_alphabet" (defArgs s__law_alphabet) (defBody s__law_alphabet) (defScope s__law_alphabet) .none kV__law_alphabet dc__law_alphabet pm__law_alphabet an__law_alphabet cd__law_alphabet ct__law_alphabet), sl__law_alphabet⟩)
    (c__law_alphabet : PySem.W.codeIn K cd__law_alphabet "_law_alphabet" = true)
    (k__law_alphabet : PySem.W.keepIn K (.ref f__law_alphabet) = true)
    (a_fits : PySem.W.nsIn K mainGlobals "fits" = some (some (.ref f_fits)))
    (l_fits : K.lookup f_fits = some ⟨oc_fits, od_fits, .func (PySem.W.fnOf "fits" "fits" (defArgs s_fits) (defBody s_fits) (defScope s_fits) .none kV_fits dc_fits pm_fits an_fits cd_fits ct_fits), sl_fits⟩)
    (c_fits : PySem.W.codeIn K cd_fits "fits" = true)
    (k_fits : PySem.W.keepIn K (.ref f_fits) = true)
    (a_Alphabet___init__ : PySem.W.findIn K (.ref C_Alphabet) "__init__" = some (some (.ref f_Alphabet___init__)))
    (i_Alphabet___init__ : PySem.W.isFn K (.ref f_Alphabet___init__) = true)
    (l_Alphabet___init__ : K.lookup f_Alphabet___init__ = some ⟨oc_Alphabet___init__, od_Alphabet___init__, .func (PySem.W.fnOf "__init__" "Alphabet.__init__" (defArgs s_Alphabet___init__) (defBody s_Alphabet___init__) (defScope s_Alphabet___init__) .none kV_Alphabet___init__ dc_Alphabet___init__ pm_Alphabet___init__ an_Alphabet___init__ cd_Alphabet___init__ ct_Alphabet___init__), sl_Alphabet___init__⟩)
    (c_Alphabet___init__ : PySem.W.codeIn K cd_Alphabet___init__ "Alphabet.__init__" = true)
    (k_Alphabet___init__ : PySem.W.keepIn K (.ref f_Alphabet___init__) = true)
    (a__law_word : PySem.W.nsIn K mainGlobals "_law_word" = some (some (.ref f__law_word)))
    (l__law_word : K.lookup f__law_word = some ⟨oc__law_word, od__law_word, .func (PySem.W.fnOf "_law_word" "_law_word" (defArgs s__law_word) (defBody s__law_word) (defScope s__law_word) .none kV__law_word dc__law_word pm__law_word an__law_word cd__law_word ct__law_word), sl__law_word⟩)
    (c__law_word : PySem.W.codeIn K cd__law_word "_law_word" = true)
    (k__law_word : PySem.W.keepIn K (.ref f__law_word) = true)
    (a_independent : PySem.W.nsIn K mainGlobals "independent" = some (some (.ref f_independent)))
    (l_independent : K.lookup f_independent = some ⟨oc_independent, od_independent, .func (PySem.W.fnOf "independent" "independent" (defArgs s_independent) (defBody s_independent) (defScope s_independent) .none kV_independent dc_independent pm_independent an_independent cd_independent ct_independent), sl_independent⟩)
    (c_independent : PySem.W.codeIn K cd_independent "independent" = true)
    (k_independent : PySem.W.keepIn K (.ref f_independent) = true)
    (a_masks : PySem.W.nsIn K mainGlobals "masks" = some (some (.ref f_masks)))
    (l_masks : K.lookup f_masks = some ⟨oc_masks, od_masks, .func (PySem.W.fnOf "masks" "masks" (defArgs s_masks) (defBody s_masks) (defScope s_masks) .none kV_masks dc_masks pm_masks an_masks cd_masks ct_masks), sl_masks⟩)
    (c_masks : PySem.W.codeIn K cd_masks "masks" = true)
    (k_masks : PySem.W.keepIn K (.ref f_masks) = true)
    (a_first_letters : PySem.W.nsIn K mainGlobals "first_letters" = some (some (.ref f_first_letters)))
    (l_first_letters : K.lookup f_first_letters = some ⟨oc_first_letters, od_first_letters, .func (PySem.W.fnOf "first_letters" "first_letters" (defArgs s_first_letters) (defBody s_first_letters) (defScope s_first_letters) .none kV_first_letters dc_first_letters pm_first_letters an_first_letters cd_first_letters ct_first_letters), sl_first_letters⟩)
    (c_first_letters : PySem.W.codeIn K cd_first_letters "first_letters" = true)
    (k_first_letters : PySem.W.keepIn K (.ref f_first_letters) = true)
    (a_least_form : PySem.W.nsIn K mainGlobals "least_form" = some (some (.ref f_least_form)))
    (l_least_form : K.lookup f_least_form = some ⟨oc_least_form, od_least_form, .func (PySem.W.fnOf "least_form" "least_form" (defArgs s_least_form) (defBody s_least_form) (defScope s_least_form) .none kV_least_form dc_least_form pm_least_form an_least_form cd_least_form ct_least_form), sl_least_form⟩)
    (c_least_form : PySem.W.codeIn K cd_least_form "least_form" = true)
    (k_least_form : PySem.W.keepIn K (.ref f_least_form) = true)
    (a_first_place : PySem.W.nsIn K mainGlobals "first_place" = some (some (.ref f_first_place)))
    (l_first_place : K.lookup f_first_place = some ⟨oc_first_place, od_first_place, .func (PySem.W.fnOf "first_place" "first_place" (defArgs s_first_place) (defBody s_first_place) (defScope s_first_place) .none kV_first_place dc_first_place pm_first_place an_first_place cd_first_place ct_first_place), sl_first_place⟩)
    (c_first_place : PySem.W.codeIn K cd_first_place "first_place" = true)
    (k_first_place : PySem.W.keepIn K (.ref f_first_place) = true)
    (a_without : PySem.W.nsIn K mainGlobals "without" = some (some (.ref f_without)))
    (l_without : K.lookup f_without = some ⟨oc_without, od_without, .func (PySem.W.fnOf "without" "without" (defArgs s_without) (defBody s_without) (defScope s_without) .none kV_without dc_without pm_without an_without cd_without ct_without), sl_without⟩)
    (c_without : PySem.W.codeIn K cd_without "without" = true)
    (k_without : PySem.W.keepIn K (.ref f_without) = true)
    (a_common_prefix : PySem.W.nsIn K mainGlobals "common_prefix" = some (some (.ref f_common_prefix)))
    (l_common_prefix : K.lookup f_common_prefix = some ⟨oc_common_prefix, od_common_prefix, .func (PySem.W.fnOf "common_prefix" "common_prefix" (defArgs s_common_prefix) (defBody s_common_prefix) (defScope s_common_prefix) .none kV_common_prefix dc_common_prefix pm_common_prefix an_common_prefix cd_common_prefix ct_common_prefix), sl_common_prefix⟩)
    (c_common_prefix : PySem.W.codeIn K cd_common_prefix "common_prefix" = true)
    (k_common_prefix : PySem.W.keepIn K (.ref f_common_prefix) = true)
    (a_rest : PySem.W.nsIn K mainGlobals "rest" = some (some (.ref f_rest)))
    (l_rest : K.lookup f_rest = some ⟨oc_rest, od_rest, .func (PySem.W.fnOf "rest" "rest" (defArgs s_rest) (defBody s_rest) (defScope s_rest) .none kV_rest dc_rest pm_rest an_rest cd_rest ct_rest), sl_rest⟩)
    (c_rest : PySem.W.codeIn K cd_rest "rest" = true)
    (k_rest : PySem.W.keepIn K (.ref f_rest) = true)
    (a_place_word : PySem.W.nsIn K mainGlobals "place_word" = some (some (.ref f_place_word)))
    (l_place_word : K.lookup f_place_word = some ⟨oc_place_word, od_place_word, .func (PySem.W.fnOf "place_word" "place_word" (defArgs s_place_word) (defBody s_place_word) (defScope s_place_word) .none kV_place_word dc_place_word pm_place_word an_place_word cd_place_word ct_place_word), sl_place_word⟩)
    (c_place_word : PySem.W.codeIn K cd_place_word "place_word" = true)
    (k_place_word : PySem.W.keepIn K (.ref f_place_word) = true)
    (a_equivalent : PySem.W.nsIn K mainGlobals "equivalent" = some (some (.ref f_equivalent)))
    (l_equivalent : K.lookup f_equivalent = some ⟨oc_equivalent, od_equivalent, .func (PySem.W.fnOf "equivalent" "equivalent" (defArgs s_equivalent) (defBody s_equivalent) (defScope s_equivalent) .none kV_equivalent dc_equivalent pm_equivalent an_equivalent cd_equivalent ct_equivalent), sl_equivalent⟩)
    (c_equivalent : PySem.W.codeIn K cd_equivalent "equivalent" = true)
    (k_equivalent : PySem.W.keepIn K (.ref f_equivalent) = true)
    (a_crossing : PySem.W.nsIn K mainGlobals "crossing" = some (some (.ref f_crossing)))
    (l_crossing : K.lookup f_crossing = some ⟨oc_crossing, od_crossing, .func (PySem.W.fnOf "crossing" "crossing" (defArgs s_crossing) (defBody s_crossing) (defScope s_crossing) .none kV_crossing dc_crossing pm_crossing an_crossing cd_crossing ct_crossing), sl_crossing⟩)
    (c_crossing : PySem.W.codeIn K cd_crossing "crossing" = true)
    (k_crossing : PySem.W.keepIn K (.ref f_crossing) = true)
    (a_commute : PySem.W.nsIn K mainGlobals "commute" = some (some (.ref f_commute)))
    (l_commute : K.lookup f_commute = some ⟨oc_commute, od_commute, .func (PySem.W.fnOf "commute" "commute" (defArgs s_commute) (defBody s_commute) (defScope s_commute) .none kV_commute dc_commute pm_commute an_commute cd_commute ct_commute), sl_commute⟩)
    (c_commute : PySem.W.codeIn K cd_commute "commute" = true)
    (k_commute : PySem.W.keepIn K (.ref f_commute) = true)
    (a__law_free : PySem.W.nsIn K mainGlobals "_law_free" = some (some (.ref f__law_free)))
    (l__law_free : K.lookup f__law_free = some ⟨oc__law_free, od__law_free, .func (PySem.W.fnOf "_law_free" "_law_free" (defArgs s__law_free) (defBody s__law_free) (defScope s__law_free) .none kV__law_free dc__law_free pm__law_free an__law_free cd__law_free ct__law_free), sl__law_free⟩)
    (c__law_free : PySem.W.codeIn K cd__law_free "_law_free" = true)
    (k__law_free : PySem.W.keepIn K (.ref f__law_free) = true)
    (a__law_shuffled : PySem.W.nsIn K mainGlobals "_law_shuffled" = some (some (.ref f__law_shuffled)))
    (l__law_shuffled : K.lookup f__law_shuffled = some ⟨oc__law_shuffled, od__law_shuffled, .func (PySem.W.fnOf "_law_shuffled" "_law_shuffled" (defArgs s__law_shuffled) (defBody s__law_shuffled) (defScope s__law_shuffled) .none kV__law_shuffled dc__law_shuffled pm__law_shuffled an__law_shuffled cd__law_shuffled ct__law_shuffled), sl__law_shuffled⟩)
    (c__law_shuffled : PySem.W.codeIn K cd__law_shuffled "_law_shuffled" = true)
    (k__law_shuffled : PySem.W.keepIn K (.ref f__law_shuffled) = true)
    (a__law_place : PySem.W.nsIn K mainGlobals "_law_place" = some (some (.ref f__law_place)))
    (l__law_place : K.lookup f__law_place = some ⟨oc__law_place, od__law_place, .func (PySem.W.fnOf "_law_place" "_law_place" (defArgs s__law_place) (defBody s__law_place) (defScope s__law_place) .none kV__law_place dc__law_place pm__law_place an__law_place cd__law_place ct__law_place), sl__law_place⟩)
    (c__law_place : PySem.W.codeIn K cd__law_place "_law_place" = true)
    (k__law_place : PySem.W.keepIn K (.ref f__law_place) = true)
    (a__law_alike : PySem.W.nsIn K mainGlobals "_law_alike" = some (some (.ref f__law_alike)))
    (l__law_alike : K.lookup f__law_alike = some ⟨oc__law_alike, od__law_alike, .func (PySem.W.fnOf "_law_alike" "_law_alike" (defArgs s__law_alike) (defBody s__law_alike) (defScope s__law_alike) .none kV__law_alike dc__law_alike pm__law_alike an__law_alike cd__law_alike ct__law_alike), sl__law_alike⟩)
    (c__law_alike : PySem.W.codeIn K cd__law_alike "_law_alike" = true)
    (k__law_alike : PySem.W.keepIn K (.ref f__law_alike) = true)
    (a__law_is_integer : PySem.W.nsIn K mainGlobals "_law_is_integer" = some (some (.ref f__law_is_integer)))
    (l__law_is_integer : K.lookup f__law_is_integer = some ⟨oc__law_is_integer, od__law_is_integer, .func (PySem.W.fnOf "_law_is_integer" "_law_is_integer" (defArgs s__law_is_integer) (defBody s__law_is_integer) (defScope s__law_is_integer) .none kV__law_is_integer dc__law_is_integer pm__law_is_integer an__law_is_integer cd__law_is_integer ct__law_is_integer), sl__law_is_integer⟩)
    (c__law_is_integer : PySem.W.codeIn K cd__law_is_integer "_law_is_integer" = true)
    (k__law_is_integer : PySem.W.keepIn K (.ref f__law_is_integer) = true)
    (a__law_is_word : PySem.W.nsIn K mainGlobals "_law_is_word" = some (some (.ref f__law_is_word)))
    (l__law_is_word : K.lookup f__law_is_word = some ⟨oc__law_is_word, od__law_is_word, .func (PySem.W.fnOf "_law_is_word" "_law_is_word" (defArgs s__law_is_word) (defBody s__law_is_word) (defScope s__law_is_word) .none kV__law_is_word dc__law_is_word pm__law_is_word an__law_is_word cd__law_is_word ct__law_is_word), sl__law_is_word⟩)
    (c__law_is_word : PySem.W.codeIn K cd__law_is_word "_law_is_word" = true)
    (k__law_is_word : PySem.W.keepIn K (.ref f__law_is_word) = true)
    (a__law_least : PySem.W.nsIn K mainGlobals "_law_least" = some (some (.ref f__law_least)))
    (l__law_least : K.lookup f__law_least = some ⟨oc__law_least, od__law_least, .func (PySem.W.fnOf "_law_least" "_law_least" (defArgs s__law_least) (defBody s__law_least) (defScope s__law_least) .none kV__law_least dc__law_least pm__law_least an__law_least cd__law_least ct__law_least), sl__law_least⟩)
    (c__law_least : PySem.W.codeIn K cd__law_least "_law_least" = true)
    (k__law_least : PySem.W.keepIn K (.ref f__law_least) = true)
    (a_law : PySem.W.nsIn K mainGlobals "law" = some (some (.ref f_law)))
    (l_law : K.lookup f_law = some ⟨oc_law, od_law, .func (PySem.W.fnOf "law" "law" (defArgs s_law) (defBody s_law) (defScope s_law) .none kV_law dc_law pm_law an_law cd_law ct_law), sl_law⟩)
    (c_law : PySem.W.codeIn K cd_law "law" = true)
    (k_law : PySem.W.keepIn K (.ref f_law) = true)
    (pg_Alphabet : PySem.W.plainGet K C_Alphabet Str.empty = true)
    (hd_Alphabet : PySem.W.hasDictIn K C_Alphabet = true)
    (po_Alphabet : PySem.W.plainOver K C_Alphabet = true)
    (sa_Alphabet : PySem.W.findIn K (.ref C_Alphabet) "__setattr__" = some (some (.builtin "object.__setattr__")))
    (mk_Alphabet : PySem.W.makesIn K C_Alphabet = true)
    (kc_Alphabet : PySem.W.keepIn K (.ref C_Alphabet) = true)
    (na_Alphabet_places : PySem.W.findIn K (.ref C_Alphabet) "places" = some none)
    (na_Alphabet_letters : PySem.W.findIn K (.ref C_Alphabet) "letters" = some none)
    (z_bool : PySem.W.nsIn K mainGlobals "bool" = some none)
    (z_int : PySem.W.nsIn K mainGlobals "int" = some none)
    (z_isinstance : PySem.W.nsIn K mainGlobals "isinstance" = some none)
    (z_len : PySem.W.nsIn K mainGlobals "len" = some none)
    (z_list : PySem.W.nsIn K mainGlobals "list" = some none)
    (z_range : PySem.W.nsIn K mainGlobals "range" = some none)
    (z_set : PySem.W.nsIn K mainGlobals "set" = some none)
    (z_sorted : PySem.W.nsIn K mainGlobals "sorted" = some none)
    (z_tuple : PySem.W.nsIn K mainGlobals "tuple" = some none)
    (g_MOST_LETTERS : PySem.W.nsIn K mainGlobals "MOST_LETTERS" = some (some (.int 6 tk_MOST_LETTERS)))
    (g_MOST_PLACES : PySem.W.nsIn K mainGlobals "MOST_PLACES" = some (some (.int 4 tk_MOST_PLACES)))
    (hG : ∀ ns : List Int, ns.length ≤ 63 → G_law [.scr ns] = some (.bl true)) :
    ∃ fd : FuncData, (∀ (s : Shared) (v : Value), BindsTo s fd ⟨[v], []⟩ [("script", v)]) ∧ ∀ base : Heap, K.In base → base.Ns mainGlobals mg → FnOk l.prog w K mg base CX0 7 fa fd ["script"] (spLaw K) := by
  have e := hfa.symm.trans (PySem.W.mg_of X G a_law)
  cases e
  have T : Txt K mg := ⟨PySem.W.mg_none_of X G z_bool, PySem.W.mg_none_of X G z_int, PySem.W.mg_none_of X G z_isinstance, PySem.W.mg_none_of X G z_len, PySem.W.mg_none_of X G z_list, PySem.W.mg_none_of X G z_range, PySem.W.mg_none_of X G z_set, PySem.W.mg_none_of X G z_sorted, PySem.W.mg_none_of X G z_tuple, ⟨_, PySem.W.mg_of X G g_MOST_LETTERS⟩, ⟨_, PySem.W.mg_of X G g_MOST_PLACES⟩⟩
  have F__law_draws := fun_mk (st := s__law_draws) l__law_draws c__law_draws k__law_draws
  have b__law_draws := F__law_draws.binds (ps := ["script", "count"]) fun _ _ _ _ _ _ us hl => match us, hl with | [_, _], _ => rfl
  have D__law_draws : DefIn K mg "_law_draws" s__law_draws ["script", "count"] := ⟨_, _, F__law_draws, PySem.W.mg_of X G a__law_draws, k__law_draws, b__law_draws⟩
  have F__law_take := fun_mk (st := s__law_take) l__law_take c__law_take k__law_take
  have b__law_take := F__law_take.binds (ps := ["draws", "limit"]) fun _ _ _ _ _ _ us hl => match us, hl with | [_, _], _ => rfl
  have D__law_take : DefIn K mg "_law_take" s__law_take ["draws", "limit"] := ⟨_, _, F__law_take, PySem.W.mg_of X G a__law_take, k__law_take, b__law_take⟩
  have F__law_alphabet := fun_mk (st := s__law_alphabet) l__law_alphabet c__law_alphabet k__law_alphabet
  have b__law_alphabet := F__law_alphabet.binds (ps := ["draws", "places", "most"]) fun _ _ _ _ _ _ us hl => match us, hl with | [_, _, _], _ => rfl
  have D__law_alphabet : DefIn K mg "_law_alphabet" s__law_alphabet ["draws", "places", "most"] := ⟨_, _, F__law_alphabet, PySem.W.mg_of X G a__law_alphabet, k__law_alphabet, b__law_alphabet⟩
  have F_fits := fun_mk (st := s_fits) l_fits c_fits k_fits
  have b_fits := F_fits.binds (ps := ["letter", "places"]) fun _ _ _ _ _ _ us hl => match us, hl with | [_, _], _ => rfl
  have D_fits : DefIn K mg "fits" s_fits ["letter", "places"] := ⟨_, _, F_fits, PySem.W.mg_of X G a_fits, k_fits, b_fits⟩
  have F_Alphabet___init__ := fun_mk (st := s_Alphabet___init__) l_Alphabet___init__ c_Alphabet___init__ k_Alphabet___init__
  have b_Alphabet___init__ := F_Alphabet___init__.binds (ps := ["self", "places", "letters"]) fun _ _ _ _ _ _ us hl => match us, hl with | [_, _, _], _ => rfl
  have F__law_word := fun_mk (st := s__law_word) l__law_word c__law_word k__law_word
  have b__law_word := F__law_word.binds (ps := ["draws", "letters", "most"]) fun _ _ _ _ _ _ us hl => match us, hl with | [_, _, _], _ => rfl
  have D__law_word : DefIn K mg "_law_word" s__law_word ["draws", "letters", "most"] := ⟨_, _, F__law_word, PySem.W.mg_of X G a__law_word, k__law_word, b__law_word⟩
  have F_independent := fun_mk (st := s_independent) l_independent c_independent k_independent
  have b_independent := F_independent.binds (ps := ["alphabet", "first", "second"]) fun _ _ _ _ _ _ us hl => match us, hl with | [_, _, _], _ => rfl
  have D_independent : DefIn K mg "independent" s_independent ["alphabet", "first", "second"] := ⟨_, _, F_independent, PySem.W.mg_of X G a_independent, k_independent, b_independent⟩
  have F_masks := fun_mk (st := s_masks) l_masks c_masks k_masks
  have b_masks := F_masks.binds (ps := ["alphabet"]) fun _ _ _ _ _ _ us hl => match us, hl with | [_], _ => rfl
  have D_masks : DefIn K mg "masks" s_masks ["alphabet"] := ⟨_, _, F_masks, PySem.W.mg_of X G a_masks, k_masks, b_masks⟩
  have F_first_letters := fun_mk (st := s_first_letters) l_first_letters c_first_letters k_first_letters
  have b_first_letters := F_first_letters.binds (ps := ["alphabet", "word"]) fun _ _ _ _ _ _ us hl => match us, hl with | [_, _], _ => rfl
  have D_first_letters : DefIn K mg "first_letters" s_first_letters ["alphabet", "word"] := ⟨_, _, F_first_letters, PySem.W.mg_of X G a_first_letters, k_first_letters, b_first_letters⟩
  have F_least_form := fun_mk (st := s_least_form) l_least_form c_least_form k_least_form
  have b_least_form := F_least_form.binds (ps := ["alphabet", "word"]) fun _ _ _ _ _ _ us hl => match us, hl with | [_, _], _ => rfl
  have D_least_form : DefIn K mg "least_form" s_least_form ["alphabet", "word"] := ⟨_, _, F_least_form, PySem.W.mg_of X G a_least_form, k_least_form, b_least_form⟩
  have F_first_place := fun_mk (st := s_first_place) l_first_place c_first_place k_first_place
  have b_first_place := F_first_place.binds (ps := ["alphabet", "word", "letter"]) fun _ _ _ _ _ _ us hl => match us, hl with | [_, _, _], _ => rfl
  have D_first_place : DefIn K mg "first_place" s_first_place ["alphabet", "word", "letter"] := ⟨_, _, F_first_place, PySem.W.mg_of X G a_first_place, k_first_place, b_first_place⟩
  have F_without := fun_mk (st := s_without) l_without c_without k_without
  have b_without := F_without.binds (ps := ["word", "position"]) fun _ _ _ _ _ _ us hl => match us, hl with | [_, _], _ => rfl
  have D_without : DefIn K mg "without" s_without ["word", "position"] := ⟨_, _, F_without, PySem.W.mg_of X G a_without, k_without, b_without⟩
  have F_common_prefix := fun_mk (st := s_common_prefix) l_common_prefix c_common_prefix k_common_prefix
  have b_common_prefix := F_common_prefix.binds (ps := ["alphabet", "first", "second"]) fun _ _ _ _ _ _ us hl => match us, hl with | [_, _, _], _ => rfl
  have D_common_prefix : DefIn K mg "common_prefix" s_common_prefix ["alphabet", "first", "second"] := ⟨_, _, F_common_prefix, PySem.W.mg_of X G a_common_prefix, k_common_prefix, b_common_prefix⟩
  have F_rest := fun_mk (st := s_rest) l_rest c_rest k_rest
  have b_rest := F_rest.binds (ps := ["alphabet", "first", "second"]) fun _ _ _ _ _ _ us hl => match us, hl with | [_, _, _], _ => rfl
  have D_rest : DefIn K mg "rest" s_rest ["alphabet", "first", "second"] := ⟨_, _, F_rest, PySem.W.mg_of X G a_rest, k_rest, b_rest⟩
  have F_place_word := fun_mk (st := s_place_word) l_place_word c_place_word k_place_word
  have b_place_word := F_place_word.binds (ps := ["alphabet", "word", "place"]) fun _ _ _ _ _ _ us hl => match us, hl with | [_, _, _], _ => rfl
  have D_place_word : DefIn K mg "place_word" s_place_word ["alphabet", "word", "place"] := ⟨_, _, F_place_word, PySem.W.mg_of X G a_place_word, k_place_word, b_place_word⟩
  have F_equivalent := fun_mk (st := s_equivalent) l_equivalent c_equivalent k_equivalent
  have b_equivalent := F_equivalent.binds (ps := ["alphabet", "first", "second"]) fun _ _ _ _ _ _ us hl => match us, hl with | [_, _, _], _ => rfl
  have D_equivalent : DefIn K mg "equivalent" s_equivalent ["alphabet", "first", "second"] := ⟨_, _, F_equivalent, PySem.W.mg_of X G a_equivalent, k_equivalent, b_equivalent⟩
  have F_crossing := fun_mk (st := s_crossing) l_crossing c_crossing k_crossing
  have b_crossing := F_crossing.binds (ps := ["alphabet", "x", "y", "u", "v"]) fun _ _ _ _ _ _ us hl => match us, hl with | [_, _, _, _, _], _ => rfl
  have D_crossing : DefIn K mg "crossing" s_crossing ["alphabet", "x", "y", "u", "v"] := ⟨_, _, F_crossing, PySem.W.mg_of X G a_crossing, k_crossing, b_crossing⟩
  have F_commute := fun_mk (st := s_commute) l_commute c_commute k_commute
  have b_commute := F_commute.binds (ps := ["alphabet", "first", "second"]) fun _ _ _ _ _ _ us hl => match us, hl with | [_, _, _], _ => rfl
  have D_commute : DefIn K mg "commute" s_commute ["alphabet", "first", "second"] := ⟨_, _, F_commute, PySem.W.mg_of X G a_commute, k_commute, b_commute⟩
  have F__law_free := fun_mk (st := s__law_free) l__law_free c__law_free k__law_free
  have b__law_free := F__law_free.binds (ps := ["letters", "first", "second"]) fun _ _ _ _ _ _ us hl => match us, hl with | [_, _, _], _ => rfl
  have D__law_free : DefIn K mg "_law_free" s__law_free ["letters", "first", "second"] := ⟨_, _, F__law_free, PySem.W.mg_of X G a__law_free, k__law_free, b__law_free⟩
  have F__law_shuffled := fun_mk (st := s__law_shuffled) l__law_shuffled c__law_shuffled k__law_shuffled
  have b__law_shuffled := F__law_shuffled.binds (ps := ["draws", "letters", "word", "times"]) fun _ _ _ _ _ _ us hl => match us, hl with | [_, _, _, _], _ => rfl
  have D__law_shuffled : DefIn K mg "_law_shuffled" s__law_shuffled ["draws", "letters", "word", "times"] := ⟨_, _, F__law_shuffled, PySem.W.mg_of X G a__law_shuffled, k__law_shuffled, b__law_shuffled⟩
  have F__law_place := fun_mk (st := s__law_place) l__law_place c__law_place k__law_place
  have b__law_place := F__law_place.binds (ps := ["letters", "word", "place"]) fun _ _ _ _ _ _ us hl => match us, hl with | [_, _, _], _ => rfl
  have D__law_place : DefIn K mg "_law_place" s__law_place ["letters", "word", "place"] := ⟨_, _, F__law_place, PySem.W.mg_of X G a__law_place, k__law_place, b__law_place⟩
  have F__law_alike := fun_mk (st := s__law_alike) l__law_alike c__law_alike k__law_alike
  have b__law_alike := F__law_alike.binds (ps := ["count", "letters", "first", "second"]) fun _ _ _ _ _ _ us hl => match us, hl with | [_, _, _, _], _ => rfl
  have D__law_alike : DefIn K mg "_law_alike" s__law_alike ["count", "letters", "first", "second"] := ⟨_, _, F__law_alike, PySem.W.mg_of X G a__law_alike, k__law_alike, b__law_alike⟩
  have F__law_is_integer := fun_mk (st := s__law_is_integer) l__law_is_integer c__law_is_integer k__law_is_integer
  have b__law_is_integer := F__law_is_integer.binds (ps := ["actual"]) fun _ _ _ _ _ _ us hl => match us, hl with | [_], _ => rfl
  have D__law_is_integer : DefIn K mg "_law_is_integer" s__law_is_integer ["actual"] := ⟨_, _, F__law_is_integer, PySem.W.mg_of X G a__law_is_integer, k__law_is_integer, b__law_is_integer⟩
  have F__law_is_word := fun_mk (st := s__law_is_word) l__law_is_word c__law_is_word k__law_is_word
  have b__law_is_word := F__law_is_word.binds (ps := ["actual", "letters"]) fun _ _ _ _ _ _ us hl => match us, hl with | [_, _], _ => rfl
  have D__law_is_word : DefIn K mg "_law_is_word" s__law_is_word ["actual", "letters"] := ⟨_, _, F__law_is_word, PySem.W.mg_of X G a__law_is_word, k__law_is_word, b__law_is_word⟩
  have F__law_least := fun_mk (st := s__law_least) l__law_least c__law_least k__law_least
  have b__law_least := F__law_least.binds (ps := ["letters", "word"]) fun _ _ _ _ _ _ us hl => match us, hl with | [_, _], _ => rfl
  have D__law_least : DefIn K mg "_law_least" s__law_least ["letters", "word"] := ⟨_, _, F__law_least, PySem.W.mg_of X G a__law_least, k__law_least, b__law_least⟩
  have F_law := fun_mk (st := s_law) l_law c_law k_law
  have b_law := F_law.binds (ps := ["script"]) fun _ _ _ _ _ _ us hl => match us, hl with | [_], _ => rfl
  let ct : CT := ctOf [(C_Alphabet, ["places", "letters"])]
  have ci_Alphabet : CInfo K ct 0 C_Alphabet ["places", "letters"] := ⟨rfl, ⟨pg_Alphabet, hd_Alphabet, po_Alphabet, sa_Alphabet⟩, fun f hf => by
    simp only [List.mem_cons, List.not_mem_nil, or_false] at hf
    rcases hf with rfl | rfl
    · exact na_Alphabet_places
    · exact na_Alphabet_letters⟩
  refine ⟨PySem.W.fnOf "law" "law" (defArgs s_law) (defBody s_law) (defScope s_law) .none kV_law dc_law pm_law an_law cd_law ct_law, fun s v => .of_eq rfl, fun base _ _ => ?_⟩
  have c__law_draws : CalX l.prog w K mg base 1 "_law_draws" ["script", "count"] (sp0 K ct (.lst .fz) G__law_draws) := D__law_draws.cal fun f fd F => okF__law_draws F T
  have c__law_take : CalX l.prog w K mg base 1 "_law_take" ["draws", "limit"] (sp1 K ct .fz (.lst .fz) (.lst .fz) G__law_take) := D__law_take.cal fun f fd F => okF__law_take F T
  have c__law_alphabet : CalX l.prog w K mg base 2 "_law_alphabet" ["draws", "places", "most"] (sp1 K ct .fz (.lst .fz) (.lst .fz) G__law_alphabet) := D__law_alphabet.cal fun f fd F => okF__law_alphabet F T c__law_take
  have c_fits : CalX l.prog w K mg base 1 "fits" ["letter", "places"] (sp0 K ct .fz G_fits) := D_fits.cal fun f fd F => okF_fits F T
  have mk_Alphabet : MakX l.prog w K mg base ct 2 "Alphabet" 0 [.fz, .fz] ["self", "places", "letters"] G_Alphabet___init__ := ⟨C_Alphabet, _, _, _, rfl, ⟨mk_Alphabet, a_Alphabet___init__, i_Alphabet___init__, kc_Alphabet⟩, okF_Alphabet___init__ F_Alphabet___init__ T ci_Alphabet c_fits, PySem.W.mg_of X G aC_Alphabet, b_Alphabet___init__⟩
  have c__law_word : CalX l.prog w K mg base 2 "_law_word" ["draws", "letters", "most"] (sp1 K ct .fz (.lst .fz) (.lst .fz) G__law_word) := D__law_word.cal fun f fd F => okF__law_word F T c__law_take
  have c_independent : CalX l.prog w K mg base 1 "independent" ["alphabet", "first", "second"] (sp0 K ct .fz G_independent) := D_independent.cal fun f fd F => okF_independent F T ci_Alphabet
  have c_masks : CalX l.prog w K mg base 2 "masks" ["alphabet"] (sp0 K ct .fz G_masks) := D_masks.cal fun f fd F => okF_masks F T ci_Alphabet c_independent
  have c_first_letters : CalX l.prog w K mg base 3 "first_letters" ["alphabet", "word"] (sp0 K ct (.lst .fz) G_first_letters) := D_first_letters.cal fun f fd F => okF_first_letters F T c_masks
  have c_least_form : CalX l.prog w K mg base 4 "least_form" ["alphabet", "word"] (sp0 K ct .fz G_least_form) := D_least_form.cal fun f fd F => okF_least_form F T c_first_letters
  have c_first_place : CalX l.prog w K mg base 4 "first_place" ["alphabet", "word", "letter"] (sp0 K ct .fz G_first_place) := D_first_place.cal fun f fd F => okF_first_place F T c_first_letters
  have c_without : CalX l.prog w K mg base 1 "without" ["word", "position"] (sp0 K ct .fz G_without) := D_without.cal fun f fd F => okF_without F T
  have c_common_prefix : CalX l.prog w K mg base 5 "common_prefix" ["alphabet", "first", "second"] (sp0 K ct .fz G_common_prefix) := D_common_prefix.cal fun f fd F => okF_common_prefix F T ci_Alphabet c_first_place c_without c_least_form
  have c_rest : CalX l.prog w K mg base 5 "rest" ["alphabet", "first", "second"] (sp0 K ct .fz G_rest) := D_rest.cal fun f fd F => okF_rest F T c_first_place c_without c_least_form
  have c_place_word : CalX l.prog w K mg base 1 "place_word" ["alphabet", "word", "place"] (sp0 K ct .fz G_place_word) := D_place_word.cal fun f fd F => okF_place_word F T ci_Alphabet
  have c_equivalent : CalX l.prog w K mg base 2 "equivalent" ["alphabet", "first", "second"] (sp0 K ct .fz G_equivalent) := D_equivalent.cal fun f fd F => okF_equivalent F T ci_Alphabet c_place_word
  have c_crossing : CalX l.prog w K mg base 6 "crossing" ["alphabet", "x", "y", "u", "v"] (sp0 K ct .fz G_crossing) := D_crossing.cal fun f fd F => okF_crossing F T c_equivalent c_common_prefix c_rest
  have c_commute : CalX l.prog w K mg base 3 "commute" ["alphabet", "first", "second"] (sp0 K ct .fz G_commute) := D_commute.cal fun f fd F => okF_commute F T c_equivalent
  have c__law_free : CalX l.prog w K mg base 1 "_law_free" ["letters", "first", "second"] (sp0 K ct .fz G__law_free) := D__law_free.cal fun f fd F => okF__law_free F T
  have c__law_shuffled : CalX l.prog w K mg base 2 "_law_shuffled" ["draws", "letters", "word", "times"] (sp1 K ct .fz (.lst .fz) (.lst .fz) G__law_shuffled) := D__law_shuffled.cal fun f fd F => okF__law_shuffled F T c__law_take c__law_free
  have c__law_place : CalX l.prog w K mg base 1 "_law_place" ["letters", "word", "place"] (sp0 K ct .fz G__law_place) := D__law_place.cal fun f fd F => okF__law_place F T
  have c__law_alike : CalX l.prog w K mg base 2 "_law_alike" ["count", "letters", "first", "second"] (sp0 K ct .fz G__law_alike) := D__law_alike.cal fun f fd F => okF__law_alike F T c__law_place
  have c__law_is_integer : CalX l.prog w K mg base 1 "_law_is_integer" ["actual"] (sp0 K ct .fz G__law_is_integer) := D__law_is_integer.cal fun f fd F => okF__law_is_integer F T
  have c__law_is_word : CalX l.prog w K mg base 2 "_law_is_word" ["actual", "letters"] (sp0 K ct .fz G__law_is_word) := D__law_is_word.cal fun f fd F => okF__law_is_word F T c__law_is_integer
  have c__law_least : CalX l.prog w K mg base 2 "_law_least" ["letters", "word"] (sp0 K ct .fz G__law_least) := D__law_least.cal fun f fd F => okF__law_least F T c__law_free
  exact law_ok (okF_law (P := l.prog) (w := w) (base := base) (ct := ct) F_law T c__law_draws c__law_alphabet c__law_word c__law_take c__law_free c__law_shuffled c_crossing c_commute c__law_alike c__law_least c__law_is_word mk_Alphabet) hG
theorem walk {l : PySem.W.OpenLaw} {q : Program} {loose : List Str} {XP : (Str → Option Value) → Heap → Prop} {YP : World → Heap → Prop} {d : DefRec} {K : Params → PySem.W.Frag} (hn : l.most = some 63) (hdf : d.params.defaults = []) (hY : ∀ (w : World) (h : Heap), YP w h → (K w.params).In h)
    (F : ∀ (w : World) (mg : Str → Option Value) (fa : Addr) (h : Heap), (K w.params).In h → h.Ns mainGlobals mg → mg d.name = some (.ref fa) →
      ∃ fd : FuncData, (∀ (s : Shared) (u : Value), BindsTo s fd ⟨[u], []⟩ [("script", u)]) ∧ ∀ base : Heap, (K w.params).In base → base.Ns mainGlobals mg → FnOk l.prog w (K w.params) mg base CX0 7 fa fd ["script"] (spLaw (K w.params))) :
    PySem.W.WalkO q loose XP YP l.row.toRowW d [] (fun f vs => PySem.call f vs) :=
  L2.walk_of (n := 63) (k := 7) (x := "script") (CX := fun _ => CX0) (sp := fun w => spLaw (K w.params)) hn (by decide) hdf ⟨rfl, by decide, by decide⟩ hY F (fun _ _ a ns hl _ hS => ⟨a, ns, rfl, hS, hl, (fun _ _ h => h), fun _ => rfl⟩) fun _ _ _ _ _ z => z
end Wk33
open PySem PySem.W PyProof.Rows in
set_option maxRecDepth 100000 in
set_option maxHeartbeats 0 in
theorem PySem.Challenge.cw_tracetalk_k33_crossings_holds : PySem.Challenge.rw_tracetalk_k33_crossings.Holds := by
  w_on; o_law; k_head; (case hw => w_witness2)
  k_fill
  refine Wk33.walk (l := PySem.Challenge.rw_tracetalk_k33_crossings) rfl rfl (fun w h Y => PySem.W.kIn_of Y) ?F
  case F =>
    intro w mg fa h KX G hmg
    refine' Wk33.all_mk KX G hmg ?aC_Alphabet ?a__law_draws ?l__law_draws ?c__law_draws ?k__law_draws ?a__law_take ?l__law_take ?c__law_take ?k__law_take ?a__law_alphabet ?l__law_alphabet ?c__law_alphabet ?k__law_alphabet ?a_fits ?l_fits ?c_fits ?k_fits ?a_Alphabet___init__ ?i_Alphabet___init__ ?l_Alphabet___init__ ?c_Alphabet___init__ ?k_Alphabet___init__ ?a__law_word ?l__law_word ?c__law_word ?k__law_word ?a_independent ?l_independent ?c_independent ?k_independent ?a_masks ?l_masks ?c_masks ?k_masks ?a_first_letters ?l_first_letters ?c_first_letters ?k_first_letters ?a_least_form ?l_least_form ?c_least_form ?k_least_form ?a_first_place ?l_first_place ?c_first_place ?k_first_place ?a_without ?l_without ?c_without ?k_without ?a_common_prefix ?l_common_prefix ?c_common_prefix ?k_common_prefix ?a_rest ?l_rest ?c_rest ?k_rest ?a_place_word ?l_place_word ?c_place_word ?k_place_word ?a_equivalent ?l_equivalent ?c_equivalent ?k_equivalent ?a_crossing ?l_crossing ?c_crossing ?k_crossing ?a_commute ?l_commute ?c_commute ?k_commute ?a__law_free ?l__law_free ?c__law_free ?k__law_free ?a__law_shuffled ?l__law_shuffled ?c__law_shuffled ?k__law_shuffled ?a__law_place ?l__law_place ?c__law_place ?k__law_place ?a__law_alike ?l__law_alike ?c__law_alike ?k__law_alike ?a__law_is_integer ?l__law_is_integer ?c__law_is_integer ?k__law_is_integer ?a__law_is_word ?l__law_is_word ?c__law_is_word ?k__law_is_word ?a__law_least ?l__law_least ?c__law_least ?k__law_least ?a_law ?l_law ?c_law ?k_law ?pg_Alphabet ?hd_Alphabet ?po_Alphabet ?sa_Alphabet ?mk_Alphabet ?kc_Alphabet ?na_Alphabet_places ?na_Alphabet_letters ?z_bool ?z_int ?z_isinstance ?z_len ?z_list ?z_range ?z_set ?z_sorted ?z_tuple ?g_MOST_LETTERS ?g_MOST_PLACES Wk33.law_true
    (case aC_Alphabet => k_is)
    (case a__law_draws => k_is)
    (case l__law_draws => k_is)
    (case c__law_draws => k_is)
    (case k__law_draws => k_is)
    (case a__law_take => k_is)
    (case l__law_take => k_is)
    (case c__law_take => k_is)
    (case k__law_take => k_is)
    (case a__law_alphabet => k_is)
    (case l__law_alphabet => k_is)
    (case c__law_alphabet => k_is)
    (case k__law_alphabet => k_is)
    (case a_fits => k_is)
    (case l_fits => k_is)
    (case c_fits => k_is)
    (case k_fits => k_is)
    (case a_Alphabet___init__ => k_is)
    (case i_Alphabet___init__ => k_is)
    (case l_Alphabet___init__ => k_is)
    (case c_Alphabet___init__ => k_is)
    (case k_Alphabet___init__ => k_is)
    (case a__law_word => k_is)
    (case l__law_word => k_is)
    (case c__law_word => k_is)
    (case k__law_word => k_is)
    (case a_independent => k_is)
    (case l_independent => k_is)
    (case c_independent => k_is)
    (case k_independent => k_is)
    (case a_masks => k_is)
    (case l_masks => k_is)
    (case c_masks => k_is)
    (case k_masks => k_is)
    (case a_first_letters => k_is)
    (case l_first_letters => k_is)
    (case c_first_letters => k_is)
    (case k_first_letters => k_is)
    (case a_least_form => k_is)
    (case l_least_form => k_is)
    (case c_least_form => k_is)
    (case k_least_form => k_is)
    (case a_first_place => k_is)
    (case l_first_place => k_is)
    (case c_first_place => k_is)
    (case k_first_place => k_is)
    (case a_without => k_is)
    (case l_without => k_is)
    (case c_without => k_is)
    (case k_without => k_is)
    (case a_common_prefix => k_is)
    (case l_common_prefix => k_is)
    (case c_common_prefix => k_is)
    (case k_common_prefix => k_is)
    (case a_rest => k_is)
    (case l_rest => k_is)
    (case c_rest => k_is)
    (case k_rest => k_is)
    (case a_place_word => k_is)
    (case l_place_word => k_is)
    (case c_place_word => k_is)
    (case k_place_word => k_is)
    (case a_equivalent => k_is)
    (case l_equivalent => k_is)
    (case c_equivalent => k_is)
    (case k_equivalent => k_is)
    (case a_crossing => k_is)
    (case l_crossing => k_is)
    (case c_crossing => k_is)
    (case k_crossing => k_is)
    (case a_commute => k_is)
    (case l_commute => k_is)
    (case c_commute => k_is)
    (case k_commute => k_is)
    (case a__law_free => k_is)
    (case l__law_free => k_is)
    (case c__law_free => k_is)
    (case k__law_free => k_is)
    (case a__law_shuffled => k_is)
    (case l__law_shuffled => k_is)
    (case c__law_shuffled => k_is)
    (case k__law_shuffled => k_is)
    (case a__law_place => k_is)
    (case l__law_place => k_is)
    (case c__law_place => k_is)
    (case k__law_place => k_is)
    (case a__law_alike => k_is)
    (case l__law_alike => k_is)
    (case c__law_alike => k_is)
    (case k__law_alike => k_is)
    (case a__law_is_integer => k_is)
    (case l__law_is_integer => k_is)
    (case c__law_is_integer => k_is)
    (case k__law_is_integer => k_is)
    (case a__law_is_word => k_is)
    (case l__law_is_word => k_is)
    (case c__law_is_word => k_is)
    (case k__law_is_word => k_is)
    (case a__law_least => k_is)
    (case l__law_least => k_is)
    (case c__law_least => k_is)
    (case k__law_least => k_is)
    (case a_law => k_is)
    (case l_law => k_is)
    (case c_law => k_is)
    (case k_law => k_is)
    (case pg_Alphabet => k_is)
    (case hd_Alphabet => k_is)
    (case po_Alphabet => k_is)
    (case sa_Alphabet => k_is)
    (case mk_Alphabet => k_is)
    (case kc_Alphabet => k_is)
    (case na_Alphabet_places => k_is)
    (case na_Alphabet_letters => k_is)
    (case z_bool => k_is)
    (case z_int => k_is)
    (case z_isinstance => k_is)
    (case z_len => k_is)
    (case z_list => k_is)
    (case z_range => k_is)
    (case z_set => k_is)
    (case z_sorted => k_is)
    (case z_tuple => k_is)
    (case g_MOST_LETTERS => k_is)
    (case g_MOST_PLACES => k_is)
