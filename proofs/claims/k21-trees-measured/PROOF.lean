import PyProof.Rows.All
import Wide.All
import OpenK.AllK
import Wide.FinOn
import HandS.ForMost
import HandS.Exc
import HandS.TryMany
import HandS.ExcInit
import HandS.CallSlots
import HandS.Deep
import HandS.TupAny
import HandS.IsInst
import HandS.Flow
import HandS.WordsDict
import HandS.More
import HandS.WordsExc
import HandS.SortKw
import KE.DatumOrd
import PySem.Challenge.RW_thingyard_k21_trees_measured
set_option Elab.async false
set_option linter.all false
set_option maxRecDepth 100000
set_option maxHeartbeats 1000000
namespace Vy
open PySem PySem.Spec PyProof.Rows L2

/-! ## Data told by value -/
abbrev Cs := List Nat
inductive D where
  | non | bl (b : Bool) | int (i : Int) | str (s : Cs)
  | tup (xs : List D) | lst (xs : List D) | dct (ks : List D) (vs : List D) | ins (c : Nat) (fs : List Cs) (vs : List D)
  | cls (c : Nat) | scr (ns : List Int)
  deriving Inhabited

def mkS (s : Cs) : Str := ⟨s.toArray⟩
/-- signs that there are -/
def Bd (s : Cs) : Prop := ∀ c ∈ s, c < 1114112
def vKey : D → Option Key
  | .int i => some (.inl i)
  | .str s => some (.inr (mkS s))
  | _ => none

mutual
/-- how deep things that may change lie in one another -/
def D.mdep : D → Nat
  | .tup xs => mdepL xs
  | .lst xs => mdepL xs + 1
  | .dct _ vs => mdepL vs + 1
  | .ins _ _ vs => mdepL vs + 1
  | _ => 0
def mdepL : List D → Nat
  | [] => 0
  | d :: r => max d.mdep (mdepL r)
end

/-! ## How data lie in the abstract heap: own addresses O, others' Z -/
/-- a dict's keys: texts and numbers, none twice -/
def KeyOk (ks : List D) (kvs : List (Key × V)) : Prop := ks.map vKey = kvs.map (fun p => some p.1) ∧ (kvs.map (·.1)).Nodup ∧ ∀ s, D.str s ∈ ks → Bd s
/-- the script: read alone -/
def SqZ (K : PySem.W.Frag) (H : Hp) (a : Addr) (xs : List V) : Prop := (∃ o, H a = some (.frz o (.lst xs))) ∨ ∀ H', SqL K H' a xs
theorem SqZ.l {K : PySem.W.Frag} {H : Hp} {a : Addr} {xs : List V} (h : SqZ K H a xs) : SqL K H a xs := h.elim (fun ⟨o, e⟩ => .inl (.inr ⟨o, e⟩)) fun e => e H
section
variable (K : PySem.W.Frag) (CA : Nat → Addr)
mutual
inductive Rep (H : Hp) : Nat → D → V → List Addr → List Addr → Prop
  | non {n} : Rep H n .non .non [] []
  | bl {n} (b : Bool) : Rep H n (.bl b) (.bl b) [] []
  | int {n} (i : Int) : Rep H n (.int i) (.int i) [] []
  | str {n} {s : Cs} : Bd s → Rep H n (.str s) (.str (mkS s)) [] []
  | cls {n} (c : Nat) : Rep H n (.cls c) (.ref (CA c)) [] []
  | scr {n a ns} : SqZ K H a (ns.map V.int) → Rep H n (.scr ns) (.ref a) [] []
  | tup {n a ds vs O Z} : SqT K H a vs → Reps H n ds vs O Z → Rep H n (.tup ds) (.ref a) O Z
  | lstO {n a ds vs O Z} : H a = some (.lst vs) → Reps H n ds vs O Z → Rep H (n + 1) (.lst ds) (.ref a) (a :: O) Z
  | lstZ {a ds vs O Z} : H a = some (.lst vs) → Reps H 0 ds vs O Z → Rep H 0 (.lst ds) (.ref a) O (a :: Z)
  | dctO {n a ks ds kvs O Z} : H a = some (.dK kvs) → KeyOk ks kvs → Reps H n ds (kvs.map (·.2)) O Z → Rep H (n + 1) (.dct ks ds) (.ref a) (a :: O) Z
  | dctZ {a ks ds kvs O Z} : Rd H a (.dK kvs) → KeyOk ks kvs → Reps H 0 ds (kvs.map (·.2)) O Z → Rep H 0 (.dct ks ds) (.ref a) O (a :: Z)
  | insO {n a c fs ds dx fvs O Z} : H a = some (.ins (CA c) dx fvs) → fs.map mkS = fvs.map (·.1) → Reps H n ds (fvs.map (·.2)) O Z → Rep H (n + 1) (.ins c fs ds) (.ref a) (a :: O) Z
  | insZ {a c fs ds dx fvs O Z} : H a = some (.ins (CA c) dx fvs) → fs.map mkS = fvs.map (·.1) → Reps H 0 ds (fvs.map (·.2)) O Z → Rep H 0 (.ins c fs ds) (.ref a) O (a :: Z)
inductive Reps (H : Hp) : Nat → List D → List V → List Addr → List Addr → Prop
  | nil {n} : Reps H n [] [] [] []
  | cons {n d v ds vs O Z O' Z'} : Rep H n d v O Z → Reps H n ds vs O' Z' → Reps H n (d :: ds) (v :: vs) (O ++ O') (Z ++ Z')
end
end

/-- all that stood apart from F is kept -/
def Keep (F : List Addr) (H H' : Hp) : Prop := ∀ a o, H a = some o → a ∉ F → H' a = some o
theorem Keep.refl {F : List Addr} {H : Hp} : Keep F H H := fun _ _ h _ => h
theorem Keep.same {H H' : Hp} (k : Keep [] H H') : Same H H' := fun a o h => k a o h (by simp)
theorem keepS {F : List Addr} {H H' : Hp} (k : Same H H') : Keep F H H' := fun a o h _ => k a o h
theorem Keep.mono {F G : List Addr} {H H' : Hp} (k : Keep F H H') (h : ∀ a ∈ F, a ∈ G) : Keep G H H' := fun a o e n => k a o e fun z => n (h a z)
theorem Keep.upd_new {H : Hp} {p : Addr} {o : HO} {F : List Addr} (n : H p = none) : Keep F H (upd H p o) := fun a u e _ => by
  rw [upd_ne (ne_of_none e n)]; exact e
theorem sameNew {H : Hp} {p : Addr} {o : HO} (n : H p = none) : Same H (upd H p o) := fun a u e => by
  rw [upd_ne (ne_of_none e n)]; exact e

section
variable {K : PySem.W.Frag} {CA : Nat → Addr} {H H' : Hp}

mutual
theorem Rep.own_mut : ∀ {n d v O Z}, Rep K CA H n d v O Z → ∀ a ∈ O, Mut (H a)
  | _, _, _, _, _, .non, _, h => by simp at h
  | _, _, _, _, _, .bl _, _, h => by simp at h
  | _, _, _, _, _, .int _, _, h => by simp at h
  | _, _, _, _, _, .str _, _, h => by simp at h
  | _, _, _, _, _, .cls _, _, h => by simp at h
  | _, _, _, _, _, .scr _, _, h => by simp at h
  | _, _, _, _, _, .tup _ r, b, h => r.own_mut b h
  | _, _, _, _, _, .lstO e r, b, h => by
    rcases List.mem_cons.mp h with rfl | h
    · rw [e]; trivial
    · exact r.own_mut b h
  | _, _, _, _, _, .lstZ _ r, b, h => r.own_mut b h
  | _, _, _, _, _, .dctO e _ r, b, h => by
    rcases List.mem_cons.mp h with rfl | h
    · rw [e]; trivial
    · exact r.own_mut b h
  | _, _, _, _, _, .dctZ _ _ r, b, h => r.own_mut b h
  | _, _, _, _, _, .insO e _ r, b, h => by
    rcases List.mem_cons.mp h with rfl | h
    · rw [e]; trivial
    · exact r.own_mut b h
  | _, _, _, _, _, .insZ _ _ r, b, h => r.own_mut b h
theorem Reps.own_mut : ∀ {n ds vs O Z}, Reps K CA H n ds vs O Z → ∀ a ∈ O, Mut (H a)
  | _, _, _, _, _, .nil, _, h => by simp at h
  | _, _, _, _, _, .cons r s, b, h => (List.mem_append.mp h).elim (r.own_mut b) (s.own_mut b)
end

theorem Rd.some {H : Hp} {a : Addr} {u : HO} (r : Rd H a u) : H a ≠ none := by
  rcases r with e | ⟨o, e⟩ <;> rw [e] <;> simp
mutual
theorem Rep.there : ∀ {n d v O Z}, Rep K CA H n d v O Z → ∀ a ∈ O ++ Z, H a ≠ none
  | _, _, _, _, _, .non, _, h => by simp at h
  | _, _, _, _, _, .bl _, _, h => by simp at h
  | _, _, _, _, _, .int _, _, h => by simp at h
  | _, _, _, _, _, .str _, _, h => by simp at h
  | _, _, _, _, _, .cls _, _, h => by simp at h
  | _, _, _, _, _, .scr _, _, h => by simp at h
  | _, _, _, _, _, .tup _ r, b, h => r.there b h
  | _, _, _, _, _, .lstO e r, b, h => by
    rcases List.mem_cons.mp h with rfl | h
    · rw [e]; simp
    · exact r.there b h
  | _, _, _, _, _, .lstZ e r, b, h => by
    rcases List.mem_append.mp h with h | h
    · exact r.there b (List.mem_append_left _ h)
    · rcases List.mem_cons.mp h with rfl | h
      · exact (by rw [e]; simp)
      · exact r.there b (List.mem_append_right _ h)
  | _, _, _, _, _, .dctO e _ r, b, h => by
    rcases List.mem_cons.mp h with rfl | h
    · rw [e]; simp
    · exact r.there b h
  | _, _, _, _, _, .dctZ e _ r, b, h => by
    rcases List.mem_append.mp h with h | h
    · exact r.there b (List.mem_append_left _ h)
    · rcases List.mem_cons.mp h with rfl | h
      · exact Rd.some e
      · exact r.there b (List.mem_append_right _ h)
  | _, _, _, _, _, .insO e _ r, b, h => by
    rcases List.mem_cons.mp h with rfl | h
    · rw [e]; simp
    · exact r.there b h
  | _, _, _, _, _, .insZ e _ r, b, h => by
    rcases List.mem_append.mp h with h | h
    · exact r.there b (List.mem_append_left _ h)
    · rcases List.mem_cons.mp h with rfl | h
      · rw [e]; simp
      · exact r.there b (List.mem_append_right _ h)
theorem Reps.there : ∀ {n ds vs O Z}, Reps K CA H n ds vs O Z → ∀ a ∈ O ++ Z, H a ≠ none
  | _, _, _, _, _, .nil, _, h => by simp at h
  | _, _, _, _, _, .cons r s, b, h => by
    rcases List.mem_append.mp h with h | h <;> rcases List.mem_append.mp h with h | h
    · exact r.there b (List.mem_append_left _ h)
    · exact s.there b (List.mem_append_left _ h)
    · exact r.there b (List.mem_append_right _ h)
    · exact s.there b (List.mem_append_right _ h)
end

/-- what is never written -/
def Fix (F : List Addr) (H : Hp) : Prop := ∀ a ∈ F, Mut (H a)
theorem Rd.keep {F : List Addr} {a : Addr} {u : HO} (r : Rd H a u) (k : Keep F H H') (h : a ∉ F) : Rd H' a u := by
  rcases r with e | ⟨o, e⟩
  · exact .inl (k _ _ e h)
  · exact .inr ⟨o, k _ _ e h⟩
theorem SqT_keep {F : List Addr} {a : Addr} {xs : List V} (r : SqT K H a xs) (k : Keep F H H') (f : Fix F H) : SqT K H' a xs := by
  rcases r with (e | ⟨o, e⟩) | e
  · refine .inl (.inl (k _ _ e fun z => ?_))
    have := f _ z; rw [e] at this; exact this
  · refine .inl (.inr ⟨o, k _ _ e fun z => ?_⟩)
    have := f _ z; rw [e] at this; exact this
  · exact .inr e
theorem SqZ_keep {F : List Addr} {a : Addr} {xs : List V} (r : SqZ K H a xs) (k : Keep F H H') (f : Fix F H) : SqZ K H' a xs := by
  rcases r with ⟨o, e⟩ | e
  · refine .inl ⟨o, k _ _ e fun z => ?_⟩
    have := f _ z; rw [e] at this; exact this
  · exact .inr e
mutual
theorem Rep.keep {F : List Addr} (k : Keep F H H') (f : Fix F H) : ∀ {n d v O Z}, Rep K CA H n d v O Z → (∀ a ∈ O ++ Z, a ∉ F) → Rep K CA H' n d v O Z
  | _, _, _, _, _, .non, _ => .non
  | _, _, _, _, _, .bl _, _ => .bl _
  | _, _, _, _, _, .int _, _ => .int _
  | _, _, _, _, _, .str _, _ => .str (by assumption)
  | _, _, _, _, _, .cls _, _ => .cls _
  | _, _, _, _, _, .scr e, _ => .scr (SqZ_keep e k f)
  | _, _, _, _, _, .tup e r, h => .tup (SqT_keep e k f) (r.keep k f h)
  | _, _, _, _, _, .lstO e r, h => .lstO (k _ _ e (h _ (by simp))) (r.keep k f fun b q => h b (by simp_all))
  | _, _, _, _, _, .lstZ e r, h => .lstZ (k _ _ e (h _ (by simp))) (r.keep k f fun b q => h b (by simp at q ⊢; rcases q with q | q <;> simp [q]))
  | _, _, _, _, _, .dctO e e1 r, h => .dctO (k _ _ e (h _ (by simp))) e1 (r.keep k f fun b q => h b (by simp_all))
  | _, _, _, _, _, .dctZ e e1 r, h => .dctZ (Rd.keep e k (h _ (by simp))) e1 (r.keep k f fun b q => h b (by simp at q ⊢; rcases q with q | q <;> simp [q]))
  | _, _, _, _, _, .insO e e1 r, h => .insO (k _ _ e (h _ (by simp))) e1 (r.keep k f fun b q => h b (by simp_all))
  | _, _, _, _, _, .insZ e e1 r, h => .insZ (k _ _ e (h _ (by simp))) e1 (r.keep k f fun b q => h b (by simp at q ⊢; rcases q with q | q <;> simp [q]))
theorem Reps.keep {F : List Addr} (k : Keep F H H') (f : Fix F H) : ∀ {n ds vs O Z}, Reps K CA H n ds vs O Z → (∀ a ∈ O ++ Z, a ∉ F) → Reps K CA H' n ds vs O Z
  | _, _, _, _, _, .nil, _ => .nil
  | _, _, _, _, _, .cons r s, h => .cons (r.keep k f fun b q => h b (by simp at q ⊢; rcases q with q | q <;> simp [q])) (s.keep k f fun b q => h b (by simp at q ⊢; rcases q with q | q <;> simp [q]))
end
theorem Fix.nil {H : Hp} : Fix [] H := fun _ h => by simp at h
theorem Rep.same (k : Same H H') {n d v O Z} (r : Rep K CA H n d v O Z) : Rep K CA H' n d v O Z := r.keep (F := []) (keepS k) Fix.nil (by simp)
theorem Reps.same (k : Same H H') {n ds vs O Z} (r : Reps K CA H n ds vs O Z) : Reps K CA H' n ds vs O Z := r.keep (F := []) (keepS k) Fix.nil (by simp)

/-- O, Z weakened: own things R become others' -/
def Low (O Z O' Z' : List Addr) : Prop := ∃ R, (O' ++ R).Perm O ∧ ∀ a ∈ Z', a ∈ R ∨ a ∈ Z
theorem Low.refl {O Z : List Addr} : Low O Z O Z := ⟨[], by simp, fun a h => .inr h⟩
theorem Low.append {O Z O' Z' P Y P' Y' : List Addr} (a : Low O Z O' Z') (b : Low P Y P' Y') : Low (O ++ P) (Z ++ Y) (O' ++ P') (Z' ++ Y') := by
  obtain ⟨R, p, h⟩ := a
  obtain ⟨R', p', h'⟩ := b
  refine ⟨R ++ R', ?_, fun x q => ?_⟩
  · rw [List.perm_iff_count] at p p' ⊢
    intro x
    have h1 := p x
    have h2 := p' x
    simp only [List.count_append] at h1 h2 ⊢
    omega
  · rcases List.mem_append.mp q with q | q
    · rcases h x q with z | z <;> simp [z]
    · rcases h' x q with z | z <;> simp [z]
theorem Low.cons0 {a : Addr} {O Z O' Z' : List Addr} (l : Low O Z O' Z') : Low (a :: O) Z O' (a :: Z') := by
  obtain ⟨R, p, h⟩ := l
  refine ⟨a :: R, List.perm_middle.trans (p.cons a), fun x q => ?_⟩
  rcases List.mem_cons.mp q with rfl | q
  · simp
  · rcases h x q with z | z <;> simp [z]
theorem Low.cons1 {a : Addr} {O Z O' Z' : List Addr} (l : Low O Z O' Z') : Low (a :: O) Z (a :: O') Z' := by
  obtain ⟨R, p, h⟩ := l
  exact ⟨R, p.cons a, h⟩
theorem Low.own {O Z O' Z' : List Addr} (l : Low O Z O' Z') : ∀ a ∈ O', a ∈ O := fun a h => by
  obtain ⟨R, p, _⟩ := l
  exact p.subset (List.mem_append_left _ h)
theorem Low.all {O Z O' Z' : List Addr} (l : Low O Z O' Z') : ∀ a ∈ Z', a ∈ O ∨ a ∈ Z := fun a h => by
  obtain ⟨R, p, q⟩ := l
  exact (q a h).imp (fun z => p.subset (List.mem_append_right _ z)) id
theorem Low.nd {O Z O' Z' : List Addr} (l : Low O Z O' Z') (h : O.Nodup) : O'.Nodup := by
  obtain ⟨R, p, q⟩ := l
  exact (List.nodup_append.mp (p.nodup_iff.mpr h)).1
theorem Low.zo {O Z O' Z' : List Addr} (l : Low O Z O' Z') (h : O.Nodup) (zo : ∀ a ∈ Z, a ∉ O) : ∀ a ∈ Z', a ∉ O' := fun a ha hb => by
  have ho := l.own a hb
  obtain ⟨R, p, q⟩ := l
  rcases q a ha with z | z
  · exact (List.nodup_append.mp (p.nodup_iff.mpr h)).2.2 a hb a z rfl
  · exact zo a z ho
mutual
theorem Rep.low : ∀ {n m d v O Z}, Rep K CA H n d v O Z → m ≤ n → ∃ O' Z', Rep K CA H m d v O' Z' ∧ Low O Z O' Z'
  | _, _, _, _, _, _, .non, _ => ⟨_, _, .non, .refl⟩
  | _, _, _, _, _, _, .bl _, _ => ⟨_, _, .bl _, .refl⟩
  | _, _, _, _, _, _, .int _, _ => ⟨_, _, .int _, .refl⟩
  | _, _, _, _, _, _, .str _, _ => ⟨_, _, .str (by assumption), .refl⟩
  | _, _, _, _, _, _, .cls _, _ => ⟨_, _, .cls _, .refl⟩
  | _, _, _, _, _, _, .scr e, _ => ⟨_, _, .scr e, .refl⟩
  | _, _, _, _, _, _, .tup e r, h => let ⟨_, _, r', l⟩ := r.low h; ⟨_, _, .tup e r', l⟩
  | _, 0, _, _, _, _, .lstO e r, h => let ⟨_, _, r', l⟩ := r.low (Nat.zero_le _); ⟨_, _, .lstZ e r', l.cons0⟩
  | _, m + 1, _, _, _, _, .lstO e r, h => let ⟨_, _, r', l⟩ := r.low (Nat.le_of_succ_le_succ h); ⟨_, _, .lstO e r', l.cons1⟩
  | _, _, _, _, _, _, .lstZ e r, h => by obtain rfl := Nat.le_zero.mp h; exact ⟨_, _, .lstZ e r, .refl⟩
  | _, 0, _, _, _, _, .dctO e e1 r, h => let ⟨_, _, r', l⟩ := r.low (Nat.zero_le _); ⟨_, _, .dctZ (.inl e) e1 r', l.cons0⟩
  | _, m + 1, _, _, _, _, .dctO e e1 r, h => let ⟨_, _, r', l⟩ := r.low (Nat.le_of_succ_le_succ h); ⟨_, _, .dctO e e1 r', l.cons1⟩
  | _, _, _, _, _, _, .dctZ e e1 r, h => by obtain rfl := Nat.le_zero.mp h; exact ⟨_, _, .dctZ e e1 r, .refl⟩
  | _, 0, _, _, _, _, .insO e e1 r, h => let ⟨_, _, r', l⟩ := r.low (Nat.zero_le _); ⟨_, _, .insZ e e1 r', l.cons0⟩
  | _, m + 1, _, _, _, _, .insO e e1 r, h => let ⟨_, _, r', l⟩ := r.low (Nat.le_of_succ_le_succ h); ⟨_, _, .insO e e1 r', l.cons1⟩
  | _, _, _, _, _, _, .insZ e e1 r, h => by obtain rfl := Nat.le_zero.mp h; exact ⟨_, _, .insZ e e1 r, .refl⟩
theorem Reps.low : ∀ {n m ds vs O Z}, Reps K CA H n ds vs O Z → m ≤ n → ∃ O' Z', Reps K CA H m ds vs O' Z' ∧ Low O Z O' Z'
  | _, _, _, _, _, _, .nil, _ => ⟨_, _, .nil, .refl⟩
  | _, _, _, _, _, _, .cons r s, h => let ⟨_, _, r', l⟩ := r.low h; let ⟨_, _, s', l'⟩ := s.low h; ⟨_, _, .cons r' s', l.append l'⟩
end
mutual
/-- nothing that may change lies in it: it stands at each level, and nowhere -/
theorem Rep.imm : ∀ {n m d v O Z}, Rep K CA H n d v O Z → d.mdep = 0 → O = [] ∧ Z = [] ∧ Rep K CA H m d v [] []
  | _, _, _, _, _, _, .non, _ => ⟨rfl, rfl, .non⟩
  | _, _, _, _, _, _, .bl _, _ => ⟨rfl, rfl, .bl _⟩
  | _, _, _, _, _, _, .int _, _ => ⟨rfl, rfl, .int _⟩
  | _, _, _, _, _, _, .str _, _ => ⟨rfl, rfl, .str (by assumption)⟩
  | _, _, _, _, _, _, .cls _, _ => ⟨rfl, rfl, .cls _⟩
  | _, _, _, _, _, _, .scr e, _ => ⟨rfl, rfl, .scr e⟩
  | _, m, _, _, _, _, .tup e r, h => by
    rw [D.mdep] at h
    obtain ⟨h1, h2, r'⟩ := r.imm (m := m) h; exact ⟨h1, h2, .tup e r'⟩
  | _, _, _, _, _, _, .lstO e r, h => by rw [D.mdep] at h; omega
  | _, _, _, _, _, _, .lstZ e r, h => by rw [D.mdep] at h; omega
  | _, _, _, _, _, _, .dctO e e1 r, h => by rw [D.mdep] at h; omega
  | _, _, _, _, _, _, .dctZ e e1 r, h => by rw [D.mdep] at h; omega
  | _, _, _, _, _, _, .insO e e1 r, h => by rw [D.mdep] at h; omega
  | _, _, _, _, _, _, .insZ e e1 r, h => by rw [D.mdep] at h; omega
theorem Reps.imm : ∀ {n m ds vs O Z}, Reps K CA H n ds vs O Z → mdepL ds = 0 → O = [] ∧ Z = [] ∧ Reps K CA H m ds vs [] []
  | _, _, _, _, _, _, .nil, _ => ⟨rfl, rfl, .nil⟩
  | _, m, _, _, _, _, .cons r s, h => by
    rw [mdepL] at h
    obtain ⟨a1, a2, r'⟩ := r.imm (m := m) (by omega)
    obtain ⟨b1, b2, s'⟩ := s.imm (m := m) (by omega)
    subst a1; subst a2; subst b1; subst b2
    exact ⟨rfl, rfl, .cons (O := []) (Z := []) r' s'⟩
end
mutual
/-- owned to its depth: nothing of others in it -/
theorem Rep.full : ∀ {n d v O Z}, Rep K CA H n d v O Z → d.mdep ≤ n → Z = []
  | _, _, _, _, _, .non, _ => rfl
  | _, _, _, _, _, .bl _, _ => rfl
  | _, _, _, _, _, .int _, _ => rfl
  | _, _, _, _, _, .str _, _ => rfl
  | _, _, _, _, _, .cls _, _ => rfl
  | _, _, _, _, _, .scr _, _ => rfl
  | _, _, _, _, _, .tup e r, h => r.full (by rw [D.mdep] at h; exact h)
  | _, _, _, _, _, .lstO e r, h => r.full (by rw [D.mdep] at h; omega)
  | _, _, _, _, _, .lstZ e r, h => by rw [D.mdep] at h; omega
  | _, _, _, _, _, .dctO e e1 r, h => r.full (by rw [D.mdep] at h; omega)
  | _, _, _, _, _, .dctZ e e1 r, h => by rw [D.mdep] at h; omega
  | _, _, _, _, _, .insO e e1 r, h => r.full (by rw [D.mdep] at h; omega)
  | _, _, _, _, _, .insZ e e1 r, h => by rw [D.mdep] at h; omega
theorem Reps.full : ∀ {n ds vs O Z}, Reps K CA H n ds vs O Z → mdepL ds ≤ n → Z = []
  | _, _, _, _, _, .nil, _ => rfl
  | _, _, _, _, _, .cons r s, h => by
    rw [mdepL] at h
    rw [r.full (by omega), s.full (by omega)]; rfl
end
mutual
/-- at the level nought nothing is owned -/
theorem Rep.zero : ∀ {d v O Z}, Rep K CA H 0 d v O Z → O = []
  | _, _, _, _, .non => rfl
  | _, _, _, _, .bl _ => rfl
  | _, _, _, _, .int _ => rfl
  | _, _, _, _, .str _ => rfl
  | _, _, _, _, .cls _ => rfl
  | _, _, _, _, .scr _ => rfl
  | _, _, _, _, .tup _ r => r.zero
  | _, _, _, _, .lstZ _ r => r.zero
  | _, _, _, _, .dctZ _ _ r => r.zero
  | _, _, _, _, .insZ _ _ r => r.zero
theorem Reps.zero : ∀ {ds vs O Z}, Reps K CA H 0 ds vs O Z → O = []
  | _, _, _, _, .nil => rfl
  | _, _, _, _, .cons r s => by rw [r.zero, s.zero]; rfl
end
theorem Reps.length : ∀ {n ds vs O Z}, Reps K CA H n ds vs O Z → ds.length = vs.length
  | _, _, _, _, _, .nil => rfl
  | _, _, _, _, _, .cons _ s => by simp [s.length]
theorem Reps.append : ∀ {n ds vs O Z es us P Y}, Reps K CA H n ds vs O Z → Reps K CA H n es us P Y → Reps K CA H n (ds ++ es) (vs ++ us) (O ++ P) (Z ++ Y)
  | _, _, _, _, _, _, _, _, _, .nil, t => t
  | _, _, _, _, _, _, _, _, _, .cons r s, t => by
    have := Reps.cons r (s.append t)
    simpa [List.append_assoc] using this
/-- the i-th of them -/
theorem Reps.get : ∀ {n ds vs O Z} (i : Nat) (d : D), Reps K CA H n ds vs O Z → ds[i]? = some d →
    ∃ v A B A' B' O1 Z1, vs[i]? = some v ∧ Rep K CA H n d v O1 Z1 ∧ O = A ++ O1 ++ B ∧ Z = A' ++ Z1 ++ B' ∧
      Reps K CA H n (ds.take i) (vs.take i) A A' ∧ Reps K CA H n (ds.drop (i + 1)) (vs.drop (i + 1)) B B'
  | _, _, _, _, _, _, _, .nil, h => by simp at h
  | _, _, _, _, _, 0, d, .cons r s, h => by
    simp at h; subst h
    exact ⟨_, [], _, [], _, _, _, rfl, r, rfl, rfl, .nil, by simpa using s⟩
  | _, _, _, _, _, i + 1, d, .cons (O := O) (Z := Z) r s, h => by
    obtain ⟨v, A, B, A', B', O1, Z1, e, q, h1, h2, q1, q2⟩ := s.get i d (by simpa using h)
    refine ⟨v, O ++ A, B, Z ++ A', B', O1, Z1, by simpa using e, q, by rw [h1]; simp, by rw [h2]; simp, ?_, by simpa using q2⟩
    simpa using Reps.cons r q1
theorem Reps.get0 {ds vs O Z} (i : Nat) (d : D) (r : Reps K CA H 0 ds vs O Z) (h : ds[i]? = some d) : ∃ v Z1, vs[i]? = some v ∧ Rep K CA H 0 d v [] Z1 ∧ ∀ a ∈ Z1, a ∈ Z := by
  obtain ⟨v, A, B, A', B', O1, Z1, e, q, h1, h2, _, _⟩ := r.get i d h
  have := q.zero
  subst this
  exact ⟨v, Z1, e, q, fun a ha => by rw [h2]; simp [ha]⟩
end
end Vy

namespace Vy
open PySem PySem.Spec PyProof.Rows L2

/-! ## The language of values -/
inductive BO | add | sub | mul | fdv | mod | pow
  deriving DecidableEq
inductive CO | eq | ne | lt | le | gt | ge | isin | notin | is_ | isnot
  deriving DecidableEq
inductive Bi | len | all | any | sum | min | max | maxd | sorted | str | int | bool | ord | list | tuple | dict | setlen
  deriving DecidableEq
inductive Me | join | split | partition | rpartition | replace | find | lstrip | rstrip | strip | isalpha | index | count | get
  deriving DecidableEq
inductive IK | str | int | bool | tuple | list | dict | cls (c : Nat)
  deriving DecidableEq
inductive Tg | one (i : Nat) | tup (is : List Nat)
inductive C where
  | cst (d : D) | var (i : Nat) | glb (g : Nat)
  | bin (o : BO) (a b : C) | cmp (o : CO) (a b : C) | chn (o p : CO) (a b c : C)
  | not (a : C) | neg (a : C) | and (a b : C) | or (a b : C) | ife (t a b : C)
  | tup (es : List C) | lst (es : List C) | dct (ks es : List C)
  | sub (a i : C) | slc (a : C) (lo hi : Option C) | rev (a : C)
  | cal (f : Nat) (es : List C) | bif (f : Bi) (es : List C) | mth (m : Me) (o : C) (es : List C)
  | fld (a : C) (f : Cs) | isi (a : C) (k : IK)
  | lc (it : C) (tg : Tg) (t : Option C) (e : C)
  | rng (es : List C) | enu (e : C) | zip (a b : C) | itm (e : C) | rvs (e : C)

structure Exn where
  c : Nat
  fs : List Cs
  vs : List D
inductive Out (α : Type) | ok (a : α) | exc (e : Exn) | bad
def Out.bind {α β : Type} (x : Out α) (f : α → Out β) : Out β := match x with
  | .ok a => f a
  | .exc e => .exc e
  | .bad => .bad
@[simp] theorem Out.bind_ok {α β : Type} (a : α) (f : α → Out β) : (Out.ok a).bind f = f a := id rfl
@[simp] theorem Out.bind_exc {α β : Type} (e : Exn) (f : α → Out β) : (Out.exc e).bind f = .exc e := id rfl
@[simp] theorem Out.bind_bad {α β : Type} (f : α → Out β) : (Out.bad : Out α).bind f = .bad := id rfl
theorem Out.bind_eq_ok {α β : Type} {x : Out α} {f : α → Out β} {b : β} (h : x.bind f = .ok b) : ∃ a, x = .ok a ∧ f a = .ok b := by
  cases x with
  | ok a => exact ⟨a, rfl, h⟩
  | exc e => cases h
  | bad => cases h
def Out.of {α : Type} : Option α → Out α
  | some a => .ok a
  | none => .bad
@[simp] theorem Out.of_some {α : Type} (a : α) : Out.of (some a) = .ok a := id rfl
@[simp] theorem Out.of_none {α : Type} : (Out.of (none : Option α)) = .bad := id rfl
/-- go on only if -/
def gd (c : Prop) [Decidable c] {α : Type} (x : Out α) : Out α := if c then x else .bad
theorem gd_pos {c : Prop} [Decidable c] {α : Type} {x : Out α} (h : c) : gd c x = x := if_pos h
theorem gd_ok {c : Prop} [Decidable c] {α : Type} {x : Out α} {a : α} (h : gd c x = .ok a) : c ∧ x = .ok a := by
  unfold gd at h; split at h
  · exact ⟨by assumption, h⟩
  · cases h

/-! ### operations on values -/
mutual
def D.dep : D → Nat
  | .tup xs => depL xs + 1
  | .lst xs => depL xs + 1
  | .dct _ vs => depL vs + 1
  | _ => 0
def depL : List D → Nat
  | [] => 0
  | d :: r => max d.dep (depL r)
end
def lookD [BEq α] (k : α) : List α → List D → Option D
  | j :: ks, v :: vs => if j == k then some v else lookD k ks vs
  | _, _ => none
mutual
/-- == -/
def pyEq : D → D → Bool
  | .non, .non => true
  | .bl a, .bl b => a == b
  | .bl a, .int j => (if a then 1 else 0) == j
  | .int i, .bl b => i == (if b then 1 else 0)
  | .int i, .int j => i == j
  | .str s, .str t => s == t
  | .tup xs, .tup ys => pyEqL xs ys
  | .lst xs, .lst ys => pyEqL xs ys
  | _, _ => false
def pyEqL : List D → List D → Bool
  | [], [] => true
  | x :: xs, y :: ys => pyEq x y && pyEqL xs ys
  | _, _ => false
end
mutual
/-- things whose == we know: no dicts, no instances -/
def eqOk : D → Bool
  | .tup xs => eqOkL xs
  | .lst xs => eqOkL xs
  | .dct _ _ => false
  | .ins _ _ _ => false
  | .cls _ => false
  | .scr _ => false
  | _ => true
def eqOkL : List D → Bool
  | [] => true
  | d :: r => eqOk d && eqOkL r
end
/-- sizes that the machine keeps -/
def SZ : Nat := 16777216
def truth : D → Option Bool
  | .non => some false
  | .bl b => some b
  | .int i => some (i != 0)
  | .str s => if s.length ≤ SZ then some (!s.isEmpty) else none
  | .tup xs => some (!xs.isEmpty)
  | .lst xs => some (!xs.isEmpty)
  | _ => none
/-- the level of what is newly made of these -/
def lvL : List (D × Nat) → Nat
  | [] => 9
  | (d, n) :: r => if d.mdep = 0 then lvL r else min n (lvL r)
/-- a new list of items of others -/
def lv1 (xs : List D) : Nat := if mdepL xs = 0 then 9 else 1
def ix (n : Nat) (i : Int) : Option Nat := if 0 ≤ i then (if i < n then some i.toNat else none) else if -(n : Int) ≤ i then some (i + n).toNat else none
def at? {α : Type} (xs : List α) (i : Int) : Option α := (ix xs.length i).bind fun j => xs[j]?
/-- a slice's end -/
def sx (n d : Nat) : Option Int → Nat
  | none => d
  | some i => if 0 ≤ i then min i.toNat n else ((n : Int) + i).toNat
def cut {α : Type} (xs : List α) (lo hi : Option Int) : List α := (xs.drop (sx xs.length 0 lo)).take (sx xs.length xs.length hi - sx xs.length 0 lo)
def strsOf : List D → Option (List Cs)
  | [] => some []
  | .str s :: r => (strsOf r).map (s :: ·)
  | _ :: _ => none
def intsOf : List D → Option (List Int)
  | [] => some []
  | .int i :: r => (intsOf r).map (i :: ·)
  | _ :: _ => none
def boolsOf : List D → Option (List Bool)
  | [] => some []
  | .bl b :: r => (boolsOf r).map (b :: ·)
  | _ :: _ => none
def itemsOf : D → Option (List D)
  | .scr ns => some (ns.map .int)
  | .lst xs => some xs
  | .tup xs => some xs
  | .str s => some (s.map fun c => .str [c])
  | _ => none
def seqOf : D → Option (List D)
  | .scr ns => some (ns.map .int)
  | .lst xs => some xs
  | .tup xs => some xs
  | _ => none
def lsqOf : D → Option (List D)
  | .scr ns => some (ns.map .int)
  | .lst xs => some xs
  | _ => none
/-- a sub at the place or behind it: where it stands -/
def findC (sub : Cs) : Nat → Cs → Option Nat
  | k, [] => if sub = [] then some k else none
  | k, c :: r => if sub.isPrefixOf (c :: r) then some k else findC sub (k + 1) r
def codesOfInt (i : Int) : Cs := TL.tl (Str.ofString (toString i))
def flatD : D → Bool
  | .non => true
  | .bl _ => true
  | .int _ => true
  | .str _ => true
  | _ => false
def powOk (i j : Int) : Prop := 0 ≤ j ∧ j ≤ 1000000 ∧ i.natAbs < 2 ^ 64
instance (i j : Int) : Decidable (powOk i j) := inferInstanceAs (Decidable (_ ∧ _ ∧ _))
def mulOk (i j : Int) : Prop := (-(2 ^ 64) < i ∧ i < 2 ^ 64) ∨ (-(2 ^ 64) < j ∧ j < 2 ^ 64)
instance (i j : Int) : Decidable (mulOk i j) := inferInstanceAs (Decidable (_ ∨ _))
def go (c : Prop) [Decidable c] {α : Type} (x : Option α) : Option α := if c then x else none
theorem go_pos {c : Prop} [Decidable c] {α : Type} {x : Option α} (h : c) : go c x = x := if_pos h
theorem go_some {c : Prop} [Decidable c] {α : Type} {x : Option α} {a : α} (h : go c x = some a) : c ∧ x = some a := by
  unfold go at h; split at h
  · exact ⟨by assumption, h⟩
  · cases h
def binD : BO → D × Nat → D × Nat → Option (D × Nat)
  | .add, (.int i, _), (.int j, _) => some (.int (i + j), 9)
  | .add, (.str s, _), (.str t, _) => go (s.length + t.length ≤ SZ) (some (.str (s ++ t), 9))
  | .add, (.lst xs, _), (.lst ys, _) => go (xs.length + ys.length ≤ SZ) (some (.lst (xs ++ ys), lv1 (xs ++ ys)))
  | .add, (.tup xs, _), (.tup ys, _) => go (xs ≠ [] ∧ ys ≠ [] ∧ xs.length + ys.length ≤ SZ ∧ mdepL (xs ++ ys) = 0) (some (.tup (xs ++ ys), 9))
  | .sub, (.int i, _), (.int j, _) => some (.int (i - j), 9)
  | .mul, (.int i, _), (.int j, _) => go (mulOk i j) (some (.int (i * j), 9))
  | .mul, (.str s, _), (.int j, _) => go (-(2 ^ 62) ≤ j ∧ j < 2 ^ 62 ∧ s.length * j.toNat ≤ SZ) (some (.str (List.replicate j.toNat s).flatten, 9))
  | .mul, (.lst xs, _), (.int j, _) => go (-(2 ^ 62) ≤ j ∧ j < 2 ^ 62 ∧ xs.length * j.toNat ≤ SZ) (some (.lst (List.replicate j.toNat xs).flatten, lv1 xs))
  | .fdv, (.int i, _), (.int j, _) => go (j ≠ 0 ∧ j.natAbs < 1073741824) (some (.int (i.fdiv j), 9))
  | .mod, (.int i, _), (.int j, _) => go (j ≠ 0) (some (.int (i.fmod j), 9))
  | .pow, (.int i, _), (.int j, _) => go (powOk i j) (some (.int (i ^ j.toNat), 9))
  | _, _, _ => none
/-- in: a sign or more in a text; a thing in a list, tuple, dict -/
def inD (d : D) : D → Option Bool
  | .str t => match d with
    | .str s => some (findC s 0 t).isSome
    | _ => none
  | .lst ys => go (eqOk d = true ∧ eqOkL ys = true ∧ min (depL ys) d.dep ≤ 60) (some (ys.any fun y => pyEq y d))
  | .tup ys => go (eqOk d = true ∧ eqOkL ys = true ∧ min (depL ys) d.dep ≤ 60) (some (ys.any fun y => pyEq y d))
  | .dct ks _ => go ((vKey d).isSome = true) (some (ks.any fun k => pyEq k d))
  | _ => none
def cmpD : CO → D → D → Option Bool
  | .eq, d, e => go (eqOk d = true ∧ eqOk e = true ∧ min d.dep e.dep ≤ 60) (some (pyEq d e))
  | .ne, d, e => go (eqOk d = true ∧ eqOk e = true ∧ min d.dep e.dep ≤ 60) (some (!pyEq d e))
  | .lt, .int i, .int j => some (decide (i < j))
  | .le, .int i, .int j => some (decide (i ≤ j))
  | .gt, .int i, .int j => some (decide (j < i))
  | .ge, .int i, .int j => some (decide (j ≤ i))
  | .lt, .str i, .str j => some (decide (i < j))
  | .le, .str i, .str j => some (!decide (j < i))
  | .gt, .str i, .str j => some (decide (j < i))
  | .ge, .str i, .str j => some (!decide (i < j))
  | .isin, d, e => inD d e
  | .notin, d, e => (inD d e).bind fun b => some (!b)
  | .is_, d, .non => some (match d with | .non => true | _ => false)
  | .isnot, d, .non => some (match d with | .non => false | _ => true)
  | _, _, _ => none
def subD : D → D → Option (D × Nat)
  | .scr ns, .int i => ((at? ns i).map fun n => (.int n, 9))
  | .lst xs, .int i => ((at? xs i).map (·, 0))
  | .tup xs, .int i => ((at? xs i).map (·, 0))
  | .str s, .int i => go (s.length ≤ SZ) ( ((at? s i).map fun c => (.str [c], 9)))
  | .dct ks vs, k => go ((vKey k).isSome = true) ( (((ks.zip vs).find? fun p => pyEq p.1 k).map fun p => (p.2, 0)))
  | _, _ => none
def slcD (d : D) (lo hi : Option Int) : Option (D × Nat) := match d with
  | .scr ns => some (.lst ((cut ns lo hi).map .int), 9)
  | .lst xs => some (.lst (cut xs lo hi), lv1 xs)
  | .tup xs => go (mdepL xs = 0) (some (.tup (cut xs lo hi), 9))
  | .str s => go (s.length ≤ SZ) (some (.str (cut s lo hi), 9))
  | _ => none
def isaD (cm : Nat → List Nat) (d : D) : IK → Bool
  | .str => match d with | .str _ => true | _ => false
  | .int => match d with | .int _ => true | .bl _ => true | _ => false
  | .bool => match d with | .bl _ => true | _ => false
  | .tuple => match d with | .tup _ => true | _ => false
  | .list => match d with | .lst _ => true | .scr _ => true | _ => false
  | .dict => match d with | .dct _ _ => true | _ => false
  | .cls c => match d with | .ins c' _ _ => (cm c').contains c | _ => false
/-- the kinds of things that isinstance is told of -/
def isiOk (d : D) (k : IK) : Bool := match d, k with
  | .ins _ _ _, _ => false
  | .cls _, _ => false
  | _, .cls _ => false
  | _, _ => true
def minI : Int → List Int → Int
  | m, [] => m
  | m, x :: r => minI (if x < m then x else m) r
def maxI : Int → List Int → Int
  | m, [] => m
  | m, x :: r => maxI (if m < x then x else m) r
def minS : Cs → List Cs → Cs
  | m, [] => m
  | m, x :: r => minS (if x < m then x else m) r
def leS (a b : Cs) : Bool := !decide (b < a)
def bifD : Bi → List (D × Nat) → Option (D × Nat)
  | .len, [(.str s, _)] => go (s.length ≤ SZ) (some (.int s.length, 9))
  | .len, [(.scr xs, _)] => some (.int xs.length, 9)
  | .len, [(.lst xs, _)] => some (.int xs.length, 9)
  | .len, [(.tup xs, _)] => some (.int xs.length, 9)
  | .len, [(.dct ks _, _)] => some (.int ks.length, 9)
  | .all, [(.lst xs, _)] => ((boolsOf xs).map fun bs => (.bl (bs.all id), 9))
  | .any, [(.lst xs, _)] => ((boolsOf xs).map fun bs => (.bl (bs.any id), 9))
  | .sum, [(.lst xs, _)] => ((intsOf xs).map fun is => (.int is.sum, 9))
  | .min, [(.lst xs, _)] => match intsOf xs, strsOf xs with
    | some (i :: is), _ => some (.int (minI i is), 9)
    | none, some (s :: ss) => some (.str (minS s ss), 9)
    | _, _ => none
  | .min, [(.tup xs, _)] => match strsOf xs with
    | some (s :: ss) => some (.str (minS s ss), 9)
    | _ => none
  | .max, [(.lst xs, _)] => match intsOf xs with
    | some (i :: is) => some (.int (maxI i is), 9)
    | _ => none
  | .maxd, [(.lst xs, _)] => match intsOf xs with
    | some (i :: is) => some (.int (maxI i is), 9)
    | some [] => some (.int 0, 9)
    | _ => none
  | .min, [(.int i, _), (.int j, _)] => some (.int (if j < i then j else i), 9)
  | .max, [(.int i, _), (.int j, _)] => some (.int (if i < j then j else i), 9)
  | .sorted, [(d, _)] => match d with
    | .str _ => none
    | _ => ((itemsOf d).bind fun xs => (strsOf xs).map fun ss => (.lst ((ss.mergeSort leS).map .str), 9))
  | .str, [(.int i, _)] => go (i.natAbs.log2 < 1920) (some (.str (codesOfInt i), 9))
  | .int, [(.int i, _)] => some (.int i, 9)
  | .int, [(.bl b, _)] => some (.int (if b then 1 else 0), 9)
  | .bool, [(.int i, _)] => some (.bl (i != 0), 9)
  | .bool, [(.bl b, _)] => some (.bl b, 9)
  | .ord, [(.str [c], _)] => some (.int c, 9)
  | .list, [(.tup xs, _)] => some (.lst xs, lv1 xs)
  | .list, [(.lst xs, _)] => some (.lst xs, lv1 xs)
  | .list, [(.dct ks _, _)] => some (.lst ks, lv1 ks)
  | .list, [(.scr ns, _)] => some (.lst (ns.map .int), lv1 (ns.map .int))
  | .tuple, [(.lst xs, _)] => go (mdepL xs = 0) (some (.tup xs, 9))
  | .tuple, [(.tup xs, n)] => some (.tup xs, n)
  | _, _ => none
def methD : Me → D × Nat → List (D × Nat) → Option (D × Nat)
  | .join, (.str s, _), [(d, _)] => ((seqOf d).bind fun xs => (strsOf xs).bind fun ps => if (ps.map (·.length)).sum + ps.length * s.length ≤ SZ then some (.str (TL.joinL s ps), 9) else none)
  | .split, (.str s, _), [(.str p, _)] => go (p ≠ [] ∧ p.all (· < 256) = true ∧ s.length + 2 ≤ SZ) (some (.lst ((TL.spl p 0 [] s).map .str), 9))
  | .partition, (.str s, _), [(.str p, _)] => go (p ≠ [] ∧ s.length ≤ SZ) (match TL.par p [] s with
    | some (a, b) => some (.tup [.str a, .str p, .str b], 9)
    | none => some (.tup [.str s, .str [], .str []], 9))
  | .replace, (.str s, _), [(.str [p], _), (.str [q], _)] => go (s.length ≤ SZ) (some (.str (s.map fun c => if c = p then q else c), 9))
  | .find, (.str s, _), [(.str p, _)] => some (.int (match findC p 0 s with | some k => (k : Int) | none => -1), 9)
  | .find, (.str s, _), [(.str p, _), (.int i, _)] => go (0 ≤ i ∧ i ≤ s.length) (some (.int (match findC p i.toNat (s.drop i.toNat) with | some k => (k : Int) | none => -1), 9))
  | .lstrip, (.str s, _), [(.str [p], _)] => go (s.length ≤ SZ) (some (.str (s.dropWhile (· == p)), 9))
  | .rstrip, (.str s, _), [(.str [p], _)] => go (s.length ≤ SZ) (some (.str (s.reverse.dropWhile (· == p)).reverse, 9))
  | .index, (.lst xs, _), [(.str s, _)] => ((strsOf xs).bind fun ss => (ss.findIdx? (· == s)).map fun k => (.int k, 9))
  | .count, (.lst xs, _), [(.str s, _)] => ((strsOf xs).map fun ss => (.int (ss.count s), 9))
  | .get, (.dct ks vs, _), [(k, _)] => go ((vKey k).isSome = true) (some (match (ks.zip vs).find? fun p => pyEq p.1 k with | some p => (p.2, 0) | none => (.non, 9)))
  | .get, (.dct ks vs, _), [(k, _), (d, n)] => go ((vKey k).isSome = true) (some (match (ks.zip vs).find? fun p => pyEq p.1 k with | some p => (p.2, 0) | none => (d, n)))
  | _, _, _ => none

/-- whose method it is -/
def recvOk (m : Me) (d : D) : Bool := match m, d with
  | .index, .lst _ => true
  | .count, .lst _ => true
  | .get, .dct _ _ => true
  | .index, _ => false
  | .count, _ => false
  | .get, _ => false
  | _, .str _ => true
  | _, _ => false
/-- keys and values by turns -/
def unpair : List (D × Nat) → Option (List D × List (D × Nat))
  | [] => some ([], [])
  | k :: v :: r => (unpair r).map fun p => (k.1 :: p.1, v :: p.2)
  | _ => none
def keysOk (ks : List D) : Bool := (ks.map vKey).all (·.isSome) && decide ((ks.map vKey).Nodup) && decide (ks.length ≤ 15)
def dispD (ps : List (D × Nat)) : Option (D × Nat) := (unpair ps).bind fun r => go (keysOk r.1 = true) (some (.dct r.1 (r.2.map (·.1)), lvL r.2 + 1))
/-! ### evaluation -/
abbrev Env := List (Option (D × Nat))
def norm (p : D × Nat) : D × Nat := if p.1.mdep = 0 then (p.1, 9) else p
def setV (ρ : Env) (i : Nat) (p : D × Nat) : Env := ρ.set i (some (norm p))
/-- a loop's target takes an item of others -/
def Tg.put (ρ : Env) : Tg → D → Out Env
  | .one i, d => .ok (setV ρ i (d, 0))
  | .tup is, .tup ds => gd (is.length = ds.length) (.ok ((is.zip ds).foldl (fun r p => setV r p.1 (p.2, 0)) ρ))
  | .tup _, _ => .bad
def rangeD (a b : Int) : List D := (List.range (b - a).toNat).map fun k => .int (a + (k : Nat))
def rangeD3 (a b c : Int) : List D := (List.range (if 0 < c then ((b - a + c - 1) / c).toNat else ((a - b + (-c) - 1) / (-c)).toNat)).map fun k => .int (a + (k : Nat) * c)
def rngD : List D → Out (List D)
  | [.int b] => gd (-(2 ^ 62) ≤ b ∧ b < 2 ^ 62) (.ok (rangeD 0 b))
  | [.int a, .int b] => gd (-(2 ^ 62) ≤ a ∧ a < 2 ^ 62 ∧ -(2 ^ 62) ≤ b ∧ b < 2 ^ 62) (.ok (rangeD a b))
  | [.int a, .int b, .int c] => gd (-(2 ^ 61) ≤ a ∧ a < 2 ^ 61 ∧ -(2 ^ 61) ≤ b ∧ b < 2 ^ 61 ∧ c ≠ 0 ∧ c.natAbs < 1073741824) (.ok (rangeD3 a b c))
  | _ => .bad
def enumD (xs : List D) : List D := (xs.zipIdx).map fun p => .tup [.int (p.2 : Nat), p.1]
def zipD (xs ys : List D) : List D := (xs.zip ys).map fun p => .tup [p.1, p.2]
structure Glo where
  gv : Nat → Option D
  cm : Nat → List Nat
/-- a comprehension's turns; nothing may be raised in them -/
def compL (f : D → Out (Option (D × Nat))) : List D → Out (List (D × Nat))
  | [] => .ok []
  | x :: xs => match f x with
    | .ok (some y) => (compL f xs).bind fun ys => gd (ys.length + 1 ≤ SZ) (.ok (y :: ys))
    | .ok none => compL f xs
    | _ => .bad
section
variable (G : Glo) (cf : Nat → List D → Out (D × Nat))
mutual
def ev (ρ : Env) : C → Out (D × Nat)
  | .cst d => .ok (d, 9)
  | .var i => .of ((ρ[i]?).bind id |>.map fun p => (p.1, 0))
  | .glb g => .of ((G.gv g).map fun d => (d, 9))
  | .bin o a b => (ev ρ a).bind fun x => (ev ρ b).bind fun y => .of (binD o x y)
  | .cmp o a b => (ev ρ a).bind fun x => (ev ρ b).bind fun y => (Out.of (cmpD o x.1 y.1)).bind fun r => .ok (.bl r, 9)
  | .chn o p a b c => (ev ρ a).bind fun x => (ev ρ b).bind fun y => (Out.of (cmpD o x.1 y.1)).bind fun r => if r = true then (ev ρ c).bind fun z => (Out.of (cmpD p y.1 z.1)).bind fun q => .ok (.bl q, 9) else .ok (.bl false, 9)
  | .not a => (ev ρ a).bind fun x => (Out.of (truth x.1)).bind fun b => .ok (.bl (!b), 9)
  | .neg a => (ev ρ a).bind fun x => match x.1 with | .int i => .ok (.int (-i), 9) | _ => .bad
  | .and a b => (ev ρ a).bind fun x => (Out.of (truth x.1)).bind fun r => if r = true then ev ρ b else .ok x
  | .or a b => (ev ρ a).bind fun x => (Out.of (truth x.1)).bind fun r => if r = true then .ok x else ev ρ b
  | .ife t a b => (ev ρ t).bind fun x => (Out.of (truth x.1)).bind fun r => if r = true then ev ρ a else ev ρ b
  | .tup es => (evs ρ es).bind fun ps => gd (ps.length ≤ SZ) (.ok (.tup (ps.map (·.1)), lvL ps))
  | .lst es => (evs ρ es).bind fun ps => gd (ps.length ≤ SZ) (.ok (.lst (ps.map (·.1)), lvL ps + 1))
  | .dct _ es => (evs ρ es).bind fun ps => .of (dispD ps)
  | .sub a i => (ev ρ a).bind fun x => (ev ρ i).bind fun y => .of (subD x.1 y.1)
  | .slc a lo hi => (ev ρ a).bind fun x => (evo ρ lo).bind fun l => (evo ρ hi).bind fun h => .of (slcD x.1 l h)
  | .rev a => (ev ρ a).bind fun x => match x.1 with | .str s => gd (s.length ≤ SZ) (.ok (.str s.reverse, 9)) | _ => .bad
  | .cal f es => (evs ρ es).bind fun ps => cf f (ps.map (·.1))
  | .bif f es => (evs ρ es).bind fun ps => .of (bifD f ps)
  | .mth m o es => (ev ρ o).bind fun x => gd (recvOk m x.1 = true) ((evs ρ es).bind fun ps => .of (methD m x ps))
  | .fld a f => (ev ρ a).bind fun x => match x.1 with | .ins _ fs vs => .of ((lookD f fs vs).map (·, 0)) | _ => .bad
  | .isi a k => (ev ρ a).bind fun x => gd (isiOk x.1 k = true) (.ok (.bl (isaD G.cm x.1 k), 9))
  | .lc it tg t e => (ev ρ it).bind fun x => (Out.of (itemsOf x.1)).bind fun xs =>
      (compL (fun d => (tg.put ρ d).bind fun ρ' => (evt ρ' t).bind fun b => if b = true then (ev ρ' e).bind fun y => .ok (some y) else .ok none) xs).bind fun ps => .ok (.lst (ps.map (·.1)), lvL ps + 1)
  -- what is walked alone
  | .rng es => (evs ρ es).bind fun ps => (rngD (ps.map (·.1))).bind fun xs => .ok (.lst xs, 9)
  | .enu e => (ev ρ e).bind fun x => .of ((lsqOf x.1).map fun xs => (.lst (enumD xs), x.2))
  | .zip a b => (ev ρ a).bind fun x => (ev ρ b).bind fun y => .of ((seqOf x.1).bind fun xs => (seqOf y.1).map fun ys => (.lst (zipD xs ys), 0))
  | .itm e => (ev ρ e).bind fun x => match x.1 with | .dct ks vs => .ok (.lst (zipD ks vs), 0) | _ => .bad
  | .rvs e => (ev ρ e).bind fun x => match x.1 with | .lst xs => .ok (.lst xs.reverse, 0) | _ => .bad
def evs (ρ : Env) : List C → Out (List (D × Nat))
  | [] => .ok []
  | e :: es => (ev ρ e).bind fun x => (evs ρ es).bind fun xs => .ok (x :: xs)
def evo (ρ : Env) : Option C → Out (Option Int)
  | none => .ok none
  | some e => (ev ρ e).bind fun x => match x.1 with | .int i => .ok (some i) | _ => .bad
def evt (ρ : Env) : Option C → Out Bool
  | none => .ok true
  | some c => (ev ρ c).bind fun x => .of (truth x.1)
end
end
end Vy

namespace Vy
open PySem PySem.Spec
open PyProof.Rows hiding St
open L2

/-! ## Roots, slots, values come to -/
structure Root where
  d : D
  n : Nat
  v : V
  O : List Addr
  Z : List Addr
abbrev Slots := List (Option Root)
def envOf (S : Slots) : Env := S.map (·.map fun r => (r.d, r.n))

section
variable (K : PySem.W.Frag) (CA : Nat → Addr)
/-- the slots as data, as they lie in H -/
structure SRep (S : Slots) (σ : St) (H : Hp) : Prop where
  len : S.length = σ.length
  rep : ∀ (i : Nat) (r : Root), S[i]? = some (some r) → σ[i]? = some (some r.v) ∧ Rep K CA H r.n r.d r.v r.O r.Z
/-- the addresses that lie in some slots -/
def Nod (S : Slots) (is : List Nat) (a : Addr) : Prop := ∃ i ∈ is, ∃ r : Root, S[i]? = some (some r) ∧ a ∈ r.O ++ r.Z
/-- a value that has come: all that stood stands; its own things are new -/
structure PVal (M : Addr → Prop) (H H' : Hp) (d : D) (n : Nat) (v : V) (O Z : List Addr) : Prop where
  same : Same H H'
  rep : Rep K CA H' n d v O Z
  fresh : ∀ a ∈ O, H a = none
  nd : O.Nodup
  zin : ∀ a ∈ Z, H a = none ∨ M a
  zo : ∀ a ∈ Z, a ∉ O
/-- an exception's class and its dict -/
def ExRep (e : Exn) (cls : Value) (dd : Option Addr) (H : Hp) : Prop :=
  cls = .ref (CA e.c) ∧ ((e.fs = [] ∧ e.vs = []) ∨ ∃ dx fvs, dd = some dx ∧ H dx = some (exd dx fvs) ∧ fvs.map (·.1) = e.fs.map mkS ∧ Reps K CA H 0 e.vs (fvs.map (·.2)) [] [])
def Den (W : WX) (M : Addr → Prop) (o : Out (D × Nat)) (σ : St) (H : Hp) (Q : VK) : Prop :=
  match o with
  | .ok p => ∀ v H' O Z, PVal K CA M H H' p.1 p.2 v O Z → Q v H'
  | .exc e => ∀ cls dd H', Same H H' → ExRep K CA e cls dd H' → W cls dd σ H'
  | .bad => False
end
section
variable {K : PySem.W.Frag} {CA : Nat → Addr} {S : Slots} {σ : St} {H H0 H1 H2 H' : Hp} {W : WX} {M M' Ma : Addr → Prop} {d : D} {n : Nat} {v : V} {O Z : List Addr}
theorem SRep.same (r : SRep K CA S σ H) (s : Same H H') : SRep K CA S σ H' := ⟨r.len, fun i q e => ⟨(r.rep i q e).1, (r.rep i q e).2.same s⟩⟩
theorem Nod.mono {is js : List Nat} (h : ∀ i ∈ is, i ∈ js) {a : Addr} : Nod S is a → Nod S js a := fun ⟨i, hi, r, e, q⟩ => ⟨i, h i hi, r, e, q⟩
theorem same_none (s : Same H H') {a : Addr} (h : H' a = none) : H a = none := Same.free s h
theorem PVal.mono (h : ∀ a, M a → M' a) (p : PVal K CA M H H' d n v O Z) : PVal K CA M' H H' d n v O Z := ⟨p.same, p.rep, p.fresh, p.nd, fun a q => (p.zin a q).imp id (h a), p.zo⟩
/-- further on -/
theorem PVal.later (p : PVal K CA M H H1 d n v O Z) (s : Same H1 H2) : PVal K CA M H H2 d n v O Z := ⟨p.same.trans s, p.rep.same s, p.fresh, p.nd, p.zin, p.zo⟩
/-- from earlier on -/
theorem PVal.ahead (s : Same H H1) (p : PVal K CA M H1 H2 d n v O Z) : PVal K CA M H H2 d n v O Z := ⟨s.trans p.same, p.rep, fun a h => same_none s (p.fresh a h), p.nd, fun a q => (p.zin a q).imp (same_none s) id, p.zo⟩
theorem PVal.imm (s : Same H H') (r : Rep K CA H' n d v [] []) : PVal K CA M H H' d n v [] [] := ⟨s, r, by simp, by simp, by simp, by simp⟩
theorem PVal.low (p : PVal K CA M H H' d n v O Z) {m : Nat} (h : m ≤ n) : ∃ O' Z', PVal K CA M H H' d m v O' Z' ∧ Low O Z O' Z' := by
  obtain ⟨O', Z', r, l⟩ := p.rep.low h
  refine ⟨O', Z', ⟨p.same, r, fun a q => p.fresh a (l.own a q), l.nd p.nd, fun a q => ?_, l.zo p.nd p.zo⟩, l⟩
  exact (l.all a q).elim (fun z => .inl (p.fresh a z)) (p.zin a)
theorem PVal.at0 (p : PVal K CA M H H' d n v O Z) : ∃ Z', PVal K CA M H H' d 0 v [] Z' := by
  obtain ⟨O', Z', q, _⟩ := p.low (Nat.zero_le _)
  have := q.rep.zero
  subst this
  exact ⟨Z', q⟩
/-- one after the other -/
theorem Den.seq {x : Out (D × Nat)} {f : D × Nat → Out (D × Nat)} {Q Q1 : VK} (s : Same H0 H1) (h : Den K CA W M (x.bind f) σ H0 Q)
    (k : ∀ p v H2 O Z, x = .ok p → PVal K CA Ma H1 H2 p.1 p.2 v O Z → Den K CA W M (f p) σ H0 Q → Q1 v H2) : Den K CA W Ma x σ H1 Q1 := by
  cases x with
  | ok p => exact fun v H2 O Z pv => k p v H2 O Z rfl pv h
  | exc e => exact fun cls dd H' s' r => h cls dd H' (s.trans s') r
  | bad => exact h
theorem Den.pass {x : Out (D × Nat)} {Q : VK} (s : Same H0 H1) (m : ∀ a, Ma a → M a) (h : Den K CA W M x σ H0 Q) : Den K CA W Ma x σ H1 Q := by
  cases x with
  | ok p => exact fun v H2 O Z pv => h v H2 O Z ((pv.mono m).ahead s)
  | exc e => exact fun cls dd H' s' r => h cls dd H' (s.trans s') r
  | bad => exact h
/-- .. where what comes first is no value of the machine -/
theorem Den.of {α : Type} {x : Option α} {f : α → Out (D × Nat)} {Q : VK} (h : Den K CA W M ((Out.of x).bind f) σ H Q) : ∃ a, x = some a ∧ Den K CA W M (f a) σ H Q := by
  cases x with
  | none => exact h.elim
  | some a => exact ⟨a, rfl, h⟩
theorem Den.bindB {x : Out Bool} {f : Bool → Out (D × Nat)} {Q : VK} (nx : ∀ e, x ≠ .exc e) (h : Den K CA W M (x.bind f) σ H Q) : ∃ b, x = .ok b ∧ Den K CA W M (f b) σ H Q := by
  cases x with
  | ok b => exact ⟨b, rfl, h⟩
  | exc e => exact absurd rfl (nx e)
  | bad => exact h.elim
theorem Den.gd {c : Prop} [Decidable c] {x : Out (D × Nat)} {Q : VK} (h : Den K CA W M (gd c x) σ H Q) : c ∧ Den K CA W M x σ H Q := by
  unfold Vy.gd at h; split at h
  · exact ⟨by assumption, h⟩
  · exact h.elim
theorem Den.val {p : D × Nat} {Q : VK} (h : Den K CA W M (.ok p) σ H Q) (s : Same H H') {v : V} (r : Rep K CA H' p.2 p.1 v [] []) : Q v H' := h v H' [] [] (.imm s r)
theorem Den.ofv {o : Option (D × Nat)} {Q : VK} (h : Den K CA W M (Out.of o) σ H Q) : ∃ p, o = some p ∧ Den K CA W M (.ok p) σ H Q := by
  cases o with
  | none => exact h.elim
  | some a => exact ⟨a, rfl, h⟩
end

mutual
/-- the slots that an expression names -/
def names : C → List Nat
  | .cst _ => []
  | .var i => [i]
  | .glb _ => []
  | .bin _ a b => names a ++ names b
  | .cmp _ a b => names a ++ names b
  | .chn _ _ a b c => names a ++ (names b ++ names c)
  | .not a => names a
  | .neg a => names a
  | .and a b => names a ++ names b
  | .or a b => names a ++ names b
  | .ife t a b => names t ++ (names a ++ names b)
  | .tup es => namesL es
  | .lst es => namesL es
  | .dct ks es => namesL es ++ namesL ks
  | .sub a i => names a ++ names i
  | .slc a lo hi => names a ++ (namesO lo ++ namesO hi)
  | .rev a => names a
  | .cal _ es => namesL es
  | .bif _ es => namesL es
  | .mth _ o es => names o ++ namesL es
  | .fld a _ => names a
  | .isi a _ => names a
  | .lc it _ t e => names it ++ (namesO t ++ names e)
  | .rng es => namesL es
  | .enu e => names e
  | .zip a b => names a ++ names b
  | .itm e => names e
  | .rvs e => names e
def namesL : List C → List Nat
  | [] => []
  | e :: es => names e ++ namesL es
def namesO : Option C → List Nat
  | none => []
  | some e => names e
end

theorem PE.weak {X : Cx} {e : Expr} {t t' : TE} (h : PE X e t) (w : ∀ σ H Q, t' σ H Q → t σ H Q) : PE X e t' := ⟨fun pins s σ H Q I q => h.run pins s σ H Q I (w σ H Q q)⟩
theorem PT.weak {X : Cx} {e : Expr} {t t' : TT} (h : PT X e t) (w : ∀ σ H Q, t' σ H Q → t σ H Q) : PT X e t' := ⟨fun pins s σ H Q I q => h.run pins s σ H Q I (w σ H Q q)⟩
theorem PA.weak {X : Cx} {es : List Expr} {t t' : TA} (h : PA X es t) (w : ∀ σ H Q, t' σ H Q → t σ H Q) : PA X es t' := ⟨fun pos pins s σ H Q I q => h.run pos pins s σ H Q I (w σ H Q q)⟩
theorem PS.weak {X : Cx} {e : Stmt} {t t' : TS} (h : PS X e t) (w : ∀ D σ H, t' D σ H → t D σ H) : PS X e t' := ⟨fun pins s σ H D I q => h.run pins s σ H D I (w D σ H q)⟩
theorem PSs.weak {X : Cx} {e : List Stmt} {t t' : TS} (h : PSs X e t) (w : ∀ D σ H, t' D σ H → t D σ H) : PSs X e t' := ⟨fun pins s σ H D I q => h.run pins s σ H D I (w D σ H q)⟩
theorem OpR.or {X : Cx} {f : Value → Value → Sem Value} {r r' : R2} (h : OpR X f r) (h' : OpR X f r') : OpR X f (fun x y H Q => r x y H Q ∨ r' x y H Q) :=
  fun pins s σ H x y v u Q I rx ry q => q.elim (h pins s σ H x y v u Q I rx ry) (h' pins s σ H x y v u Q I rx ry)
theorem OpR.weak {X : Cx} {f : Value → Value → Sem Value} {r r' : R2} (h : OpR X f r) (w : ∀ x y H Q, r' x y H Q → r x y H Q) : OpR X f r' :=
  fun pins s σ H x y v u Q I rx ry q => h pins s σ H x y v u Q I rx ry (w _ _ _ _ q)
theorem CallR.or {X : Cx} {f : Value} {r r' : List V → Hp → VK → Prop} (h : CallR X f r) (h' : CallR X f r') : CallR X f (fun x H Q => r x H Q ∨ r' x H Q) :=
  fun pins s σ H vs us Q I rv q => q.elim (h pins s σ H vs us Q I rv) (h' pins s σ H vs us Q I rv)
theorem CallR.weak {X : Cx} {f : Value} {r r' : List V → Hp → VK → Prop} (h : CallR X f r) (w : ∀ x H Q, r' x H Q → r x H Q) : CallR X f r' :=
  fun pins s σ H vs us Q I rv q => h pins s σ H vs us Q I rv (w _ _ _ q)

/-! ### inversion of Rep -/
section
variable {K : PySem.W.Frag} {CA : Nat → Addr} {H : Hp} {n : Nat} {v : V} {O Z : List Addr}
theorem Rep.int_inv {i : Int} (r : Rep K CA H n (.int i) v O Z) : v = .int i ∧ O = [] ∧ Z = [] := by cases r; exact ⟨rfl, rfl, rfl⟩
theorem Rep.str_inv {s : Cs} (r : Rep K CA H n (.str s) v O Z) : v = .str (mkS s) ∧ O = [] ∧ Z = [] ∧ Bd s := by cases r with | str h => exact ⟨rfl, rfl, rfl, h⟩
theorem Rep.bl_inv {b : Bool} (r : Rep K CA H n (.bl b) v O Z) : v = .bl b ∧ O = [] ∧ Z = [] := by cases r; exact ⟨rfl, rfl, rfl⟩
theorem Rep.non_inv (r : Rep K CA H n .non v O Z) : v = .non ∧ O = [] ∧ Z = [] := by cases r; exact ⟨rfl, rfl, rfl⟩
theorem Rep.lst_inv {xs : List D} (r : Rep K CA H n (.lst xs) v O Z) : ∃ a vs O' Z' m, v = .ref a ∧ H a = some (.lst vs) ∧ Reps K CA H m xs vs O' Z' ∧ (∀ b ∈ O', b ∈ O) ∧ (∀ b ∈ Z', b ∈ Z) := by
  cases r with
  | lstO e r => exact ⟨_, _, _, _, _, rfl, e, r, fun b h => List.mem_cons_of_mem _ h, fun b h => h⟩
  | lstZ e r => exact ⟨_, _, _, _, _, rfl, e, r, fun b h => h, fun b h => List.mem_cons_of_mem _ h⟩
theorem Rep.scr_inv {ns : List Int} (r : Rep K CA H n (.scr ns) v O Z) : ∃ a, v = .ref a ∧ SqZ K H a (ns.map V.int) ∧ O = [] ∧ Z = [] := by
  cases r with
  | scr e => exact ⟨_, rfl, e, rfl, rfl⟩
theorem Rep.tup_inv {xs : List D} (r : Rep K CA H n (.tup xs) v O Z) : ∃ a vs, v = .ref a ∧ SqT K H a vs ∧ Reps K CA H n xs vs O Z := by
  cases r with
  | tup e r => exact ⟨_, _, rfl, e, r⟩
theorem Rep.dct_inv {ks xs : List D} (r : Rep K CA H n (.dct ks xs) v O Z) : ∃ a kvs O' Z' m, v = .ref a ∧ Rd H a (.dK kvs) ∧ KeyOk ks kvs ∧ Reps K CA H m xs (kvs.map (·.2)) O' Z' ∧ (∀ b ∈ O', b ∈ O) ∧ (∀ b ∈ Z', b ∈ Z) := by
  cases r with
  | dctO e e1 r => exact ⟨_, _, _, _, _, rfl, .inl e, e1, r, fun b h => List.mem_cons_of_mem _ h, fun b h => h⟩
  | dctZ e e1 r => exact ⟨_, _, _, _, _, rfl, e, e1, r, fun b h => h, fun b h => List.mem_cons_of_mem _ h⟩
theorem Reps.zeroed {m : Nat} {ds : List D} {vs : List V} (r : Reps K CA H m ds vs O Z) : ∃ Z', Reps K CA H 0 ds vs [] Z' ∧ ∀ a ∈ Z', a ∈ O ∨ a ∈ Z := by
  obtain ⟨O', Z', r', l⟩ := r.low (Nat.zero_le _)
  have := r'.zero
  subst this
  exact ⟨Z', r', l.all⟩
end
theorem mdepL_append (xs ys : List D) : mdepL (xs ++ ys) = max (mdepL xs) (mdepL ys) := by
  induction xs with
  | nil => simp [mdepL]
  | cons x r ih => simp only [List.cons_append, mdepL, ih]; omega
theorem mdepL_mem {xs : List D} {d : D} (h : d ∈ xs) : d.mdep ≤ mdepL xs := by
  induction xs with
  | nil => cases h
  | cons x r ih =>
    rw [mdepL]
    rcases List.mem_cons.mp h with rfl | h
    · omega
    · have := ih h; omega
theorem mdepL_le {xs : List D} {m : Nat} (h : ∀ d ∈ xs, d.mdep ≤ m) : mdepL xs ≤ m := by
  induction xs with
  | nil => simp [mdepL]
  | cons x r ih =>
    rw [mdepL]
    have h1 := h x (by simp)
    have h2 := ih fun d hd => h d (by simp [hd])
    omega
@[simp] theorem mdepL_strs (ss : List Cs) : mdepL (ss.map D.str) = 0 := Nat.le_zero.mp (mdepL_le fun d h => by
  obtain ⟨s, _, rfl⟩ := List.mem_map.mp h; simp [D.mdep])
end Vy

namespace Vy
open PySem PySem.Spec
open PyProof.Rows hiding St
open L2

theorem SZ_eq : sizeLine = SZ := sizeLine_eq
theorem mkS_len (s : Cs) : (mkS s).length = s.length := by simp [mkS, Str.length]
theorem mkS_tl (s : Cs) : (mkS s).cps.toList = s := by simp [mkS]
theorem mkS_app (s t : Cs) : mkS s ++ mkS t = mkS (s ++ t) := TL.ext_tl (by rw [TL.tl_append]; simp [mkS])
theorem mkS_of (x : Str) : mkS x.cps.toList = x := TL.mk_tl x
theorem mkS_inj {s t : Cs} (h : mkS s = mkS t) : s = t := by
  have := congrArg (fun x : Str => x.cps.toList) h
  simpa [mkS] using this
theorem mkS_beq (s t : Cs) : (mkS s == mkS t) = (s == t) := by
  rw [Bool.eq_iff_iff]; simp only [beq_iff_eq]
  exact ⟨mkS_inj, fun h => by rw [h]⟩
theorem Bd.app {s t : Cs} (h : Bd s) (k : Bd t) : Bd (s ++ t) := fun c q => (List.mem_append.mp q).elim (h c) (k c)
theorem Bd.nil : Bd [] := fun c h => by cases h

/-! ### == -/
mutual
def toPy : D → PyData
  | .bl b => .bool b
  | .int i => .int i
  | .str s => .str (mkS s)
  | .tup xs => .tuple (toPyL xs)
  | .lst xs => .list (toPyL xs)
  | _ => .none
def toPyL : List D → List PyData
  | [] => []
  | d :: r => toPy d :: toPyL r
end
mutual
theorem toPy_depth : ∀ d, eqOk d = true → (toPy d).depth = d.dep
  | .non, _ => rfl
  | .bl _, _ => rfl
  | .int _, _ => rfl
  | .str _, _ => rfl
  | .tup xs, h => by simp only [toPy, PyData.depth, D.dep]; rw [toPyL_depth xs (by simpa [eqOk] using h)]
  | .lst xs, h => by simp only [toPy, PyData.depth, D.dep]; rw [toPyL_depth xs (by simpa [eqOk] using h)]
  | .dct _ _, h => by simp [eqOk] at h
  | .ins _ _ _, h => by simp [eqOk] at h
  | .cls _, h => by simp [eqOk] at h
  | .scr _, h => by simp [eqOk] at h
theorem toPyL_depth : ∀ ds, eqOkL ds = true → PyData.depthAll (toPyL ds) = depL ds
  | [], _ => rfl
  | d :: r, h => by
    have h : eqOk d = true ∧ eqOkL r = true := by simpa [eqOkL] using h
    simp only [toPyL, PyData.depthAll, depL]
    rw [toPy_depth d h.1, toPyL_depth r h.2]
end
mutual
theorem toPy_eqv : ∀ d e, eqOk d = true → eqOk e = true → PyData.eqv (toPy d) (toPy e) = pyEq d e
  | .non, e, _, h => by cases e <;> first | rfl | (simp [eqOk] at h)
  | .bl _, e, _, h => by cases e <;> first | rfl | (simp [eqOk] at h)
  | .int _, e, _, h => by cases e <;> first | rfl | (simp [eqOk] at h)
  | .str s, e, _, h => by
    cases e with
    | str t => simp only [toPy, PyData.eqv, pyEq]; exact mkS_beq s t
    | _ => first | rfl | (simp [eqOk] at h)
  | .tup xs, e, h, k => by
    cases e with
    | tup ys => simp only [toPy, PyData.eqv, pyEq]; exact toPyL_eqv xs ys (by simpa [eqOk] using h) (by simpa [eqOk] using k)
    | _ => first | rfl | (simp [eqOk] at k)
  | .lst xs, e, h, k => by
    cases e with
    | lst ys => simp only [toPy, PyData.eqv, pyEq]; exact toPyL_eqv xs ys (by simpa [eqOk] using h) (by simpa [eqOk] using k)
    | _ => first | rfl | (simp [eqOk] at k)
  | .dct _ _, _, h, _ => by simp [eqOk] at h
  | .ins _ _ _, _, h, _ => by simp [eqOk] at h
  | .cls _, _, h, _ => by simp [eqOk] at h
  | .scr _, _, h, _ => by simp [eqOk] at h
theorem toPyL_eqv : ∀ ds es, eqOkL ds = true → eqOkL es = true → PyData.eqvAll (toPyL ds) (toPyL es) = pyEqL ds es
  | [], [], _, _ => rfl
  | [], _ :: _, _, _ => rfl
  | _ :: _, [], _, _ => rfl
  | d :: r, e :: q, h, k => by
    have h : eqOk d = true ∧ eqOkL r = true := by simpa [eqOkL] using h
    have k : eqOk e = true ∧ eqOkL q = true := by simpa [eqOkL] using k
    simp only [toPyL, PyData.eqvAll, pyEqL]
    rw [toPy_eqv d e h.1 k.1, toPyL_eqv r q h.2 k.2]
end
section
variable {K : PySem.W.Frag} {CA : Nat → Addr} {H : Hp}
mutual
theorem Rep.dp : ∀ {n d v O Z}, Rep K CA H n d v O Z → eqOk d = true → Dp K H v (toPy d) ∧ (toPy d).canLay0 = true
  | _, _, _, _, _, .non, _ => ⟨.non, rfl⟩
  | _, _, _, _, _, .bl _, _ => ⟨.bl _, rfl⟩
  | _, _, _, _, _, .int _, _ => ⟨.int _, rfl⟩
  | _, .str s, _, _, _, .str b, _ => ⟨.str _, by
      show PyData.strOk (mkS s) = true
      unfold PyData.strOk
      rw [Array.all_eq_true_iff_forall_mem]
      intro c hc
      have hc : c ∈ s := by simpa [mkS] using hc
      simpa using b c hc⟩
  | _, _, _, _, _, .cls _, h => by simp [eqOk] at h
  | _, _, _, _, _, .scr _, h => by simp [eqOk] at h
  | _, _, _, _, _, .tup e r, h => let ⟨a, b⟩ := r.dp (by simpa [eqOk] using h); ⟨.tup e a, by simpa [toPy, PyData.canLay0] using b⟩
  | _, _, _, _, _, .lstO e r, h => let ⟨a, b⟩ := r.dp (by simpa [eqOk] using h); ⟨.lst (.of e) a, by simpa [toPy, PyData.canLay0] using b⟩
  | _, _, _, _, _, .lstZ e r, h => let ⟨a, b⟩ := r.dp (by simpa [eqOk] using h); ⟨.lst (.of e) a, by simpa [toPy, PyData.canLay0] using b⟩
  | _, _, _, _, _, .dctO _ _ _, h => by simp [eqOk] at h
  | _, _, _, _, _, .dctZ _ _ _, h => by simp [eqOk] at h
  | _, _, _, _, _, .insO _ _ _, h => by simp [eqOk] at h
  | _, _, _, _, _, .insZ _ _ _, h => by simp [eqOk] at h
theorem Reps.dp : ∀ {n ds vs O Z}, Reps K CA H n ds vs O Z → eqOkL ds = true → DpAll K H vs (toPyL ds) ∧ PyData.canLayAll0 (toPyL ds) = true
  | _, _, _, _, _, .nil, _ => ⟨.nil, rfl⟩
  | _, d :: r, _, _, _, .cons q s, h => by
    have h : eqOk d = true ∧ eqOkL r = true := by simpa [eqOkL] using h
    obtain ⟨a, b⟩ := q.dp h.1
    obtain ⟨a', b'⟩ := s.dp h.2
    exact ⟨.cons a a', by simp [toPyL, PyData.canLayAll0, b, b']⟩
end
end
section
variable {X : Cx} {CA : Nat → Addr} {W : WX} {σ0 : St}
/-- two values that came, one behind the other, and what is to come of them -/
def r2 (X : Cx) (CA : Nat → Addr) (W : WX) (σ0 : St) (f : D × Nat → D × Nat → Option (D × Nat)) : R2 := fun x y H2 Q => ∃ H M p q Ox Zx Oy Zy,
  PVal X.K CA M H H2 p.1 p.2 x Ox Zx ∧ PVal X.K CA M H H2 q.1 q.2 y Oy Zy ∧ Den X.K CA W M (Out.of (f p q)) σ0 H Q
/-- a comparison as a value -/
def cmpV (o : CO) (p q : D × Nat) : Option (D × Nat) := (cmpD o p.1 q.1).map fun r => (.bl r, 9)
theorem cmp_as (o : CO) (p q : D × Nat) : ((Out.of (cmpD o p.1 q.1)).bind fun r => Out.ok (D.bl r, 9)) = Out.of (cmpV o p q) := by
  unfold cmpV; cases cmpD o p.1 q.1 <;> rfl
theorem op_eq' {k : Nat} (hr : Room k X.A) : OpR X (compareOp .Eq) (r2 X CA W σ0 (cmpV .eq)) := by
  intro pins s σ H x y v u Q I rx ry h
  obtain ⟨H0, M, p, q, Ox, Zx, Oy, Zy, pv, pw, hd⟩ := h
  obtain ⟨r, e, hd⟩ := Den.ofv hd
  obtain ⟨b, e', rfl⟩ := Option.map_eq_some_iff.mp e
  obtain ⟨⟨h1, h2, h3⟩, e⟩ := go_some (show go _ _ = _ from e')
  cases e
  obtain ⟨d1, c1⟩ := pv.rep.dp h1
  obtain ⟨d2, c2⟩ := pw.rep.dp h2
  obtain ⟨as, r1⟩ := Dp.reads I _ x v d1 rx
  obtain ⟨bs, r2⟩ := Dp.reads I _ y u d2 ry
  refine SeqAt.compareEq_reads r1 r2 c1 c2 (by rw [toPy_depth _ h1, toPy_depth _ h2]; have := hr.units; omega) ?_
  rw [toPy_eqv _ _ h1 h2]
  exact ⟨.bl _, H, I, rfl, hd.val pv.same (.bl _)⟩
theorem op_ne' {k : Nat} (hr : Room k X.A) : OpR X (compareOp .NotEq) (r2 X CA W σ0 (cmpV .ne)) := by
  intro pins s σ H x y v u Q I rx ry h
  obtain ⟨H0, M, p, q, Ox, Zx, Oy, Zy, pv, pw, hd⟩ := h
  obtain ⟨r, e, hd⟩ := Den.ofv hd
  obtain ⟨b, e', rfl⟩ := Option.map_eq_some_iff.mp e
  obtain ⟨⟨h1, h2, h3⟩, e⟩ := go_some (show go _ _ = _ from e')
  cases e
  obtain ⟨d1, c1⟩ := pv.rep.dp h1
  obtain ⟨d2, c2⟩ := pw.rep.dp h2
  obtain ⟨as, r1⟩ := Dp.reads I _ x v d1 rx
  obtain ⟨bs, r2⟩ := Dp.reads I _ y u d2 ry
  refine SeqAt.compareNe_reads r1 r2 c1 c2 (by rw [toPy_depth _ h1, toPy_depth _ h2]; have := hr.units; omega) ?_
  rw [toPy_eqv _ _ h1 h2]
  exact ⟨.bl _, H, I, rfl, hd.val pv.same (.bl _)⟩
theorem OpR.weak' {f : Value → Value → Sem Value} {g : D × Nat → D × Nat → Option (D × Nat)} {r : R2} (h : OpR X f r)
    (w : ∀ (d e : D) (n m : Nat) x y H0 H (M : Addr → Prop) Ox Zx Oy Zy (z : D × Nat) (Q : VK), PVal X.K CA M H0 H d n x Ox Zx → PVal X.K CA M H0 H e m y Oy Zy → g (d, n) (e, m) = some z → Den X.K CA W M (.ok z) σ0 H0 Q → r x y H Q) : OpR X f (r2 X CA W σ0 g) := by
  intro pins s σ H x y v u Q I rx ry h'
  obtain ⟨H0, M, ⟨d, n⟩, ⟨e, m⟩, Ox, Zx, Oy, Zy, pv, pw, hd⟩ := h'
  obtain ⟨z, e', hd⟩ := Den.ofv hd
  exact h pins s σ H x y v u Q I rx ry (w d e n m x y H0 H M Ox Zx Oy Zy z Q pv pw e' hd)
/-- orders: of numbers, of texts -/
theorem op_lt' : OpR X (compareOp .Lt) (r2 X CA W σ0 (cmpV .lt)) := by
  refine OpR.weak' (OpR.or op_lt op_lt_str) fun d e n m x y H0 H M Ox Zx Oy Zy z Q pv pw hz hd => ?_
  obtain ⟨b, e', rfl⟩ := Option.map_eq_some_iff.mp hz
  cases d <;> cases e <;> first | (cases e'; done) | skip
  · cases e'; obtain ⟨rfl, _⟩ := pv.rep.int_inv; obtain ⟨rfl, _⟩ := pw.rep.int_inv
    exact .inl ⟨_, _, rfl, rfl, hd.val pv.same (.bl _)⟩
  · cases e'; obtain ⟨rfl, _⟩ := pv.rep.str_inv; obtain ⟨rfl, _⟩ := pw.rep.str_inv
    exact .inr ⟨_, _, rfl, rfl, hd.val pv.same (.bl _)⟩
theorem op_le' : OpR X (compareOp .LtE) (r2 X CA W σ0 (cmpV .le)) := by
  refine OpR.weak' (OpR.or op_le op_le_str) fun d e n m x y H0 H M Ox Zx Oy Zy z Q pv pw hz hd => ?_
  obtain ⟨b, e', rfl⟩ := Option.map_eq_some_iff.mp hz
  cases d <;> cases e <;> first | (cases e'; done) | skip
  · cases e'; obtain ⟨rfl, _⟩ := pv.rep.int_inv; obtain ⟨rfl, _⟩ := pw.rep.int_inv
    exact .inl ⟨_, _, rfl, rfl, hd.val pv.same (.bl _)⟩
  · cases e'; obtain ⟨rfl, _⟩ := pv.rep.str_inv; obtain ⟨rfl, _⟩ := pw.rep.str_inv
    exact .inr ⟨_, _, rfl, rfl, hd.val pv.same (.bl _)⟩
theorem op_gt' : OpR X (compareOp .Gt) (r2 X CA W σ0 (cmpV .gt)) := by
  refine OpR.weak' (OpR.or op_gt op_gt_str) fun d e n m x y H0 H M Ox Zx Oy Zy z Q pv pw hz hd => ?_
  obtain ⟨b, e', rfl⟩ := Option.map_eq_some_iff.mp hz
  cases d <;> cases e <;> first | (cases e'; done) | skip
  · cases e'; obtain ⟨rfl, _⟩ := pv.rep.int_inv; obtain ⟨rfl, _⟩ := pw.rep.int_inv
    exact .inl ⟨_, _, rfl, rfl, hd.val pv.same (.bl _)⟩
  · cases e'; obtain ⟨rfl, _⟩ := pv.rep.str_inv; obtain ⟨rfl, _⟩ := pw.rep.str_inv
    exact .inr ⟨_, _, rfl, rfl, hd.val pv.same (.bl _)⟩
theorem op_ge' : OpR X (compareOp .GtE) (r2 X CA W σ0 (cmpV .ge)) := by
  refine OpR.weak' (OpR.or op_ge op_ge_str) fun d e n m x y H0 H M Ox Zx Oy Zy z Q pv pw hz hd => ?_
  obtain ⟨b, e', rfl⟩ := Option.map_eq_some_iff.mp hz
  cases d <;> cases e <;> first | (cases e'; done) | skip
  · cases e'; obtain ⟨rfl, _⟩ := pv.rep.int_inv; obtain ⟨rfl, _⟩ := pw.rep.int_inv
    exact .inl ⟨_, _, rfl, rfl, hd.val pv.same (.bl _)⟩
  · cases e'; obtain ⟨rfl, _⟩ := pv.rep.str_inv; obtain ⟨rfl, _⟩ := pw.rep.str_inv
    exact .inr ⟨_, _, rfl, rfl, hd.val pv.same (.bl _)⟩

/-! ### in -/
theorem findC_iff (sub : Cs) : ∀ (s : Cs) (k : Nat), (findC sub k s).isSome = true ↔ ∃ i, i ≤ s.length ∧ sub <+: s.drop i
  | [], k => by
    unfold findC
    constructor
    · intro h
      split at h
      · rename_i e; exact ⟨0, Nat.le_refl _, by rw [e]; exact List.nil_prefix⟩
      · cases h
    · rintro ⟨i, hi, h⟩
      have : sub = [] := by simpa using h
      rw [if_pos this]; rfl
  | c :: r, k => by
    unfold findC
    constructor
    · intro h
      split at h
      · rename_i e; exact ⟨0, Nat.zero_le _, List.isPrefixOf_iff_prefix.mp e⟩
      · obtain ⟨i, hi, q⟩ := (findC_iff sub r (k + 1)).mp h
        exact ⟨i + 1, by simpa using hi, by simpa using q⟩
    · rintro ⟨i, hi, h⟩
      split
      · rfl
      · rename_i e
        cases i with
        | zero => exact absurd (List.isPrefixOf_iff_prefix.mpr (by simpa using h)) e
        | succ j => exact (findC_iff sub r (k + 1)).mpr ⟨j, by simpa using hi, by simpa using h⟩
theorem pre_prefix (S l : Cs) : TL.pre S l = true ↔ S <+: l := by
  unfold TL.pre
  rw [beq_iff_eq, List.prefix_iff_eq_take]
  exact eq_comm
theorem subAt_iff (x y : Str) (i : Nat) : (i + y.length ≤ x.length ∧ Builtin.Str.subAt x y i = true) ↔ (i ≤ x.length ∧ y.cps.toList <+: x.cps.toList.drop i) := by
  by_cases hy : TL.tl y = []
  · have e : y = mkS [] := TL.ext_tl (by rw [hy]; rfl)
    subst e
    have h0 : (mkS []).length = 0 := mkS_len []
    rw [h0, Nat.add_zero]
    refine and_congr_right fun h => ⟨fun _ => by simp [mkS], fun _ => ?_⟩
    simp [Builtin.Str.subAt, mkS, Str.length]; omega
  · have := TL.at_iff (x := x) hy i
    rw [pre_prefix] at this
    constructor
    · intro h
      exact ⟨by omega, this.mp h⟩
    · intro h
      exact this.mpr h.2
theorem in_findC (s t : Cs) : (!(Builtin.Str.occurrences (mkS t) (mkS s) 0 (mkS t).length 1).isEmpty) = (findC s 0 t).isSome := by
  rw [Bool.eq_iff_iff, StrLaws.found_iff, findC_iff]
  constructor
  · rintro ⟨i, h⟩
    obtain ⟨a, b⟩ := (subAt_iff _ _ i).mp h
    exact ⟨i, by rwa [mkS_len] at a, by simpa [mkS] using b⟩
  · rintro ⟨i, a, b⟩
    exact ⟨i, (subAt_iff _ _ i).mpr ⟨by rwa [mkS_len], by simpa [mkS] using b⟩⟩
theorem any_py (d : D) (hd : eqOk d = true) : ∀ ys, eqOkL ys = true → (toPyL ys).any (fun z => PyData.eqv z (toPy d)) = ys.any (fun y => pyEq y d)
  | [], _ => rfl
  | y :: r, h => by
    have h : eqOk y = true ∧ eqOkL r = true := by simpa [eqOkL] using h
    simp only [toPyL, List.any_cons]
    rw [toPy_eqv y d h.1 hd, any_py d hd r h.2]
def rInA (K : PySem.W.Frag) (CA : Nat → Addr) (neg : Bool) : R2 := fun x y H Q => ∃ d e n m Ox Zx Oy Zy b, Rep K CA H n d x Ox Zx ∧ Rep K CA H m e y Oy Zy ∧ (match e with | .lst _ => True | .tup _ => True | _ => False) ∧ inD d e = some b ∧ Q (.bl (if neg then !b else b)) H
theorem op_inA {k : Nat} (hr : Room k X.A) : OpR X (compareOp .In) (rInA X.K CA false) := by
  intro pins s σ H x y v u Q I rx ry ⟨d, e, n, m, Ox, Zx, Oy, Zy, b, r1, r2, hm, hb, q⟩
  cases e <;> first | exact hm.elim | skip
  all_goals
    rename_i ys
    obtain ⟨⟨h1, h2, h3⟩, e⟩ := go_some (show go _ _ = _ from hb)
    cases e
    obtain ⟨d1, c1⟩ := r1.dp h1
    obtain ⟨d2, c2⟩ := r2.dp (by simpa [eqOk] using h2)
    obtain ⟨as, q1⟩ := Dp.reads I _ x v d1 rx
    obtain ⟨bs, q2⟩ := Dp.reads I _ y u d2 ry
    simp only [toPy] at q2 c2
  · refine SeqAt.in_tuple_reads q2 q1 (by simpa [PyData.canLay0] using c2) c1 (by rw [toPyL_depth _ h2, toPy_depth _ h1]; have := hr.units; omega) ?_
    rw [any_py d h1 ys h2]
    exact ⟨.bl _, H, I, rfl, q⟩
  · refine SeqAt.in_list_reads q2 q1 (by simpa [PyData.canLay0] using c2) c1 (by rw [toPyL_depth _ h2, toPy_depth _ h1]; have := hr.units; omega) ?_
    rw [any_py d h1 ys h2]
    exact ⟨.bl _, H, I, rfl, q⟩
theorem op_notInA {k : Nat} (hr : Room k X.A) : OpR X (compareOp .NotIn) (rInA X.K CA true) := by
  intro pins s σ H x y v u Q I rx ry ⟨d, e, n, m, Ox, Zx, Oy, Zy, b, r1, r2, hm, hb, q⟩
  cases e <;> first | exact hm.elim | skip
  all_goals
    rename_i ys
    obtain ⟨⟨h1, h2, h3⟩, e⟩ := go_some (show go _ _ = _ from hb)
    cases e
    obtain ⟨d1, c1⟩ := r1.dp h1
    obtain ⟨d2, c2⟩ := r2.dp (by simpa [eqOk] using h2)
    obtain ⟨as, q1⟩ := Dp.reads I _ x v d1 rx
    obtain ⟨bs, q2⟩ := Dp.reads I _ y u d2 ry
    simp only [toPy] at q2 c2
  · refine SeqAt.notIn_tuple_reads q2 q1 (by simpa [PyData.canLay0] using c2) c1 (by rw [toPyL_depth _ h2, toPy_depth _ h1]; have := hr.units; omega) ?_
    rw [any_py d h1 ys h2]
    exact ⟨.bl _, H, I, rfl, q⟩
  · refine SeqAt.notIn_list_reads q2 q1 (by simpa [PyData.canLay0] using c2) c1 (by rw [toPyL_depth _ h2, toPy_depth _ h1]; have := hr.units; omega) ?_
    rw [any_py d h1 ys h2]
    exact ⟨.bl _, H, I, rfl, q⟩
end
end Vy

namespace Vy
open PySem PySem.Spec
open PyProof.Rows hiding St
open L2

/-! ### dicts -/
theorem vKey_kV {k : D} {κ : Key} (h : vKey k = some κ) {K : PySem.W.Frag} {CA : Nat → Addr} {H : Hp} {n : Nat} {v : V} {O Z : List Addr} (r : Rep K CA H n k v O Z) : v = kV κ := by
  cases k <;> first | (cases h; done) | skip
  · cases h; exact r.int_inv.1
  · cases h; exact r.str_inv.1
theorem vKey_eq {j k : D} {κ κ' : Key} (h : vKey j = some κ') (h' : vKey k = some κ) : pyEq j k = decide (κ' = κ) := by
  cases j <;> first | (cases h; done) | skip
  · cases k <;> first | (cases h'; done) | skip
    · cases h; cases h'; rw [key_ll]; rfl
    · cases h; cases h'; rw [key_lr]; rfl
  · cases k <;> first | (cases h'; done) | skip
    · cases h; cases h'; rw [key_rl]; rfl
    · cases h; cases h'; rw [key_rr]; rename_i s t; show (s == t) = _; rw [← mkS_beq]; (rw [Bool.eq_iff_iff]; simp)
theorem valV_cons {κ κ' : Key} {v : V} {r : List (Key × V)} : valV ((κ', v) :: r) κ = if κ' = κ then some v else valV r κ := by
  unfold valV
  rw [List.find?_cons]
  by_cases h : κ' = κ <;> simp [h]
section
variable {K : PySem.W.Frag} {CA : Nat → Addr} {H : Hp}
theorem dct_find {k : D} {κ : Key} (hk : vKey k = some κ) {n : Nat} : ∀ {ks ds : List D} {kvs : List (Key × V)} {O Z : List Addr}, ks.map vKey = kvs.map (fun p => some p.1) → Reps K CA H n ds (kvs.map (·.2)) O Z →
    (∀ p, (ks.zip ds).find? (fun p => pyEq p.1 k) = some p → ∃ v O1 Z1, valV kvs κ = some v ∧ Rep K CA H n p.2 v O1 Z1 ∧ (∀ a ∈ O1, a ∈ O) ∧ ∀ a ∈ Z1, a ∈ Z) ∧
    ((ks.zip ds).find? (fun p => pyEq p.1 k) = none → valV kvs κ = none) ∧ ks.any (fun j => pyEq j k) = (valV kvs κ).isSome := by
  intro ks
  induction ks with
  | nil =>
    intro ds kvs O Z e r
    cases kvs with
    | nil => exact ⟨fun p h => by simp at h, fun _ => rfl, rfl⟩
    | cons _ _ => simp at e
  | cons j ks ih =>
    intro ds kvs O Z e r
    cases kvs with
    | nil => simp at e
    | cons q kvs =>
      obtain ⟨κ', v⟩ := q
      simp only [List.map_cons, List.cons.injEq] at e
      rw [List.map_cons] at r
      cases r with
      | @cons _ d _ ds' _ O1 Z1 O2 Z2 r1 r2 =>
        have ee := vKey_eq e.1 hk
        rw [valV_cons]
        by_cases hc : κ' = κ
        · rw [if_pos hc]
          have e1 : pyEq j k = true := by rw [ee]; exact decide_eq_true hc
          refine ⟨fun p h => ?_, fun h => ?_, ?_⟩
          · simp only [List.zip_cons_cons, List.find?_cons, e1] at h
            cases h
            exact ⟨v, O1, Z1, rfl, r1, fun a q => List.mem_append_left _ q, fun a q => List.mem_append_left _ q⟩
          · simp [List.zip_cons_cons, List.find?_cons, e1] at h
          · simp [e1]
        · rw [if_neg hc]
          have e1 : pyEq j k = false := by rw [ee]; exact decide_eq_false hc
          obtain ⟨a, b, c⟩ := ih e.2 r2
          refine ⟨fun p h => ?_, fun h => ?_, ?_⟩
          · simp only [List.zip_cons_cons, List.find?_cons, e1] at h
            obtain ⟨v, P, Y, h1, h2, h3, h4⟩ := a p h
            exact ⟨v, P, Y, h1, h2, fun a q => List.mem_append_right _ (h3 a q), fun a q => List.mem_append_right _ (h4 a q)⟩
          · simp only [List.zip_cons_cons, List.find?_cons, e1] at h
            exact b h
          · simp only [List.any_cons, e1, Bool.false_or]; exact c
end
section
variable {X : Cx} {CA : Nat → Addr} {W : WX} {σ0 : St}
theorem op_in' {k : Nat} (hr : Room k X.A) : OpR X (compareOp .In) (r2 X CA W σ0 (cmpV .isin)) := by
  have hD : OpR X (compareOp .In) (fun y x H Q => ∃ a o, x = .ref a ∧ DGet H a y o ∧ Q (.bl o.isSome) H) := by
    intro pins s σ H y x v u Q I ry rx ⟨a, o, e, g, q⟩
    subst e
    obtain rfl : u = Value.ref a := rx
    exact d_in (hu_of hr) I g ry fun s3 I3 => ⟨.bl o.isSome, H, I3, rfl, q⟩
  refine OpR.weak' (OpR.or op_in_str (OpR.or (op_inA (CA := CA) hr) hD)) fun d e n m x y H0 H M Ox Zx Oy Zy z Q pv pw hz hd => ?_
  obtain ⟨b, e', rfl⟩ := Option.map_eq_some_iff.mp hz
  have e' : inD d e = some b := e'
  cases e <;> first | (cases e'; done) | skip
  · -- text
    cases d <;> first | (cases e'; done) | skip
    cases e'
    obtain ⟨rfl, _⟩ := pv.rep.str_inv; obtain ⟨rfl, _⟩ := pw.rep.str_inv
    refine .inl ⟨_, _, rfl, rfl, ?_⟩
    rw [in_findC]
    exact hd.val pv.same (.bl _)
  · exact .inr (.inl ⟨_, _, _, _, _, _, _, _, _, pv.rep, pw.rep, trivial, e', hd.val pv.same (.bl _)⟩)
  · exact .inr (.inl ⟨_, _, _, _, _, _, _, _, _, pv.rep, pw.rep, trivial, e', hd.val pv.same (.bl _)⟩)
  · obtain ⟨h1, e⟩ := go_some (show go _ _ = _ from e')
    cases e
    obtain ⟨κ, hk⟩ := Option.isSome_iff_exists.mp h1
    obtain ⟨a, kvs, O', Z', m', rfl, hrd, hko, hrs, _⟩ := pw.rep.dct_inv
    obtain ⟨_, _, h3⟩ := dct_find hk hko.1 hrs
    refine .inr (.inr ⟨a, valV kvs κ, rfl, .inl ⟨kvs, κ, hrd, vKey_kV hk pv.rep, rfl⟩, ?_⟩)
    rw [← h3]
    exact hd.val pv.same (.bl _)
theorem op_notIn' {k : Nat} (hr : Room k X.A) : OpR X (compareOp .NotIn) (r2 X CA W σ0 (cmpV .notin)) := by
  have hD : OpR X (compareOp .NotIn) (fun y x H Q => ∃ a o, x = .ref a ∧ DGet H a y o ∧ Q (.bl (!o.isSome)) H) := by
    intro pins s σ H y x v u Q I ry rx ⟨a, o, e, g, q⟩
    subst e
    obtain rfl : u = Value.ref a := rx
    exact d_notIn (hu_of hr) I g ry fun s3 I3 => ⟨.bl (!o.isSome), H, I3, rfl, q⟩
  refine OpR.weak' (OpR.or L2.op_notIn_str (OpR.or (op_notInA (CA := CA) hr) hD)) fun d e n m x y H0 H M Ox Zx Oy Zy z Q pv pw hz hd => ?_
  obtain ⟨b, e', rfl⟩ := Option.map_eq_some_iff.mp hz
  obtain ⟨b', e'', e3⟩ := Option.bind_eq_some_iff.mp (show (inD d e).bind _ = some b from e')
  cases e3
  have e' : inD d e = some b' := e''
  cases e <;> first | (cases e'; done) | skip
  · cases d <;> first | (cases e'; done) | skip
    cases e'
    obtain ⟨rfl, _⟩ := pv.rep.str_inv; obtain ⟨rfl, _⟩ := pw.rep.str_inv
    refine .inl ⟨_, _, rfl, rfl, ?_⟩
    rw [in_findC]
    exact hd.val pv.same (.bl _)
  · exact .inr (.inl ⟨_, _, _, _, _, _, _, _, _, pv.rep, pw.rep, trivial, e', hd.val pv.same (.bl _)⟩)
  · exact .inr (.inl ⟨_, _, _, _, _, _, _, _, _, pv.rep, pw.rep, trivial, e', hd.val pv.same (.bl _)⟩)
  · obtain ⟨h1, e⟩ := go_some (show go _ _ = _ from e')
    cases e
    obtain ⟨κ, hk⟩ := Option.isSome_iff_exists.mp h1
    obtain ⟨a, kvs, O', Z', m', rfl, hrd, hko, hrs, _⟩ := pw.rep.dct_inv
    obtain ⟨_, _, h3⟩ := dct_find hk hko.1 hrs
    refine .inr (.inr ⟨a, valV kvs κ, rfl, .inl ⟨kvs, κ, hrd, vKey_kV hk pv.rep, rfl⟩, ?_⟩)
    rw [← h3]
    exact hd.val pv.same (.bl _)
theorem op_is' : OpR X (compareOp .Is) (r2 X CA W σ0 (cmpV .is_)) := by
  refine OpR.weak' op_isN fun d e n m x y H0 H M Ox Zx Oy Zy z Q pv pw hz hd => ?_
  obtain ⟨b, e', rfl⟩ := Option.map_eq_some_iff.mp hz
  cases e <;> first | (cases e'; done) | (cases d <;> (cases e'; done)) | skip
  obtain ⟨rfl, _⟩ := pw.rep.non_inv
  refine ⟨rfl, ?_⟩
  have : decide (x = V.non) = b := by
    cases d <;> cases e' <;> (have r := pv.rep; cases r <;> rfl)
  rw [this]
  exact hd.val pv.same (.bl _)
theorem op_isnot' : OpR X (compareOp .IsNot) (r2 X CA W σ0 (cmpV .isnot)) := by
  refine OpR.weak' op_notN fun d e n m x y H0 H M Ox Zx Oy Zy z Q pv pw hz hd => ?_
  obtain ⟨b, e', rfl⟩ := Option.map_eq_some_iff.mp hz
  cases e <;> first | (cases e'; done) | (cases d <;> (cases e'; done)) | skip
  obtain ⟨rfl, _⟩ := pw.rep.non_inv
  refine ⟨rfl, ?_⟩
  have : (!decide (x = V.non)) = b := by
    cases d <;> cases e' <;> (have r := pv.rep; cases r <;> rfl)
  rw [this]
  exact hd.val pv.same (.bl _)
end
def CO.op : CO → CmpOp
  | .eq => .Eq | .ne => .NotEq | .lt => .Lt | .le => .LtE | .gt => .Gt | .ge => .GtE | .isin => .In | .notin => .NotIn | .is_ => .Is | .isnot => .IsNot
theorem op_cmp {X : Cx} {CA : Nat → Addr} {W : WX} {σ0 : St} {k : Nat} (hr : Room k X.A) : ∀ o : CO, OpR X (compareOp o.op) (r2 X CA W σ0 (cmpV o))
  | .eq => op_eq' hr
  | .ne => op_ne' hr
  | .lt => op_lt'
  | .le => op_le'
  | .gt => op_gt'
  | .ge => op_ge'
  | .isin => op_in' hr
  | .notin => op_notIn' hr
  | .is_ => op_is'
  | .isnot => op_isnot'
end Vy

namespace Vy
open PySem PySem.Spec
open PyProof.Rows hiding St
open L2

section
variable {K : PySem.W.Frag} {CA : Nat → Addr} {H H0 H1 H' : Hp} {M : Addr → Prop} {n : Nat} {v : V} {O Z : List Addr}
theorem PVal.lst_inv {xs : List D} (p : PVal K CA M H H' (.lst xs) n v O Z) : ∃ a vs Z0, v = .ref a ∧ H' a = some (.lst vs) ∧ Reps K CA H' 0 xs vs [] Z0 ∧ ∀ b ∈ Z0, H b = none ∨ M b := by
  obtain ⟨a, vs, O', Z', m, e, h, r, h1, h2⟩ := p.rep.lst_inv
  obtain ⟨Z0, r0, h0⟩ := r.zeroed
  exact ⟨a, vs, Z0, e, h, r0, fun b q => (h0 b q).elim (fun z => .inl (p.fresh b (h1 b z))) fun z => p.zin b (h2 b z)⟩
theorem PVal.tup_inv {xs : List D} (p : PVal K CA M H H' (.tup xs) n v O Z) : ∃ a vs Z0, v = .ref a ∧ SqT K H' a vs ∧ Reps K CA H' 0 xs vs [] Z0 ∧ ∀ b ∈ Z0, H b = none ∨ M b := by
  obtain ⟨a, vs, e, h, r⟩ := p.rep.tup_inv
  obtain ⟨Z0, r0, h0⟩ := r.zeroed
  exact ⟨a, vs, Z0, e, h, r0, fun b q => (h0 b q).elim (fun z => .inl (p.fresh b z)) fun z => p.zin b z⟩
/-- a new list, its items of others -/
theorem PVal.newList {xs : List D} {vs : List V} {Z0 : List Addr} {p : Addr} (s : Same H H1) (r : Reps K CA H1 0 xs vs [] Z0) (hz : ∀ b ∈ Z0, H b = none ∨ M b) (hp : H1 p = none) :
    ∃ O Z, PVal K CA M H (upd H1 p (.lst vs)) (.lst xs) (lv1 xs) (.ref p) O Z := by
  have k : Same H1 (upd H1 p (.lst vs)) := sameNew hp
  have r' := r.same k
  unfold lv1
  by_cases hm : mdepL xs = 0
  · rw [if_pos hm]
    obtain ⟨_, _, r8⟩ := r'.imm (m := 8) hm
    exact ⟨[p], [], s.trans k, .lstO upd_same r8, fun a q => by simp at q; subst q; exact same_none s hp, by simp, by simp, by simp⟩
  · rw [if_neg hm]
    refine ⟨[p], Z0, s.trans k, .lstO (O := []) upd_same r', fun a q => by simp at q; subst q; exact same_none s hp, by simp, hz, fun a q z => ?_⟩
    simp at z; subst z
    exact (r.there a (by simpa using q)) hp
/-- a new tuple of what does not change -/
theorem PVal.newTup {xs : List D} {vs : List V} {p : Addr} {m : Nat} (s : Same H H1) (r : Reps K CA H1 m xs vs O Z) (hm : mdepL xs = 0) (hp : H1 p = none) :
    PVal K CA M H (upd H1 p (.tup vs)) (.tup xs) 9 (.ref p) [] [] := by
  have k : Same H1 (upd H1 p (.tup vs)) := sameNew hp
  obtain ⟨_, _, r9⟩ := (r.same k).imm (m := 9) hm
  exact .imm (s.trans k) (.tup (.of upd_same) r9)
theorem Reps.take : ∀ {n ds vs O Z} (k : Nat), Reps K CA H n ds vs O Z → ∃ O' Z', Reps K CA H n (ds.take k) (vs.take k) O' Z' ∧ (∀ a ∈ O', a ∈ O) ∧ ∀ a ∈ Z', a ∈ Z
  | _, _, _, _, _, 0, r => ⟨[], [], by simpa using Reps.nil, by simp, by simp⟩
  | _, _, _, _, _, _ + 1, .nil => ⟨[], [], by simpa using Reps.nil, by simp, by simp⟩
  | _, _, _, _, _, k + 1, .cons r s => by
    obtain ⟨O', Z', q, h1, h2⟩ := s.take k
    refine ⟨_, _, by simpa using Reps.cons r q, fun a z => ?_, fun a z => ?_⟩
    · rcases List.mem_append.mp z with z | z
      · simp [z]
      · simp [h1 a z]
    · rcases List.mem_append.mp z with z | z
      · simp [z]
      · simp [h2 a z]
theorem Reps.drop : ∀ {n ds vs O Z} (k : Nat), Reps K CA H n ds vs O Z → ∃ O' Z', Reps K CA H n (ds.drop k) (vs.drop k) O' Z' ∧ (∀ a ∈ O', a ∈ O) ∧ ∀ a ∈ Z', a ∈ Z
  | _, _, _, _, _, 0, r => ⟨_, _, by simpa using r, fun a h => h, fun a h => h⟩
  | _, _, _, _, _, _ + 1, .nil => ⟨[], [], by simpa using Reps.nil, by simp, by simp⟩
  | _, _, _, _, _, k + 1, .cons r s => by
    obtain ⟨O', Z', q, h1, h2⟩ := s.drop k
    exact ⟨_, _, by simpa using q, fun a z => List.mem_append_right _ (h1 a z), fun a z => List.mem_append_right _ (h2 a z)⟩
theorem Reps.rep : ∀ {ds vs Z} (k : Nat), Reps K CA H 0 ds vs [] Z → ∃ Z', Reps K CA H 0 (List.replicate k ds).flatten (List.replicate k vs).flatten [] Z' ∧ ∀ a ∈ Z', a ∈ Z
  | _, _, _, 0, r => ⟨[], by simpa using Reps.nil, by simp⟩
  | _, _, Z, k + 1, r => by
    obtain ⟨Z', q, h⟩ := r.rep k
    refine ⟨Z ++ Z', by simpa [List.replicate_succ] using r.append q, fun a z => ?_⟩
    rcases List.mem_append.mp z with z | z
    · exact z
    · exact h a z
theorem mdepL_rep (k : Nat) (xs : List D) : mdepL (List.replicate k xs).flatten ≤ mdepL xs := mdepL_le fun d h => by
  obtain ⟨l, hl, hd⟩ := List.mem_flatten.mp h
  have := List.eq_of_mem_replicate hl
  subst this
  exact mdepL_mem hd
theorem lv1_rep {k : Nat} {xs : List D} (h : k ≠ 0) : lv1 (List.replicate k xs).flatten = lv1 xs := by
  unfold lv1
  have : mdepL (List.replicate k xs).flatten = mdepL xs := by
    refine Nat.le_antisymm (mdepL_rep k xs) ?_
    cases k with
    | zero => exact absurd rfl h
    | succ k => rw [List.replicate_succ, List.flatten_cons, mdepL_append]; omega
  rw [this]
end
theorem cut_length {α : Type} (xs : List α) (lo hi : Option Int) : (cut xs lo hi).length ≤ xs.length := by
  unfold cut; rw [List.length_take, List.length_drop]; omega
theorem sx_eq (n d : Nat) (o : Option Int) : sx n d o = HT.sIx n d o := by
  cases o with
  | none => rfl
  | some i =>
    unfold sx HT.sIx
    first
    | rfl
    | (simp only; split <;> first | rfl | omega | (split <;> first | rfl | omega))
section
variable {X : Cx} {CA : Nat → Addr} {W : WX} {σ0 : St}
theorem op_mulS : OpR X (binaryOp .Mult) (fun x y H Q => ∃ z i, x = .str z ∧ y = .int i ∧ -(2 ^ 62) ≤ i ∧ i < 2 ^ 62 ∧ z.length * i.toNat ≤ sizeLine ∧ Q (.str (mkS (List.replicate i.toNat z.cps.toList).flatten)) H) := by
  intro pins s σ H x y v u Q I rx ry ⟨z, i, e1, e2, h1, h2, hz, q⟩
  subst e1; subst e2
  obtain ⟨t, rfl⟩ := rx
  obtain ⟨t', rfl⟩ := ry
  have hs : sizeLine = 16777216 := sizeLine_eq
  refine SB.mul ⟨by simp; omega, fun a b => ?_, fun a b => ?_⟩ fun t' k => ?_
  · have hi : (0 : Int) < i := by omega
    have : (z.length : Int) * i ≤ 16777216 := by
      have e : ((z.length * i.toNat : Nat) : Int) = (z.length : Int) * i := by rw [Int.natCast_mul, Int.toNat_of_nonneg (by omega)]
      rw [← e]; omega
    intro hlt
    have h3 : (2 ^ 63 - 1) / i < (z.length : Int) := hlt
    have h4 := (Int.ediv_lt_iff_lt_mul hi).mp h3
    omega
  · unfold Builtin.Str.tooLong
    first
    | (simp; omega)
    | (rw [decide_eq_false]; omega)
  · refine ⟨.str (mkS (List.replicate i.toNat z.cps.toList).flatten), H, I.tok _, ?_, q⟩
    have e : Txt.mul z i = mkS (List.replicate i.toNat z.cps.toList).flatten := by
      unfold Txt.mul
      by_cases h : i < 1
      · rw [if_pos h]
        have : i.toNat = 0 := by omega
        rw [this]; rfl
      · rw [if_neg h]
        have fl : ∀ (m : Nat) (acc : Array Nat), (List.replicate m z.cps).foldl (· ++ ·) acc = acc ++ (List.replicate m z.cps.toList).flatten.toArray := fun m => by
          induction m with
          | zero => intro acc; simp
          | succ m ih => intro acc; rw [List.replicate_succ, List.foldl_cons, ih, List.replicate_succ, List.flatten_cons]; apply Array.toList_inj.mp; simp
        by_cases hc : (i == 1 || z.length == 0) = true
        · rw [if_pos hc]
          apply TL.ext_tl
          show z.cps.toList = (mkS _).cps.toList
          rw [mkS_tl]
          simp only [Bool.or_eq_true, beq_iff_eq] at hc
          rcases hc with hc | hc
          · subst hc; simp
          · have : z.cps.toList = [] := by have := TL.len_tl z; rw [hc] at this; exact List.eq_nil_of_length_eq_zero this.symm
            rw [this]
            induction i.toNat with
            | zero => rfl
            | succ m ih => rw [List.replicate_succ, List.flatten_cons, ← ih]; rfl
        · rw [if_neg hc, fl]; simp [mkS]
    rw [← e]
    exact ⟨_, rfl⟩
end
end Vy

namespace Vy
open PySem PySem.Spec
open PyProof.Rows hiding St
open L2
theorem go_none_iff {c : Prop} [Decidable c] {α : Type} {x : Option α} {z : α} : go c x = some z ↔ c ∧ x = some z := by
  unfold go; split <;> simp [*]
theorem Reps.ne {K : PySem.W.Frag} {CA : Nat → Addr} {H : Hp} {n : Nat} {ds : List D} {vs : List V} {O Z : List Addr} (r : Reps K CA H n ds vs O Z) : ds = [] ↔ vs = [] := by
  have := r.length
  constructor
  · intro h; subst h; exact List.eq_nil_of_length_eq_zero this.symm
  · intro h; subst h; exact List.eq_nil_of_length_eq_zero this
section
variable {X : Cx} {CA : Nat → Addr} {W : WX} {σ0 : St}
def BO.op : BO → Operator
  | .add => .Add | .sub => .Sub | .mul => .Mult | .fdv => .FloorDiv | .mod => .Mod | .pow => .Pow
theorem Bd.rep {s : Cs} (h : Bd s) (k : Nat) : Bd (List.replicate k s).flatten := fun c q => by
  obtain ⟨l, hl, hc⟩ := List.mem_flatten.mp q
  rw [List.eq_of_mem_replicate hl] at hc
  exact h c hc
theorem op_badd : OpR X (binaryOp .Add) (r2 X CA W σ0 (binD .add)) := by
  refine OpR.weak' (OpR.or op_add (OpR.or op_add_str (OpR.or op_cat op_catT))) fun d e n m x y H0 H M Ox Zx Oy Zy z Q pv pw hz hd => ?_
  cases d <;> first | (cases hz; done) | skip
  all_goals (cases e <;> first | (cases hz; done) | skip)
  · cases hz; obtain ⟨rfl, _⟩ := pv.rep.int_inv; obtain ⟨rfl, _⟩ := pw.rep.int_inv
    exact .inl ⟨_, _, rfl, rfl, hd.val pv.same (.int _)⟩
  · obtain ⟨hl, e⟩ := go_some (show go _ _ = _ from hz)
    cases e
    obtain ⟨rfl, _, _, b1⟩ := pv.rep.str_inv; obtain ⟨rfl, _, _, b2⟩ := pw.rep.str_inv
    refine .inr (.inl ⟨_, _, rfl, rfl, by rw [mkS_len, mkS_len, SZ_eq]; exact hl, ?_⟩)
    rw [mkS_app]
    exact hd.val pv.same (.str (b1.app b2))
  · obtain ⟨⟨n1, n2, hl, hm⟩, e⟩ := go_some (show go _ _ = _ from hz)
    cases e
    obtain ⟨a, vs, e1, h1, r1⟩ := pv.rep.tup_inv
    obtain ⟨b, ws, e2, h2, r2⟩ := pw.rep.tup_inv
    rw [mdepL_append] at hm
    obtain ⟨_, _, r1'⟩ := r1.imm (m := 0) (by omega)
    obtain ⟨_, _, r2'⟩ := r2.imm (m := 0) (by omega)
    refine .inr (.inr (.inr ⟨a, b, vs, ws, e1, e2, h1, h2, fun h => n1 (r1.ne.mpr h), by rw [← r1.length, ← r2.length, SZ_eq]; exact hl, fun h => absurd (r2.ne.mpr h) n2, fun _ p hp => ?_⟩))
    exact hd _ _ _ _ (PVal.newTup pv.same (r1'.append r2') (by rw [mdepL_append]; omega) hp)
  · obtain ⟨hl, e⟩ := go_some (show go _ _ = _ from hz)
    cases e
    obtain ⟨a, vs, Z1, e1, h1, r1, z1⟩ := pv.lst_inv
    obtain ⟨b, ws, Z2, e2, h2, r2, z2⟩ := pw.lst_inv
    refine .inr (.inr (.inl ⟨a, b, vs, ws, e1, e2, h1, h2, by rw [← r1.length, ← r2.length, SZ_eq]; exact hl, fun p hp => ?_⟩))
    obtain ⟨O, Z, pp⟩ := PVal.newList pv.same (r1.append r2) (fun b q => (List.mem_append.mp q).elim (z1 b) (z2 b)) hp
    exact hd _ _ _ _ pp
theorem op_bmul : OpR X (binaryOp .Mult) (r2 X CA W σ0 (binD .mul)) := by
  refine OpR.weak' (OpR.or op_mul (OpR.or op_mulS op_rep)) fun d e n m x y H0 H M Ox Zx Oy Zy z Q pv pw hz hd => ?_
  cases d <;> first | (cases hz; done) | skip
  all_goals (cases e <;> first | (cases hz; done) | skip)
  · obtain ⟨hl, e⟩ := go_some (show go _ _ = _ from hz)
    cases e
    obtain ⟨rfl, _⟩ := pv.rep.int_inv; obtain ⟨rfl, _⟩ := pw.rep.int_inv
    exact .inl ⟨_, _, rfl, rfl, hl, hd.val pv.same (.int _)⟩
  · obtain ⟨⟨a1, a2, hl⟩, e⟩ := go_some (show go _ _ = _ from hz)
    cases e
    obtain ⟨rfl, _, _, b1⟩ := pv.rep.str_inv; obtain ⟨rfl, _⟩ := pw.rep.int_inv
    refine .inr (.inl ⟨_, _, rfl, rfl, a1, a2, by rw [mkS_len, SZ_eq]; exact hl, ?_⟩)
    rw [mkS_tl]
    exact hd.val pv.same (.str (b1.rep _))
  · obtain ⟨⟨a1, a2, hl⟩, e⟩ := go_some (show go _ _ = _ from hz)
    cases e
    rename_i xs j
    obtain ⟨a, vs, Z1, e1, h1, r1, z1⟩ := pv.lst_inv
    obtain ⟨rfl, _⟩ := pw.rep.int_inv
    refine .inr (.inr ⟨a, _, vs, e1, rfl, h1, by omega, by omega, by rw [← r1.length, SZ_eq]; exact hl, fun p hp => ?_⟩)
    obtain ⟨Z', r', h'⟩ := r1.rep j.toNat
    obtain ⟨O, Z, pp⟩ := PVal.newList pv.same r' (fun b q => z1 b (h' b q)) hp
    by_cases hj : j.toNat = 0
    · rw [hj] at pp ⊢
      rw [hj] at hd
      have : lv1 (List.replicate 0 xs).flatten = 9 := rfl
      rw [this] at pp
      obtain ⟨O', Z', p', _⟩ := pp.low (m := lv1 xs) (by unfold lv1; split <;> omega)
      exact hd _ _ _ _ p'
    · rw [lv1_rep hj] at pp
      exact hd _ _ _ _ pp
theorem op_bin : ∀ o : BO, OpR X (binaryOp o.op) (r2 X CA W σ0 (binD o))
  | .add => op_badd
  | .mul => op_bmul
  | .sub => by
    refine OpR.weak' op_sub fun d e n m x y H0 H M Ox Zx Oy Zy z Q pv pw hz hd => ?_
    cases d <;> first | (cases hz; done) | skip
    cases e <;> first | (cases hz; done) | skip
    cases hz; obtain ⟨rfl, _⟩ := pv.rep.int_inv; obtain ⟨rfl, _⟩ := pw.rep.int_inv
    exact ⟨_, _, rfl, rfl, hd.val pv.same (.int _)⟩
  | .fdv => by
    refine OpR.weak' op_fdivN fun d e n m x y H0 H M Ox Zx Oy Zy z Q pv pw hz hd => ?_
    cases d <;> first | (cases hz; done) | skip
    cases e <;> first | (cases hz; done) | skip
    obtain ⟨hl, e⟩ := go_some (show go _ _ = _ from hz)
    cases e; obtain ⟨rfl, _⟩ := pv.rep.int_inv; obtain ⟨rfl, _⟩ := pw.rep.int_inv
    exact ⟨_, _, rfl, rfl, hl, hd.val pv.same (.int _)⟩
  | .mod => by
    refine OpR.weak' op_modN fun d e n m x y H0 H M Ox Zx Oy Zy z Q pv pw hz hd => ?_
    cases d <;> first | (cases hz; done) | skip
    cases e <;> first | (cases hz; done) | skip
    obtain ⟨hl, e⟩ := go_some (show go _ _ = _ from hz)
    cases e; obtain ⟨rfl, _⟩ := pv.rep.int_inv; obtain ⟨rfl, _⟩ := pw.rep.int_inv
    exact ⟨_, _, rfl, rfl, hl, hd.val pv.same (.int _)⟩
  | .pow => by
    refine OpR.weak' op_pow fun d e n m x y H0 H M Ox Zx Oy Zy z Q pv pw hz hd => ?_
    cases d <;> first | (cases hz; done) | skip
    cases e <;> first | (cases hz; done) | skip
    obtain ⟨hl, e⟩ := go_some (show go _ _ = _ from hz)
    cases e; obtain ⟨rfl, _⟩ := pv.rep.int_inv; obtain ⟨rfl, _⟩ := pw.rep.int_inv
    exact ⟨_, _, rfl, rfl, hl, hd.val pv.same (.int _)⟩
end

/-! ### items -/
theorem ix_eq (n : Nat) (i : Int) : ix n i = ixN n i := rfl
theorem Reps.atI {K : PySem.W.Frag} {CA : Nat → Addr} {H : Hp} {ds : List D} {vs : List V} {Z : List Addr} {i : Int} {d : D} (r : Reps K CA H 0 ds vs [] Z) (h : at? ds i = some d) :
    ∃ v Z1, L2.atI vs i = some v ∧ Rep K CA H 0 d v [] Z1 ∧ ∀ a ∈ Z1, a ∈ Z := by
  obtain ⟨j, hj, hd⟩ := Option.bind_eq_some_iff.mp h
  obtain ⟨v, Z1, e, q, hz⟩ := r.get0 j d hd
  refine ⟨v, Z1, ?_, q, hz⟩
  show (ixN vs.length i).bind _ = _
  rw [← r.length, ← ix_eq, hj]
  exact e
theorem IxR.weak {X : Cx} {r r' : R2} (h : IxR X r) (w : ∀ x y H Q, r' x y H Q → r x y H Q) : IxR X r' := fun va sl pins s σ H x y v u Q I rx ry q => h va sl pins s σ H x y v u Q I rx ry (w _ _ _ _ q)
theorem IxR.weak' {X : Cx} {CA : Nat → Addr} {W : WX} {σ0 : St} {g : D × Nat → D × Nat → Option (D × Nat)} {r : R2} (h : IxR X r)
    (w : ∀ (d e : D) (n m : Nat) x y H0 H (M : Addr → Prop) Ox Zx Oy Zy (z : D × Nat) (Q : VK), PVal X.K CA M H0 H d n x Ox Zx → PVal X.K CA M H0 H e m y Oy Zy → g (d, n) (e, m) = some z → Den X.K CA W M (.ok z) σ0 H0 Q → r x y H Q) : IxR X (r2 X CA W σ0 g) := by
  intro va sl pins s σ H x y v u Q I rx ry h' hs
  obtain ⟨H0, M, ⟨d, n⟩, ⟨e, m⟩, Ox, Zx, Oy, Zy, pv, pw, hd⟩ := h'
  obtain ⟨z, e', hd⟩ := Den.ofv hd
  exact h va sl pins s σ H x y v u Q I rx ry (w d e n m x y H0 H M Ox Zx Oy Zy z Q pv pw e' hd) hs
def subV (p q : D × Nat) : Option (D × Nat) := subD p.1 q.1
def rIxD : R2 := fun x y H Q => ∃ a v, x = .ref a ∧ DGet H a y (some v) ∧ Q v H
theorem ix_dict {X : Cx} {k : Nat} (hr : Room k X.A) : IxR X rIxD := by
  intro va sl pins s σ H x y v u Q I rx ry ⟨a, w, e, g, q⟩ hs
  subst e
  obtain rfl : v = Value.ref a := rx
  exact tail_any (dict_typeIs I g) PySem.F.slot_dict_getitem.lookup (d_getItem (hu_of hr) I g ry fun w' s3 I3 rw' => ⟨w, H, I3, rw', q⟩) hs
theorem ix_sub {X : Cx} {CA : Nat → Addr} {W : WX} {σ0 : St} {k : Nat} (hr : Room k X.A) : IxR X (r2 X CA W σ0 subV) := by
  refine IxR.weak' (ix_seq.or (ix_dict hr)) fun d e n m x y H0 H M Ox Zx Oy Zy z Q pv pw hz hd => ?_
  have hz : subD d e = some z := hz
  cases d <;> first | (cases hz; done) | skip
  · cases e <;> first | (cases hz; done) | skip
    obtain ⟨hl, e⟩ := go_some (show go _ _ = _ from hz)
    obtain ⟨c, e2, rfl⟩ := Option.map_eq_some_iff.mp e
    obtain ⟨rfl, _, _, b⟩ := pv.rep.str_inv; obtain ⟨rfl, _⟩ := pw.rep.int_inv
    refine .inl (.inr (.inr ⟨_, _, c, rfl, rfl, by rw [mkS_len, SZ_eq]; exact hl, by rw [mkS_tl]; exact e2, ?_⟩))
    have hc : c < 1114112 := by
      obtain ⟨j, _, hj⟩ := Option.bind_eq_some_iff.mp e2
      exact b c (List.mem_of_getElem? hj)
    exact hd.val pv.same (.str (s := [c]) fun a q => by simp at q; subst q; exact hc)
  · cases e <;> first | (cases hz; done) | skip
    obtain ⟨c, e, rfl⟩ := Option.map_eq_some_iff.mp hz
    obtain ⟨a, vs, Z0, e1, h1, r, z0⟩ := pv.tup_inv; obtain ⟨rfl, _⟩ := pw.rep.int_inv
    obtain ⟨v, Z1, q1, q2, q3⟩ := r.atI e
    exact .inl (.inr (.inl ⟨a, vs, _, v, e1, rfl, h1, q1, hd v H [] Z1 ⟨pv.same, q2, by simp, by simp, fun b q => z0 b (q3 b q), by simp⟩⟩))
  · cases e <;> first | (cases hz; done) | skip
    obtain ⟨c, e, rfl⟩ := Option.map_eq_some_iff.mp hz
    obtain ⟨a, vs, Z0, e1, h1, r, z0⟩ := pv.lst_inv; obtain ⟨rfl, _⟩ := pw.rep.int_inv
    obtain ⟨v, Z1, q1, q2, q3⟩ := r.atI e
    exact .inl (.inl ⟨a, vs, _, v, e1, rfl, .of h1, q1, hd v H [] Z1 ⟨pv.same, q2, by simp, by simp, fun b q => z0 b (q3 b q), by simp⟩⟩)
  · obtain ⟨h1, e'⟩ := go_some (show go _ _ = _ from hz)
    obtain ⟨p, e2, rfl⟩ := Option.map_eq_some_iff.mp e'
    obtain ⟨κ, hk⟩ := Option.isSome_iff_exists.mp h1
    obtain ⟨a, kvs, O', Z', m', rfl, hrd, hko, hrs, hO, hZ⟩ := pv.rep.dct_inv
    obtain ⟨h1, _, _⟩ := dct_find hk hko.1 hrs
    obtain ⟨v, O1, Z1, q1, q2, q3, q4⟩ := h1 p e2
    refine .inr ⟨a, v, rfl, .inl ⟨kvs, κ, hrd, vKey_kV hk pw.rep, q1.symm⟩, ?_⟩
    obtain ⟨O2, Z2, q5, l⟩ := q2.low (Nat.zero_le _)
    have := q5.zero
    subst this
    refine hd v H [] Z2 ⟨pv.same, q5, by simp, by simp, fun b q => ?_, by simp⟩
    rcases l.all b q with z | z
    · exact .inl (pv.fresh b (hO b (q3 b z)))
    · exact pv.zin b (hZ b (q4 b z))
  · cases e <;> first | (cases hz; done) | skip
    obtain ⟨c, e, rfl⟩ := Option.map_eq_some_iff.mp hz
    obtain ⟨a, rfl, h1, _⟩ := pv.rep.scr_inv; obtain ⟨rfl, _⟩ := pw.rep.int_inv
    refine .inl (.inl ⟨a, _, _, .int c, rfl, rfl, h1.l, ?_, hd.val pv.same (.int _)⟩)
    obtain ⟨j, hj, hc⟩ := Option.bind_eq_some_iff.mp e
    show (ixN _ _).bind _ = _
    rw [List.length_map, ← ix_eq, hj]
    show (List.map V.int _)[j]? = _
    rw [List.getElem?_map, hc]; rfl

/-! ### slices -/
theorem cutV_cut (xs : List V) (lo hi : Option Int) : cutV xs lo hi = cut xs lo hi := by unfold cutV cut; rw [sx_eq, sx_eq]
theorem SlR.or {X : Cx} {r r' : V → Option Int → Option Int → Hp → VK → Prop} (h : SlR X r) (h' : SlR X r') : SlR X fun x l u H Q => r x l u H Q ∨ r' x l u H Q :=
  fun pins s σ H x v vl vu lo hi sl Q I rx hs pl pu q => q.elim (h pins s σ H x v vl vu lo hi sl Q I rx hs pl pu) (h' pins s σ H x v vl vu lo hi sl Q I rx hs pl pu)
theorem SlR.weak {X : Cx} {r r' : V → Option Int → Option Int → Hp → VK → Prop} (h : SlR X r) (w : ∀ x l u H Q, r' x l u H Q → r x l u H Q) : SlR X r' :=
  fun pins s σ H x v vl vu lo hi sl Q I rx hs pl pu q => h pins s σ H x v vl vu lo hi sl Q I rx hs pl pu (w _ _ _ _ _ q)
def rSl (X : Cx) (CA : Nat → Addr) (W : WX) (σ0 : St) : V → Option Int → Option Int → Hp → VK → Prop := fun x lo hi H Q => ∃ (H0 : Hp) (M : Addr → Prop) (p : D × Nat) (Ox Zx : List Addr), PVal X.K CA M H0 H p.1 p.2 x Ox Zx ∧ Den X.K CA W M (Out.of (slcD p.1 lo hi)) σ0 H0 Q
theorem Bd.cut {s : Cs} (h : Bd s) (lo hi : Option Int) : Bd (cut s lo hi) := fun c q => h c (List.mem_of_mem_drop (List.mem_of_mem_take q))
theorem mdepL_sub {xs ys : List D} (h : ∀ d ∈ ys, d ∈ xs) : mdepL ys ≤ mdepL xs := mdepL_le fun d hd => mdepL_mem (h d hd)
theorem lv1_sub {xs ys : List D} (h : ∀ d ∈ ys, d ∈ xs) : lv1 xs ≤ lv1 ys := by
  have := mdepL_sub h
  unfold lv1
  split <;> split <;> omega
theorem sl_all {X : Cx} {CA : Nat → Addr} {W : WX} {σ0 : St} : SlR X (rSl X CA W σ0) := by
  refine SlR.weak (SlR.or sl_list (SlR.or sl_tupA sl_str)) fun x lo hi H Q ⟨H0, M, ⟨d, n⟩, Ox, Zx, pv, hd⟩ => ?_
  obtain ⟨z, hz, hd'⟩ := Den.ofv hd
  replace hd := hd'
  clear hd'
  cases d <;> first | (cases hz; done) | skip
  · rename_i s
    obtain ⟨hl, e⟩ := go_some (show go _ _ = _ from hz)
    cases e
    obtain ⟨rfl, _, _, b⟩ := pv.rep.str_inv
    refine .inr (.inr ⟨_, rfl, by rw [mkS_len, SZ_eq]; exact hl, ?_⟩)
    have e : cutS (mkS s) lo hi = mkS (cut s lo hi) := by
      apply TL.ext_tl
      unfold cutS cut
      simp [mkS, Str.length, sx_eq]
    rw [e]
    exact hd.val pv.same (.str (b.cut _ _))
  · rename_i xs
    obtain ⟨hl, e⟩ := go_some (show go _ _ = _ from hz)
    cases e
    obtain ⟨a, vs, e1, h1, r⟩ := pv.rep.tup_inv
    subst e1
    obtain ⟨_, _, r0⟩ := r.imm (m := 9) hl
    obtain ⟨O1, Z1, r1, _, _⟩ := r0.drop (sx xs.length 0 lo)
    obtain ⟨O2, Z2, r2, _, _⟩ := r1.take (sx xs.length xs.length hi - sx xs.length 0 lo)
    have hm : mdepL (cut xs lo hi) = 0 := by
      have := mdepL_sub (xs := xs) (ys := cut xs lo hi) fun d hd => List.mem_of_mem_drop (List.mem_of_mem_take hd)
      omega
    have hc : cutV vs lo hi = (vs.drop (sx xs.length 0 lo)).take (sx xs.length xs.length hi - sx xs.length 0 lo) := by rw [cutV_cut, cut, ← r.length]
    refine .inr (.inl ⟨a, vs, rfl, h1, fun hw => ?_, fun hw p hp => ?_⟩)
    · rw [← sx_eq, ← sx_eq, ← r.length] at hw
      have e : cut xs lo hi = xs := by unfold cut; rw [hw.1, hw.2]; simp
      rw [e] at hd
      exact hd.val pv.same (.tup h1 r0)
    · rw [hc]
      exact hd _ _ _ _ (PVal.newTup pv.same r2 hm hp)
  · rename_i xs
    cases hz
    obtain ⟨a, vs, Z0, e1, h1, r, z0⟩ := pv.lst_inv
    refine .inl ⟨a, vs, e1, .of h1, fun p hp => ?_⟩
    obtain ⟨O1, Z1, r1, h3, h4⟩ := r.drop (sx xs.length 0 lo)
    obtain ⟨O2, Z2, r2, h5, h6⟩ := r1.take (sx xs.length xs.length hi - sx xs.length 0 lo)
    have : O2 = [] := r2.zero
    subst this
    have hc : cutV vs lo hi = (vs.drop (sx xs.length 0 lo)).take (sx xs.length xs.length hi - sx xs.length 0 lo) := by rw [cutV_cut, cut, ← r.length]
    rw [hc]
    obtain ⟨O, Z, pp⟩ := PVal.newList pv.same r2 (fun b q => z0 b (h4 b (h6 b q))) hp
    obtain ⟨O', Z', p', _⟩ := pp.low (m := lv1 xs) (lv1_sub fun d hd => List.mem_of_mem_drop (List.mem_of_mem_take hd))
    exact hd _ _ _ _ p'
  · rename_i ns
    cases hz
    obtain ⟨a, rfl, h1, _⟩ := pv.rep.scr_inv
    refine .inl ⟨a, _, rfl, h1.l, fun p hp => ?_⟩
    have ri : ∀ l : List Int, Reps X.K CA H 0 (l.map D.int) (l.map V.int) [] [] := fun l => by
      induction l with
      | nil => exact .nil
      | cons i r ih => exact Reps.cons (O := []) (Z := []) (.int i) ih
    have hc : cutV (ns.map V.int) lo hi = (cut ns lo hi).map V.int := by
      rw [cutV_cut]; unfold cut; rw [List.length_map, List.map_take, List.map_drop]
    rw [hc]
    have hm : lv1 ((cut ns lo hi).map D.int) = 9 := by
      unfold lv1; rw [if_pos]
      exact Nat.le_zero.mp (mdepL_le fun d h => by obtain ⟨i, _, rfl⟩ := List.mem_map.mp h; simp [D.mdep])
    obtain ⟨O, Z, pp⟩ := PVal.newList pv.same (ri (cut ns lo hi)) (by simp) hp
    rw [hm] at pp
    exact hd _ _ _ _ pp
end Vy

namespace Vy
open PySem PySem.Spec
open PyProof.Rows hiding St
open L2

/-! ## rows of values -/
section
variable (K : PySem.W.Frag) (CA : Nat → Addr)
inductive PVs (M : Addr → Prop) (H H' : Hp) : List (D × Nat) → List V → List Addr → List Addr → Prop
  | nil : PVs M H H' [] [] [] []
  | cons {p v O Z ps vs O' Z'} : PVal K CA M H H' p.1 p.2 v O Z → PVs M H H' ps vs O' Z' → (∀ a ∈ O', a ∉ O ++ Z) → (∀ a ∈ O, a ∉ Z') → PVs M H H' (p :: ps) (v :: vs) (O ++ O') (Z ++ Z')
def DenL (W : WX) (M : Addr → Prop) (o : Out (List (D × Nat))) (σ : St) (H : Hp) (Q : List V → Hp → Prop) : Prop :=
  match o with
  | .ok ps => ∀ vs H' O Z, Same H H' → PVs K CA M H H' ps vs O Z → Q vs H'
  | .exc e => ∀ cls dd H', Same H H' → ExRep K CA e cls dd H' → W cls dd σ H'
  | .bad => False
end
section
variable {K : PySem.W.Frag} {CA : Nat → Addr} {S : Slots} {σ : St} {H H0 H1 H2 H' : Hp} {W : WX} {M M' Ma : Addr → Prop} {O Z : List Addr} {ps : List (D × Nat)} {vs : List V}
theorem PVs.mono (h : ∀ a, M a → M' a) (p : PVs K CA M H H' ps vs O Z) : PVs K CA M' H H' ps vs O Z := by
  induction p with
  | nil => exact .nil
  | cons q _ a b ih => exact .cons (q.mono h) ih a b
theorem PVs.later (p : PVs K CA M H H1 ps vs O Z) (s : Same H1 H2) : PVs K CA M H H2 ps vs O Z := by
  induction p with
  | nil => exact .nil
  | cons q _ a b ih => exact .cons (q.later s) ih a b
theorem PVs.ahead (s : Same H H1) (p : PVs K CA M H1 H2 ps vs O Z) : PVs K CA M H H2 ps vs O Z := by
  induction p with
  | nil => exact .nil
  | cons q _ a b ih => exact .cons (q.ahead s) ih a b
theorem PVs.fresh (p : PVs K CA M H H' ps vs O Z) : ∀ a ∈ O, H a = none := by
  induction p with
  | nil => simp
  | cons q _ a b ih => exact fun x h => (List.mem_append.mp h).elim (q.fresh x) (ih x)
theorem PVs.zin (p : PVs K CA M H H' ps vs O Z) : ∀ a ∈ Z, H a = none ∨ M a := by
  induction p with
  | nil => simp
  | cons q _ a b ih => exact fun x h => (List.mem_append.mp h).elim (q.zin x) (ih x)
theorem PVs.there (p : PVs K CA M H H' ps vs O Z) : ∀ a ∈ O ++ Z, H' a ≠ none := by
  induction p with
  | nil => simp
  | cons q _ a b ih =>
    intro x h
    simp only [List.mem_append] at h
    rcases h with (h | h) | h | h
    · exact q.rep.there x (by simp [h])
    · exact ih x (by simp [h])
    · exact q.rep.there x (by simp [h])
    · exact ih x (by simp [h])
theorem PVs.nd (p : PVs K CA M H H' ps vs O Z) : O.Nodup := by
  induction p with
  | nil => simp
  | cons q _ a b ih =>
    refine List.nodup_append.mpr ⟨q.nd, ih, fun x hx y hy e => ?_⟩
    subst e
    exact a x hy (by simp [hx])
theorem PVs.zo (p : PVs K CA M H H' ps vs O Z) : ∀ a ∈ Z, a ∉ O := by
  induction p with
  | nil => simp
  | cons q _ a b ih =>
    intro x h z
    rcases List.mem_append.mp h with h | h <;> rcases List.mem_append.mp z with z | z
    · exact q.zo x h z
    · exact a x z (by simp [h])
    · exact b x z h
    · exact ih x h z
theorem PVs.length (p : PVs K CA M H H' ps vs O Z) : ps.length = vs.length := by
  induction p with
  | nil => rfl
  | cons q _ a b ih => simp [ih]
/-- together, as a row of data at a level -/
theorem PVs.reps (p : PVs K CA M H H' ps vs O Z) : ∀ m, m ≤ lvL ps → ∃ O' Z', Reps K CA H' m (ps.map (·.1)) vs O' Z' ∧ Low O Z O' Z' := by
  induction p with
  | nil => exact fun m _ => ⟨[], [], .nil, .refl⟩
  | @cons q v O1 Z1 ps vs O2 Z2 pv _ a b ih =>
    intro m hm
    obtain ⟨d, n⟩ := q
    rw [lvL] at hm
    by_cases hd : d.mdep = 0
    · rw [if_pos hd] at hm
      obtain ⟨O', Z', r, l⟩ := ih m hm
      obtain ⟨e1, e2, r1⟩ := pv.rep.imm (m := m) hd
      subst e1; subst e2
      exact ⟨_, _, .cons r1 r, Low.append .refl l⟩
    · rw [if_neg hd] at hm
      obtain ⟨O', Z', r, l⟩ := ih m (by omega)
      obtain ⟨O3, Z3, r1, l1⟩ := pv.rep.low (m := m) (by show m ≤ n; omega)
      exact ⟨_, _, .cons r1 r, Low.append l1 l⟩
theorem PVs.reps0 (p : PVs K CA M H H' ps vs O Z) : ∃ Z', Reps K CA H' 0 (ps.map (·.1)) vs [] Z' ∧ ∀ a ∈ Z', H a = none ∨ M a := by
  obtain ⟨O', Z', r, l⟩ := p.reps 0 (Nat.zero_le _)
  have := r.zero
  subst this
  exact ⟨Z', r, fun a h => (l.all a h).elim (fun z => .inl (p.fresh a z)) (p.zin a)⟩
theorem DenL.seq {x : Out (List (D × Nat))} {f : List (D × Nat) → Out (D × Nat)} {Q : VK} {Q1 : List V → Hp → Prop} (s : Same H0 H1) (h : Den K CA W M (x.bind f) σ H0 Q)
    (k : ∀ ps vs H2 O Z, x = .ok ps → Same H1 H2 → PVs K CA Ma H1 H2 ps vs O Z → Den K CA W M (f ps) σ H0 Q → Q1 vs H2) : DenL K CA W Ma x σ H1 Q1 := by
  cases x with
  | ok p => exact fun vs H2 O Z s2 pv => k p vs H2 O Z rfl s2 pv h
  | exc e => exact fun cls dd H' s' r => h cls dd H' (s.trans s') r
  | bad => exact h
end

/-! ## the context of a body -/
structure Nm where
  N : List Str
  fn : Nat → Str
  gn : Nat → Str
  cn : Nat → Str
/-- what the static scope tells of the names -/
structure ScOk (sc : Scope) (X : Cx) : Prop where
  loc : ∀ x, sc.names.lookup x = some .local → X.env.scope.names.lookup x = some .local
  cel : ∀ x, sc.names.lookup x = some .cell → X.env.scope.names.lookup x = some .cell ∧ X.fn x = true
  fre : ∀ x, sc.names.lookup x = some .free → X.env.scope.names.lookup x = some .free ∨ X.env.scope.names.lookup x = some .cell
  glo : ∀ x, sc.names.lookup x = some .globalImplicit → X.env.kindOf x = some .globalImplicit
/-- what a def of the table promises -/
def spF (K : PySem.W.Frag) (CA : Nat → Addr) (cf : Nat → List D → Out (D × Nat)) (np : Nat) (f : Nat) : Sp := fun vs H Q E =>
  vs.length = np ∧ ∃ ds Z, Reps K CA H 0 ds vs [] Z ∧ Den K CA (fun cls dd _ H' => E cls dd H') (fun a => a ∈ Z) (cf f ds) [] H Q
structure FnRec (X : Cx) (CA : Nat → Addr) (cf : Nat → List D → Out (D × Nat)) (k : Nat) (x : Str) (f : Nat) (np : Nat) : Prop where
  ex : ∃ (a : Addr) (fd : FuncData) (ps : List Str), X.mg x = some (.ref a) ∧ PySem.W.keepIn X.K (.ref a) = true ∧ Binds X.K fd ps [] ∧ ps.length = np ∧ FnOk X.prog X.w X.K X.mg X.base (L2.CX X.prog X.w) k a fd ps (spF X.K CA cf np f)
structure CtxOk (X : Cx) (nm : Nm) (G : Glo) (CA : Nat → Addr) (cf : Nat → List D → Out (D × Nat)) (np : Nat → Option Nat) (bl : List Str) : Prop where
  N : X.N = nm.N
  nd : X.N.Nodup
  calm : X.calm = true
  lev : ∃ k, Room k X.A ∧ ∀ f n, np f = some n → FnRec X CA cf k (nm.fn f) f n
  blt : ∀ x ∈ bl, X.mg x = none
  glb : ∀ g d, G.gv g = some d → ∃ u v, X.mg (nm.gn g) = some u ∧ RelV v u ∧ ∀ H, Rep X.K CA H 9 d v [] []
end Vy

namespace Vy
open PySem PySem.Spec
open PyProof.Rows hiding St
open L2

theorem BoolOp_and2 : True := trivial
section
variable {X : Cx} {nm : Nm} {G : Glo} {CA : Nat → Addr} {cf : Nat → List D → Out (D × Nat)} {W : WX}
/-- an expression's reading by values -/
def tE (X : Cx) (G : Glo) (CA : Nat → Addr) (cf : Nat → List D → Out (D × Nat)) (W : WX) (c : C) : TE := fun σ H Q => ∃ S, SRep X.K CA S σ H ∧ Den X.K CA W (Nod S (names c)) (ev G cf (envOf S) c) σ H Q
def tL (X : Cx) (G : Glo) (CA : Nat → Addr) (cf : Nat → List D → Out (D × Nat)) (W : WX) (cs : List C) : TA := fun σ H Q => ∃ S, SRep X.K CA S σ H ∧ DenL X.K CA W (Nod S (namesL cs)) (evs G cf (envOf S) cs) σ H Q
def DenB (K : PySem.W.Frag) (CA : Nat → Addr) (W : WX) (o : Out Bool) (σ : St) (H : Hp) (Q : Bool → Hp → Prop) : Prop :=
  match o with
  | .ok b => ∀ H', Same H H' → Q b H'
  | .exc e => ∀ cls dd H', Same H H' → ExRep K CA e cls dd H' → W cls dd σ H'
  | .bad => False
def evB (G : Glo) (cf : Nat → List D → Out (D × Nat)) (ρ : Env) (c : C) : Out Bool := (ev G cf ρ c).bind fun x => .of (truth x.1)
def tT (X : Cx) (G : Glo) (CA : Nat → Addr) (cf : Nat → List D → Out (D × Nat)) (W : WX) (c : C) : TT := fun σ H Q => ∃ S, SRep X.K CA S σ H ∧ DenB X.K CA W (evB G cf (envOf S) c) σ H Q


theorem envOf_get (S : Slots) (i : Nat) : ((envOf S)[i]?).bind id = ((S[i]?).bind id).map fun r => (r.d, r.n) := by
  unfold envOf
  rw [List.getElem?_map]
  cases S[i]? with
  | none => rfl
  | some o => cases o <;> rfl
theorem e_var {i : Nat} {x : Str} {pos : Pos} (hN : X.N[i]? = some x) (hv : Vis X.env.scope x) (hd : (x == ("__debug__" : Str)) = false) (hcd : (x == ("__classdict__" : Str)) = false) : PE X (.Name x pos) (tE X G CA cf W (.var i)) := by
  refine PE.weak (pe_var hN hv hd hcd) fun σ H Q ⟨S, sr, hd⟩ => ?_
  obtain ⟨p, hp, hd⟩ := Den.ofv (show Den _ _ _ _ (Out.of _) _ _ _ from hd)
  rw [envOf_get] at hp
  obtain ⟨q, hq, e⟩ := Option.map_eq_some_iff.mp hp
  obtain ⟨r, hr, e2⟩ := Option.map_eq_some_iff.mp hq
  subst e2; subst e
  have hi : S[i]? = some (some r) := by
    cases h : S[i]? with
    | none => rw [h] at hr; cases hr
    | some o => rw [h] at hr; cases o with
      | none => cases hr
      | some r' => cases hr; rfl
  obtain ⟨h1, h2⟩ := sr.rep i r hi
  obtain ⟨O', Z', r', l⟩ := h2.low (Nat.zero_le _)
  have := r'.zero
  subst this
  exact ⟨r.v, h1, hd r.v H [] Z' ⟨Same.refl H, r', by simp, by simp, fun a q => .inr ⟨i, by simp [names], r, hi, by
    rcases l.all a q with z | z <;> simp [z]⟩, by simp⟩⟩
def bdB (s : Cs) : Bool := s.all (· < 1114112)
theorem bdB_ok {s : Cs} (h : bdB s = true) : Bd s := fun c q => by
  have := List.all_eq_true.mp h c q
  simpa using this
theorem e_int {i : Int} {j pos} : PE X (.Constant (.int i) j pos) (tE X G CA cf W (.cst (.int i))) := PE.weak pe_int fun σ H Q ⟨S, sr, hd⟩ => hd _ H [] [] (.imm (Same.refl H) (.int i))
theorem e_bl {b : Bool} {j pos} : PE X (.Constant (.bool b) j pos) (tE X G CA cf W (.cst (.bl b))) := PE.weak pe_bl fun σ H Q ⟨S, sr, hd⟩ => hd _ H [] [] (.imm (Same.refl H) (.bl b))
theorem e_non {j pos} : PE X (.Constant .none j pos) (tE X G CA cf W (.cst .non)) := PE.weak pe_non fun σ H Q ⟨S, sr, hd⟩ => hd _ H [] [] (.imm (Same.refl H) .non)
theorem e_str {x : Str} {s : Cs} {j pos} (e : x = mkS s) (h : bdB s = true) : PE X (.Constant (.str x) j pos) (tE X G CA cf W (.cst (.str s))) := by
  subst e
  exact PE.weak pe_str fun σ H Q ⟨S, sr, hd⟩ => hd _ H [] [] (.imm (Same.refl H) (.str (bdB_ok h)))
theorem e_glb {g : Nat} {x : Str} {pos : Pos} {np : Nat → Option Nat} {bl : List Str} (C : CtxOk X nm G CA cf np bl) (hx : x = nm.gn g) (hg : Gl X x) (hg' : (G.gv g).isSome = true) (hd : (x == ("__debug__" : Str)) = false) : PE X (.Name x pos) (tE X G CA cf W (.glb g)) := by
  obtain ⟨d, hd'⟩ := Option.isSome_iff_exists.mp hg'
  obtain ⟨u, v, h1, h2, h3⟩ := C.glb g d hd'
  subst hx
  refine PE.weak (pe_glob hg h1 h2 hd) fun σ H Q ⟨S, sr, hh⟩ => ?_
  have e : ev G cf (envOf S) (.glb g) = .ok (d, 9) := by simp [ev, hd']
  rw [e] at hh
  exact hh v H [] [] (.imm (Same.refl H) (h3 H))
theorem Nod.l {S : Slots} {is js : List Nat} {a : Addr} : Nod S is a → Nod S (is ++ js) a := Nod.mono fun i h => List.mem_append_left _ h
theorem Nod.r {S : Slots} {is js : List Nat} {a : Addr} : Nod S js a → Nod S (is ++ js) a := Nod.mono fun i h => List.mem_append_right _ h
/-- two in a row -/
theorem two {a b c : C} {f : D × Nat → D × Nat → Option (D × Nat)} (hn : names c = names a ++ names b) (he : ∀ ρ, ev G cf ρ c = (ev G cf ρ a).bind fun x => (ev G cf ρ b).bind fun y => .of (f x y)) {σ0 : St} {σ : St} {H : Hp} {Q : VK}
    (h : tE X G CA cf W c σ H Q) : tE X G CA cf W a σ H fun x H1 => tE X G CA cf W b σ H1 fun y H2 => r2 X CA W σ f x y H2 Q := by
  obtain ⟨S, sr, hd⟩ := h
  rw [he, hn] at hd
  refine ⟨S, sr, Den.seq (Same.refl H) hd fun p v H1 O Z e1 pv hd1 => ?_⟩
  refine ⟨S, sr.same pv.same, Den.seq pv.same hd1 fun q w H2 O' Z' e2 pw hd2 => ?_⟩
  exact ⟨H, _, p, q, O, Z, O', Z', (pv.later pw.same).mono fun a => Nod.l, (pw.ahead pv.same).mono fun a => Nod.r, hd2⟩
theorem e_bin {o : BO} {a b : C} {ea eb : Expr} {pos : Pos} (ha : PE X ea (tE X G CA cf W a)) (hb : PE X eb (tE X G CA cf W b)) : PE X (.BinOp ea o.op eb pos) (tE X G CA cf W (.bin o a b)) := by
  refine ⟨fun pins s σ H Q I h => ?_⟩
  exact (pe_op (op_bin (σ0 := σ) o) ha hb).run pins s σ H Q I (two rfl (fun ρ => by rw [ev]) (σ0 := σ) h)
theorem e_sub {a b : C} {ea eb : Expr} {pos : Pos} {k : Nat} (hr : Room k X.A) (ha : PE X ea (tE X G CA cf W a)) (hb : PE X eb (tE X G CA cf W b)) (hs : PlainIx eb) : PE X (.Subscript ea eb pos) (tE X G CA cf W (.sub a b)) := by
  refine ⟨fun pins s σ H Q I h => ?_⟩
  exact (pe_ix (ix_sub (σ0 := σ) hr) ha hb hs).run pins s σ H Q I (two (f := subV) rfl (fun ρ => by rw [ev]; rfl) (σ0 := σ) h)
theorem e_cmp {o : CO} {a b : C} {ea eb : Expr} {pos : Pos} {k : Nat} (hr : Room k X.A) (ha : PE X ea (tE X G CA cf W a)) (hb : PE X eb (tE X G CA cf W b)) (hm : behindInMarks o.op eb = false) : PE X (.Compare ea [o.op] [eb] pos) (tE X G CA cf W (.cmp o a b)) := by
  refine ⟨fun pins s σ H Q I h => ?_⟩
  exact (pe_cmpR (op_cmp (σ0 := σ) hr o) ha hb hm).run pins s σ H Q I (two (f := cmpV o) rfl (fun ρ => by rw [ev]; simp only [cmp_as]) (σ0 := σ) h)
/-- truth -/
theorem tru_of {d : D} {n : Nat} {v : V} {O Z : List Addr} {H : Hp} {b : Bool} (r : Rep X.K CA H n d v O Z) (h : truth d = some b) : TruV X.K v H b := by
  cases r with
  | non => cases h; rfl
  | bl => cases h; rfl
  | int => cases h; rfl
  | @str n s hb =>
    obtain ⟨hl, e⟩ : s.length ≤ SZ ∧ _ := by
      have h : (if s.length ≤ SZ then some (!s.isEmpty) else none) = some b := h
      split at h
      · exact ⟨by assumption, h⟩
      · cases h
    cases e
    refine ⟨by rw [mkS_len, SZ_eq]; exact hl, ?_⟩
    rw [mkS_len]
    cases s with
    | nil => rfl
    | cons c r => simp; omega
  | cls => cases h
  | scr e => cases h
  | tup e r => cases h; exact .inr (.inl ⟨_, e, by cases r <;> rfl⟩)
  | lstO e r => cases h; exact .inl ⟨_, .of e, by cases r <;> rfl⟩
  | lstZ e r => cases h; exact .inl ⟨_, .of e, by cases r <;> rfl⟩
  | dctO e r => cases h
  | dctZ e r => cases h
  | insO e r => cases h
  | insZ e r => cases h
end
end Vy

namespace Vy
open PySem PySem.Spec
open PyProof.Rows hiding St
open L2
section
variable {X : Cx} {nm : Nm} {G : Glo} {CA : Nat → Addr} {cf : Nat → List D → Out (D × Nat)} {W : WX}

theorem DenB.seq {K : PySem.W.Frag} {CA : Nat → Addr} {σ : St} {H0 H1 : Hp} {Ma : Addr → Prop} {x : Out (D × Nat)} {f : D × Nat → Out Bool} {Q : Bool → Hp → Prop} {Q1 : VK} (s : Same H0 H1) (h : DenB K CA W (x.bind f) σ H0 Q)
    (k : ∀ p v H2 O Z, x = .ok p → PVal K CA Ma H1 H2 p.1 p.2 v O Z → DenB K CA W (f p) σ H0 Q → Q1 v H2) : Den K CA W Ma x σ H1 Q1 := by
  cases x with
  | ok p => exact fun v H2 O Z pv => k p v H2 O Z rfl pv h
  | exc e => exact fun cls dd H' s' r => h cls dd H' (s.trans s') r
  | bad => exact h
theorem DenB.seqB {K : PySem.W.Frag} {CA : Nat → Addr} {σ : St} {H0 H1 : Hp} {x : Out Bool} {f : Bool → Out Bool} {Q : Bool → Hp → Prop} {Q1 : Bool → Hp → Prop} (s : Same H0 H1) (h : DenB K CA W (x.bind f) σ H0 Q)
    (k : ∀ b H2, x = .ok b → Same H1 H2 → DenB K CA W (f b) σ H0 Q → Q1 b H2) : DenB K CA W x σ H1 Q1 := by
  cases x with
  | ok p => exact fun H2 s2 => k p H2 rfl s2 h
  | exc e => exact fun cls dd H' s' r => h cls dd H' (s.trans s') r
  | bad => exact h
theorem Den.seqB {K : PySem.W.Frag} {CA : Nat → Addr} {σ : St} {H0 H1 : Hp} {M : Addr → Prop} {x : Out Bool} {f : Bool → Out (D × Nat)} {Q : VK} {Q1 : Bool → Hp → Prop} (s : Same H0 H1) (h : Den K CA W M (x.bind f) σ H0 Q)
    (k : ∀ b H2, x = .ok b → Same H1 H2 → Den K CA W M (f b) σ H0 Q → Q1 b H2) : DenB K CA W x σ H1 Q1 := by
  cases x with
  | ok p => exact fun H2 s2 => k p H2 rfl s2 h
  | exc e => exact fun cls dd H' s' r => h cls dd H' (s.trans s') r
  | bad => exact h
theorem DenB.of {K : PySem.W.Frag} {CA : Nat → Addr} {σ : St} {H : Hp} {x : Option Bool} {Q : Bool → Hp → Prop} (h : DenB K CA W (Out.of x) σ H Q) : ∃ b, x = some b ∧ ∀ H', Same H H' → Q b H' := by
  cases x with
  | none => exact h.elim
  | some b => exact ⟨b, rfl, h⟩
theorem obind_assoc {α β γ : Type} (x : Out α) (f : α → Out β) (g : β → Out γ) : (x.bind f).bind g = x.bind fun a => (f a).bind g := by cases x <;> rfl
theorem obind_of {α β : Type} (x : Option α) (f : α → Option β) : ((Out.of x).bind fun a => Out.of (f a)) = Out.of (x.bind f) := by cases x <;> rfl

/-! ### tests -/
/-- a value's truth as a test -/
theorem t_val {c : C} {e : Expr} (h : PE X e (tE X G CA cf W c)) (he : ∀ whole, isTrue e X.env whole = (do let v ← whole; standAt e.pos; holding [v] (truthy v))) : PT X e (tT X G CA cf W c) := by
  refine PT.weak (pt_truth h he) fun σ H Q ⟨S, sr, hd⟩ => ?_
  refine ⟨S, sr, DenB.seq (Same.refl H) hd fun p v H2 O Z e1 pv hd => ?_⟩
  obtain ⟨b, hb, q⟩ := DenB.of hd
  exact ⟨b, tru_of pv.rep hb, q H2 pv.same⟩
theorem twoB {a b : C} {f : D × Nat → D × Nat → Option Bool} {x : Out Bool} {σ : St} {H : Hp} {Q : Bool → Hp → Prop} {S : Slots} (sr : SRep X.K CA S σ H) (he : x = (ev G cf (envOf S) a).bind fun p => (ev G cf (envOf S) b).bind fun q => .of (f p q))
    (h : DenB X.K CA W x σ H Q) : tE X G CA cf W a σ H fun x H1 => tE X G CA cf W b σ H1 fun y H2 => r2 X CA W σ (fun p q => (f p q).map fun r => (.bl r, 9)) x y H2 fun z H3 => ∃ k, z = .bl k ∧ Q k H3 := by
  rw [he] at h
  refine ⟨S, sr, DenB.seq (Same.refl H) h fun p v H1 O Z e1 pv hd1 => ?_⟩
  refine ⟨S, sr.same pv.same, DenB.seq pv.same hd1 fun q w H2 O' Z' e2 pw hd2 => ?_⟩
  refine ⟨H, Nod S (names a ++ names b), p, q, O, Z, O', Z', (pv.later pw.same).mono fun a => Nod.l, (pw.ahead pv.same).mono fun a => Nod.r, ?_⟩
  obtain ⟨r, hr, hq⟩ := DenB.of hd2
  show Den X.K CA W _ (Out.of ((f p q).map _)) σ H _
  rw [hr]
  intro v' H' O3 Z3 p3
  exact ⟨r, p3.rep.bl_inv.1, hq H' p3.same⟩
theorem t_cmp {o : CO} {a b : C} {ea eb : Expr} {pos : Pos} {k : Nat} (hr : Room k X.A) (ha : PE X ea (tE X G CA cf W a)) (hb : PE X eb (tE X G CA cf W b)) (hm : behindInMarks o.op eb = false) : PT X (.Compare ea [o.op] [eb] pos) (tT X G CA cf W (.cmp o a b)) := by
  refine ⟨fun pins s σ H Q I h => ?_⟩
  obtain ⟨S, sr, hd⟩ := h
  refine (pt_cmpR (op_cmp (CA := CA) (W := W) (σ0 := σ) hr o) ha hb hm).run pins s σ H Q I ?_
  refine twoB (f := fun p q => cmpD o p.1 q.1) sr ?_ hd
  unfold evB
  rw [ev, obind_assoc]
  congr 1; funext p
  rw [obind_assoc]
  congr 1; funext q
  cases cmpD o p.1 q.1 <;> rfl
theorem PVal.rest {K : PySem.W.Frag} {CA : Nat → Addr} {M : Addr → Prop} {H H' : Hp} {d : D} {n : Nat} {v : V} {O Z : List Addr} (p : PVal K CA M H H' d n v O Z) : ∃ Z', PVal K CA (fun _ => True) H' H' d 0 v [] Z' := by
  obtain ⟨O', Z', r, l⟩ := p.rep.low (Nat.zero_le _)
  have := r.zero
  subst this
  exact ⟨Z', Same.refl _, r, by simp, by simp, fun _ _ => .inr trivial, by simp⟩
theorem chn_ok {o o' : CO} {a b c : C} {σ : St} {H : Hp} {Q : VK} {S : Slots} (sr : SRep X.K CA S σ H) (h : Den X.K CA W (Nod S (names (.chn o o' a b c))) (ev G cf (envOf S) (.chn o o' a b c)) σ H Q) :
    tChain (r2 X CA W σ (cmpV o)) (r2 X CA W σ (cmpV o')) (tE X G CA cf W a) (tE X G CA cf W b) (tE X G CA cf W c) σ H Q := by
  rw [ev] at h
  refine ⟨S, sr, Den.seq (Same.refl H) h fun p v H1 O Z e1 pv hd1 => ?_⟩
  refine ⟨S, sr.same pv.same, Den.seq pv.same hd1 fun q w H2 O' Z' e2 pw hd2 => ?_⟩
  obtain ⟨Zp, p0⟩ := (pv.later pw.same).rest
  obtain ⟨Zq, q0⟩ := pw.rest
  refine ⟨H2, fun _ => True, (p.1, 0), (q.1, 0), [], Zp, [], Zq, p0, q0, ?_⟩
  obtain ⟨r, hr, hd3⟩ := Den.of hd2
  unfold cmpV
  rw [hr]
  intro v' H3 O3 Z3 p3
  refine ⟨r, p3.rep.bl_inv.1, ?_⟩
  have s23 : Same H2 H3 := p3.same
  have s3 : Same H H3 := (pv.same.trans pw.same).trans s23
  cases r with
  | false =>
    rw [if_neg (by decide)] at hd3 ⊢
    exact hd3.val s3 (.bl false)
  | true =>
    rw [if_pos rfl] at hd3 ⊢
    refine ⟨S, sr.same s3, Den.seq s3 hd3 fun z w' H4 O4 Z4 e4 pz hd4 => ?_⟩
    rw [cmp_as] at hd4
    exact ⟨H, Nod S (names (.chn o o' a b c)), q, z, _, _, _, _, ((pw.ahead pv.same).later (s23.trans pz.same)).mono fun a h => Nod.r (Nod.l h), (pz.ahead s3).mono fun a h => Nod.r (Nod.r h), hd4⟩
theorem e_chn {o o' : CO} {a b c : C} {ea eb ec : Expr} {pos : Pos} {k : Nat} (hr : Room k X.A) (ha : PE X ea (tE X G CA cf W a)) (hb : PE X eb (tE X G CA cf W b)) (hc : PE X ec (tE X G CA cf W c)) (hm : lastMarks [o.op, o'.op] [eb, ec] = false) : PE X (.Compare ea [o.op, o'.op] [eb, ec] pos) (tE X G CA cf W (.chn o o' a b c)) := by
  refine ⟨fun pins s σ H Q I ⟨S, sr, h⟩ => ?_⟩
  exact (pe_chain (op_cmp (CA := CA) (W := W) (σ0 := σ) hr o) (op_cmp (CA := CA) (W := W) (σ0 := σ) hr o') ha hb hc hm).run pins s σ H Q I (chn_ok sr h)
theorem chn_val {o o' : CO} {a b c : C} {ρ : Env} {p : D × Nat} (h : ev G cf ρ (.chn o o' a b c) = .ok p) : ∃ r, p = (.bl r, 9) := by
  rw [ev] at h
  obtain ⟨x, _, h⟩ := Out.bind_eq_ok h
  obtain ⟨y, _, h⟩ := Out.bind_eq_ok h
  obtain ⟨r, _, h⟩ := Out.bind_eq_ok h
  split at h
  · obtain ⟨z, _, h⟩ := Out.bind_eq_ok h
    obtain ⟨q, _, h⟩ := Out.bind_eq_ok h
    cases h; exact ⟨_, rfl⟩
  · cases h; exact ⟨_, rfl⟩
/-- a comparison's own value, as a test -/
theorem as_test {c : C} {S : Slots} {σ : St} {H : Hp} {Q : Bool → Hp → Prop} (hv : ∀ p, ev G cf (envOf S) c = .ok p → ∃ r, p = (.bl r, 9)) (h : DenB X.K CA W (evB G cf (envOf S) c) σ H Q) :
    Den X.K CA W (Nod S (names c)) (ev G cf (envOf S) c) σ H fun z H3 => ∃ k, z = .bl k ∧ Q k H3 := by
  unfold evB at h
  cases e : ev G cf (envOf S) c with
  | ok p =>
    obtain ⟨r, rfl⟩ := hv p e
    rw [e] at h
    intro v' H' O Z pv
    exact ⟨r, pv.rep.bl_inv.1, h H' pv.same⟩
  | exc x => rw [e] at h; exact h
  | bad => rw [e] at h; exact h
theorem t_chn {o o' : CO} {a b c : C} {ea eb ec : Expr} {pos : Pos} {k : Nat} (hr : Room k X.A) (ha : PE X ea (tE X G CA cf W a)) (hb : PE X eb (tE X G CA cf W b)) (hc : PE X ec (tE X G CA cf W c)) (hm : lastMarks [o.op, o'.op] [eb, ec] = false) : PT X (.Compare ea [o.op, o'.op] [eb, ec] pos) (tT X G CA cf W (.chn o o' a b c)) := by
  refine ⟨fun pins s σ H Q I ⟨S, sr, h⟩ => ?_⟩
  exact (pt_chain (op_cmp (CA := CA) (W := W) (σ0 := σ) hr o) (op_cmp (CA := CA) (W := W) (σ0 := σ) hr o') ha hb hc hm).run pins s σ H Q I (chn_ok sr (as_test (fun p => chn_val) h))
theorem evB_not (ρ : Env) (a : C) : evB G cf ρ (.not a) = (evB G cf ρ a).bind fun b => .ok (!b) := by
  unfold evB; rw [ev, obind_assoc, obind_assoc]
  congr 1; funext x
  cases truth x.1 <;> rfl
theorem evB_and (ρ : Env) (a b : C) : evB G cf ρ (.and a b) = (evB G cf ρ a).bind fun r => if r = true then evB G cf ρ b else .ok false := by
  unfold evB; rw [ev, obind_assoc, obind_assoc]
  congr 1; funext x
  cases e : truth x.1 with
  | none => rfl
  | some r => cases r <;> simp [e]
theorem evB_or (ρ : Env) (a b : C) : evB G cf ρ (.or a b) = (evB G cf ρ a).bind fun r => if r = true then .ok true else evB G cf ρ b := by
  unfold evB; rw [ev, obind_assoc, obind_assoc]
  congr 1; funext x
  cases e : truth x.1 with
  | none => rfl
  | some r => cases r <;> simp [e]
theorem t_not {a : C} {ea : Expr} {pos : Pos} (ha : PT X ea (tT X G CA cf W a)) : PT X (.UnaryOp .Not ea pos) (tT X G CA cf W (.not a)) := by
  refine PT.weak (pt_not ha) fun σ H Q ⟨S, sr, h⟩ => ?_
  rw [evB_not] at h
  exact ⟨S, sr, DenB.seqB (Same.refl H) h fun b H2 _ s2 hd => hd H2 s2⟩
theorem t_and {a b : C} {ea eb : Expr} {rest : List Expr} {pos : Pos} (ha : PT X ea (tT X G CA cf W a)) (hb : PW X (.BoolOp .And (eb :: rest) pos) (tT X G CA cf W b)) : PW X (.BoolOp .And (ea :: eb :: rest) pos) (tT X G CA cf W (.and a b)) := by
  refine ⟨fun wh pins s σ H Q I ⟨S, sr, h⟩ => (pw_and ha hb).run wh pins s σ H Q I ?_⟩
  rw [evB_and] at h
  refine ⟨S, sr, DenB.seqB (Same.refl H) h fun r H2 _ s2 hd => ?_⟩
  cases r with
  | true => rw [if_pos rfl] at hd ⊢; exact ⟨S, sr.same s2, by cases e : evB G cf (envOf S) b with
    | ok x => rw [e] at hd; exact fun H' s' => hd H' (s2.trans s')
    | exc x => rw [e] at hd; exact fun cls dd H' s' r => hd cls dd H' (s2.trans s') r
    | bad => rw [e] at hd; exact hd⟩
  | false => rw [if_neg (by decide)] at hd ⊢; exact hd H2 s2
theorem t_or {a b : C} {ea eb : Expr} {rest : List Expr} {pos : Pos} (ha : PT X ea (tT X G CA cf W a)) (hb : PW X (.BoolOp .Or (eb :: rest) pos) (tT X G CA cf W b)) : PW X (.BoolOp .Or (ea :: eb :: rest) pos) (tT X G CA cf W (.or a b)) := by
  refine ⟨fun wh pins s σ H Q I ⟨S, sr, h⟩ => (pw_or ha hb).run wh pins s σ H Q I ?_⟩
  rw [evB_or] at h
  refine ⟨S, sr, DenB.seqB (Same.refl H) h fun r H2 _ s2 hd => ?_⟩
  cases r with
  | false => rw [if_neg (by decide)] at hd ⊢; exact ⟨S, sr.same s2, by cases e : evB G cf (envOf S) b with
    | ok x => rw [e] at hd; exact fun H' s' => hd H' (s2.trans s')
    | exc x => rw [e] at hd; exact fun cls dd H' s' r => hd cls dd H' (s2.trans s') r
    | bad => rw [e] at hd; exact hd⟩
  | true => rw [if_pos rfl] at hd ⊢; exact hd H2 s2
theorem t_and1 {b : C} {eb : Expr} {pos : Pos} (hb : PT X eb (tT X G CA cf W b)) : PW X (.BoolOp .And [eb] pos) (tT X G CA cf W b) := pw_and1 hb
theorem t_or1 {b : C} {eb : Expr} {pos : Pos} (hb : PT X eb (tT X G CA cf W b)) : PW X (.BoolOp .Or [eb] pos) (tT X G CA cf W b) := pw_or1 hb

/-! ### and, or, not as values -/
theorem e_not {a : C} {ea : Expr} {pos : Pos} (ha : PE X ea (tE X G CA cf W a)) : PE X (.UnaryOp .Not ea pos) (tE X G CA cf W (.not a)) := by
  refine PE.weak (pe_notT ha) fun σ H Q ⟨S, sr, h⟩ => ?_
  rw [ev] at h
  refine ⟨S, sr, Den.seq (Same.refl H) h fun p v H2 O Z e1 pv hd => ?_⟩
  obtain ⟨b, hb, hd⟩ := Den.of hd
  exact ⟨b, tru_of pv.rep hb, hd.val pv.same (.bl _)⟩
theorem e_neg {a : C} {ea : Expr} {pos : Pos} (ha : PE X ea (tE X G CA cf W a)) : PE X (.UnaryOp .USub ea pos) (tE X G CA cf W (.neg a)) := by
  refine PE.weak (pe_un un_neg ha) fun σ H Q ⟨S, sr, h⟩ => ?_
  rw [ev] at h
  refine ⟨S, sr, Den.seq (Same.refl H) h fun p v H2 O Z e1 pv hd => ?_⟩
  obtain ⟨d, n⟩ := p
  cases d <;> first | exact hd.elim | skip
  obtain ⟨rfl, _⟩ := pv.rep.int_inv
  exact ⟨_, rfl, hd.val pv.same (.int _)⟩
theorem e_and {a b : C} {ea eb : Expr} {rest : List Expr} {pos : Pos} (ha : PE X ea (tE X G CA cf W a)) (hb : PE X (.BoolOp .And (eb :: rest) pos) (tE X G CA cf W b)) : PE X (.BoolOp .And (ea :: eb :: rest) pos) (tE X G CA cf W (.and a b)) := by
  refine PE.weak (pe_andT ha hb) fun σ H Q ⟨S, sr, h⟩ => ?_
  rw [ev] at h
  refine ⟨S, sr, Den.seq (Same.refl H) h fun p v H2 O Z e1 pv hd => ?_⟩
  obtain ⟨r, hb, hd⟩ := Den.of hd
  refine ⟨r, tru_of pv.rep hb, ?_⟩
  cases r with
  | true => rw [if_pos rfl] at hd ⊢; exact ⟨S, sr.same pv.same, Den.pass pv.same (fun a => Nod.r) hd⟩
  | false => rw [if_neg (by decide)] at hd ⊢; exact hd v H2 O Z (pv.mono fun a => Nod.l)
theorem e_or {a b : C} {ea eb : Expr} {rest : List Expr} {pos : Pos} (ha : PE X ea (tE X G CA cf W a)) (hb : PE X (.BoolOp .Or (eb :: rest) pos) (tE X G CA cf W b)) : PE X (.BoolOp .Or (ea :: eb :: rest) pos) (tE X G CA cf W (.or a b)) := by
  refine PE.weak (pe_orT ha hb) fun σ H Q ⟨S, sr, h⟩ => ?_
  rw [ev] at h
  refine ⟨S, sr, Den.seq (Same.refl H) h fun p v H2 O Z e1 pv hd => ?_⟩
  obtain ⟨r, hb, hd⟩ := Den.of hd
  refine ⟨r, tru_of pv.rep hb, ?_⟩
  cases r with
  | false => rw [if_neg (by decide)] at hd ⊢; exact ⟨S, sr.same pv.same, Den.pass pv.same (fun a => Nod.r) hd⟩
  | true => rw [if_pos rfl] at hd ⊢; exact hd v H2 O Z (pv.mono fun a => Nod.l)
theorem e_one {o : PySem.BoolOp} {b : C} {eb : Expr} {pos : Pos} (hb : PE X eb (tE X G CA cf W b)) : PE X (.BoolOp o [eb] pos) (tE X G CA cf W b) := pe_one hb
theorem e_ife {t a b : C} {et ea eb : Expr} {pos : Pos} (ht : PT X et (tT X G CA cf W t)) (ha : PE X ea (tE X G CA cf W a)) (hb : PE X eb (tE X G CA cf W b)) : PE X (.IfExp et ea eb pos) (tE X G CA cf W (.ife t a b)) := by
  refine PE.weak (pe_ifExp ht ha hb) fun σ H Q ⟨S, sr, h⟩ => ?_
  rw [ev, ← obind_assoc] at h
  refine ⟨S, sr, Den.seqB (x := evB G cf (envOf S) t) (Same.refl H) h fun r H2 _ s2 hd => ?_⟩
  cases r with
  | true => rw [if_pos rfl] at hd ⊢; exact ⟨S, sr.same s2, Den.pass s2 (fun a h => Nod.r (Nod.l h)) hd⟩
  | false => rw [if_neg (by decide)] at hd ⊢; exact ⟨S, sr.same s2, Den.pass s2 (fun a h => Nod.r (Nod.r h)) hd⟩

/-! ### rows -/
theorem a_nil : PA X [] (tL X G CA cf W []) := PA.weak pa_nil fun σ H Q ⟨S, sr, h⟩ => h [] H [] [] (Same.refl H) .nil
theorem Nod.there {S : Slots} {σ : St} {H : Hp} (sr : SRep X.K CA S σ H) {is : List Nat} {a : Addr} (h : Nod S is a) : H a ≠ none := by
  obtain ⟨i, _, r, e, q⟩ := h
  exact (sr.rep i r e).2.there a q
theorem a_cons {c : C} {cs : List C} {e : Expr} {es : List Expr} (ha : PE X e (tE X G CA cf W c)) (hr : PA X es (tL X G CA cf W cs)) (hs : starEach (e :: es) X.env = (false, eval e X.env) :: starEach es X.env) : PA X (e :: es) (tL X G CA cf W (c :: cs)) := by
  refine PA.weak (pa_cons ha hr hs) fun σ H Q ⟨S, sr, h⟩ => ?_
  rw [evs] at h
  have key : ∀ {α : Type} (x : Out α), True := fun _ => trivial
  refine ⟨S, sr, ?_⟩
  cases e1 : ev G cf (envOf S) c with
  | exc x => rw [e1] at h; exact h
  | bad => rw [e1] at h; exact h
  | ok p =>
    rw [e1] at h
    simp only [Out.bind_ok] at h
    intro v H1 O Z pv
    refine ⟨S, sr.same pv.same, ?_⟩
    cases e2 : evs G cf (envOf S) cs with
    | exc x => rw [e2] at h; exact fun cls dd H' s' r => h cls dd H' (pv.same.trans s') r
    | bad => rw [e2] at h; exact h
    | ok ps =>
      rw [e2] at h
      intro vs H2 O' Z' s2 pw
      refine h _ _ _ _ (pv.same.trans s2) (.cons ((pv.later s2).mono fun a => Nod.l) ((pw.ahead pv.same).mono fun a => Nod.r) (fun a ha hb => ?_) fun a ha hb => ?_)
      · exact pv.rep.there a hb (pw.fresh a ha)
      · rcases pw.zin a hb with z | z
        · exact pv.rep.there a (by simp [ha]) z
        · exact Nod.there sr z (pv.fresh a ha)
theorem e_tup {cs : List C} {es : List Expr} {x1} {pos : Pos} (ha : PA X es (tL X G CA cf W cs)) : PE X (.Tuple es x1 pos) (tE X G CA cf W (.tup cs)) := by
  refine PE.weak (pe_tup ha) fun σ H Q ⟨S, sr, h⟩ => ?_
  rw [ev] at h
  refine ⟨S, sr, DenL.seq (Same.refl H) h fun ps vs H2 O Z e1 s2 pv hd => ?_⟩
  obtain ⟨hl, hd⟩ := hd.gd
  refine ⟨by rw [← pv.length, SZ_eq]; exact hl, fun p hp => ?_⟩
  have k : Same H2 (upd H2 p (.tup vs)) := sameNew hp
  obtain ⟨O', Z', r, l⟩ := pv.reps (lvL ps) (Nat.le_refl _)
  exact hd _ _ O' Z' ⟨s2.trans k, .tup (.of upd_same) (r.same k), fun a q => pv.fresh a (l.own a q), l.nd pv.nd, fun a q => (l.all a q).elim (fun z => .inl (pv.fresh a z)) (pv.zin a), l.zo pv.nd pv.zo⟩
theorem e_lst {cs : List C} {es : List Expr} {pos : Pos} (ha : PA X es (tL X G CA cf W cs)) : PE X (.List es pos) (tE X G CA cf W (.lst cs)) := by
  refine PE.weak (pe_lst ha) fun σ H Q ⟨S, sr, h⟩ => ?_
  rw [ev] at h
  refine ⟨S, sr, DenL.seq (Same.refl H) h fun ps vs H2 O Z e1 s2 pv hd => ?_⟩
  obtain ⟨hl, hd⟩ := hd.gd
  refine ⟨by rw [← pv.length, SZ_eq]; exact hl, fun p hp => ?_⟩
  have k : Same H2 (upd H2 p (.lst vs)) := sameNew hp
  obtain ⟨O', Z', r, l⟩ := pv.reps (lvL ps) (Nat.le_refl _)
  have hn : ∀ a ∈ O ++ Z, a ≠ p := fun a q e => pv.there a q (by rw [e]; exact hp)
  refine hd _ _ (p :: O') Z' ⟨s2.trans k, .lstO upd_same (r.same k), fun a q => ?_, ?_, fun a q => (l.all a q).elim (fun z => .inl (pv.fresh a z)) (pv.zin a), fun a q z => ?_⟩
  · rcases List.mem_cons.mp q with rfl | q
    · exact same_none s2 hp
    · exact pv.fresh a (l.own a q)
  · exact List.nodup_cons.mpr ⟨fun q => hn p (by simp [l.own p q]) rfl, l.nd pv.nd⟩
  · rcases List.mem_cons.mp z with rfl | z
    · exact hn a (by rcases l.all a q with w | w <;> simp [w]) rfl
    · exact l.zo pv.nd pv.zo a q z
theorem e_dct0 {pos : Pos} : PE X (.Dict [] [] pos) (tE X G CA cf W (.dct [] [])) := by
  refine PE.weak pe_dnewK fun σ H Q ⟨S, sr, h⟩ p hp => ?_
  have e : ev G cf (envOf S) (.dct [] []) = .ok (.dct [] [], 10) := by simp [ev, evs, dispD, unpair, go, keysOk, lvL]
  rw [e] at h
  exact h _ _ [p] [] ⟨sameNew hp, .dctO (n := 9) upd_same ⟨rfl, by simp, by simp⟩ .nil, by simpa using hp, by simp, by simp, by simp⟩
end
end Vy

namespace Vy
open PySem PySem.Spec
open PyProof.Rows hiding St
open L2
/-! ### no star -/
def noStar : Expr → Bool
  | .Starred _ _ => false
  | _ => true
theorem star_cons {e : Expr} {es : List Expr} {env : PySem.Env} (h : noStar e = true) : starEach (e :: es) env = (false, eval e env) :: starEach es env := by
  cases e <;> first | rfl | (cases h)
theorem star_all {env : PySem.Env} : ∀ {es : List Expr}, es.all noStar = true → ∀ x ∈ starEach es env, x.1 = false
  | [], _, x, hx => by cases hx
  | e :: es, h, x, hx => by
    rw [List.all_cons, Bool.and_eq_true] at h
    rw [star_cons h.1] at hx
    rcases List.mem_cons.mp hx with rfl | hx
    · rfl
    · exact star_all h.2 x hx

theorem back_any {env : PySem.Env} {es : List Expr} {pos : Pos} (h : es.all noStar = true) : (backTo pos (starEach es env)).any (·.1) = false := by
  rw [List.any_eq_false]
  intro x hx
  obtain ⟨y, hy, rfl⟩ := List.mem_map.mp hx
  simp [star_all h y hy]
theorem back_few {env : PySem.Env} {es : List Expr} {pos : Pos} (h : es.all noStar = true) (hl : es.length < 30) :
    ((backTo pos (starEach es env)).all (fun x => !x.1) && (backToKw pos (keywordEach [] env)).all (fun x => x.1.isSome)
      && decide (es.length + ([] : List Keyword).length + (if ([] : List Keyword).isEmpty then 0 else 1) < 30)) = true := by
  rw [Bool.and_eq_true, Bool.and_eq_true]
  refine ⟨⟨?_, rfl⟩, by simpa using hl⟩
  rw [List.all_eq_true]
  intro x hx
  obtain ⟨y, hy, rfl⟩ := List.mem_map.mp hx
  simp [star_all h y hy]
theorem back_one {env : PySem.Env} {e : Expr} {pos : Pos} (h : noStar e = true) : backTo pos (starEach [e] env) = [(false, eval e env)] := by
  rw [star_cons h]; rfl
theorem back_two {env : PySem.Env} {e f : Expr} {pos : Pos} (h : noStar e = true) (h' : noStar f = true) : backTo pos (starEach [e, f] env) = [(false, eval e env), (false, eval f env)] := by
  rw [star_cons h, star_cons h']; rfl
/-- no call of super in front of a method -/
def noSup : Expr → Bool
  | .Call (.Name _ _) [] [] _ => false
  | _ => true
theorem base_ok {o : Expr} {m : Str} {env : PySem.Env} (h : noSup o = true) : attributeBase o m env (eval o env) = eval o env := by
  unfold attributeBase
  split
  · simp [noSup] at h
  · rfl
section
variable {X : Cx} {nm : Nm} {G : Glo} {CA : Nat → Addr} {cf : Nat → List D → Out (D × Nat)} {W : WX}
/-! ### slices -/
def tO (X : Cx) (G : Glo) (CA : Nat → Addr) (cf : Nat → List D → Out (D × Nat)) (W : WX) (c : Option C) : TO := fun σ H Q => ∃ S, SRep X.K CA S σ H ∧ (match evo G cf (envOf S) c with
  | .ok o => ∀ H', Same H H' → Q o H'
  | .exc e => ∀ cls dd H', Same H H' → ExRep X.K CA e cls dd H' → W cls dd σ H'
  | .bad => False)
theorem o_none : PO X none (tO X G CA cf W none) := ⟨fun pins s σ H Q I ⟨S, sr, h⟩ => po_none.run pins s σ H Q I (h H (Same.refl H))⟩
theorem o_some {c : C} {e : Expr} (h : PE X e (tE X G CA cf W c)) : PO X (some e) (tO X G CA cf W (some c)) := by
  refine ⟨fun pins s σ H Q I ⟨S, sr, hd⟩ => (po_some h).run pins s σ H Q I ?_⟩
  rw [evo] at hd
  refine ⟨S, sr, ?_⟩
  cases e1 : ev G cf (envOf S) c with
  | exc x => rw [e1] at hd; exact hd
  | bad => rw [e1] at hd; exact hd
  | ok p =>
    rw [e1] at hd
    intro v H1 O Z pv
    obtain ⟨d, n⟩ := p
    cases d <;> first | exact hd.elim | skip
    exact ⟨_, pv.rep.int_inv.1, hd H1 pv.same⟩
theorem e_slc {a : C} {lo hi : Option C} {ea : Expr} {elo ehi : Option Expr} {p2 pos : Pos} (ha : PE X ea (tE X G CA cf W a)) (hl : PO X elo (tO X G CA cf W lo)) (hh : PO X ehi (tO X G CA cf W hi)) : PE X (.Subscript ea (.Slice elo ehi none p2) pos) (tE X G CA cf W (.slc a lo hi)) := by
  refine ⟨fun pins s σ H Q I ⟨S, sr, h⟩ => (pe_slice (sl_all (CA := CA) (W := W) (σ0 := σ)) ha hl hh).run pins s σ H Q I ?_⟩
  rw [ev] at h
  refine ⟨S, sr, Den.seq (Same.refl H) h fun p v H1 O Z e1 pv hd1 => ⟨S, sr.same pv.same, ?_⟩⟩
  cases e2 : evo G cf (envOf S) lo with
  | exc x => rw [e2] at hd1; exact fun cls dd H' s' r => hd1 cls dd H' (pv.same.trans s') r
  | bad => rw [e2] at hd1; exact hd1
  | ok l =>
    rw [e2] at hd1
    intro H2 s2
    refine ⟨S, sr.same (pv.same.trans s2), ?_⟩
    simp only [Out.bind_ok] at hd1
    cases e3 : evo G cf (envOf S) hi with
    | exc x => rw [e3] at hd1; exact fun cls dd H' s' r => hd1 cls dd H' ((pv.same.trans s2).trans s') r
    | bad => rw [e3] at hd1; exact hd1
    | ok u =>
      rw [e3] at hd1
      intro H3 s3
      exact ⟨H, _, p, O, Z, (pv.later (s2.trans s3)).mono fun a => Nod.l, hd1⟩
/-! ### calls of defs -/
theorem spF_of {f np : Nat} {cs : List C} {σ : St} {H : Hp} {Q : VK} {S : Slots} (sr : SRep X.K CA S σ H) (hn : cs.length = np) (h : Den X.K CA W (Nod S (names (.cal f cs))) (ev G cf (envOf S) (.cal f cs)) σ H Q) :
    tL X G CA cf W cs σ H fun vs H1 => spF X.K CA cf np f vs H1 Q (WE W σ) := by
  rw [ev] at h
  refine ⟨S, sr, DenL.seq (Same.refl H) h fun ps vs H2 O Z e1 s2 pv hd => ?_⟩
  obtain ⟨Z', r, hz⟩ := pv.reps0
  have hl : cs.length = ps.length := by
    clear h hd
    have : ∀ (cs : List C) (ps : List (D × Nat)), evs G cf (envOf S) cs = .ok ps → cs.length = ps.length := by
      intro cs
      induction cs with
      | nil => intro ps h; rw [evs] at h; cases h; rfl
      | cons c cs ih =>
        intro ps h
        rw [evs] at h
        obtain ⟨x, _, h⟩ := Out.bind_eq_ok h
        obtain ⟨xs, h2, h⟩ := Out.bind_eq_ok h
        cases h
        simp [ih xs h2]
    exact this cs ps e1
  refine ⟨by rw [← pv.length, ← hl, hn], ps.map (·.1), Z', r, ?_⟩
  cases e2 : cf f (ps.map (·.1)) with
  | bad => rw [e2] at hd; exact hd
  | exc x => rw [e2] at hd; exact fun cls dd H' s' q => hd cls dd H' (s2.trans s') q
  | ok q =>
    rw [e2] at hd
    intro v H' O' Z'' pw
    refine hd v H' O' Z'' ⟨s2.trans pw.same, pw.rep, fun a q => same_none s2 (pw.fresh a q), pw.nd, fun a q => ?_, pw.zo⟩
    rcases pw.zin a q with z | z
    · exact .inl (same_none s2 z)
    · exact hz a z
theorem e_cal0 {np : Nat → Option Nat} {bl : List Str} {f n : Nat} {x : Str} {p pos : Pos} (C : CtxOk X nm G CA cf np bl) (tk : Takes X W) (hf : np f = some n) (hx : x = nm.fn f) (hn : 0 = n) (hg : Gl X x)
    (hdb : (x == ("__debug__" : Str)) = false) : PE X (.Call (.Name x p) [] [] pos) (tE X G CA cf W (.cal f [])) := by
  obtain ⟨k, hr, hF⟩ := C.lev
  obtain ⟨a, fd, ps, h1, h2, h3, h4, h5⟩ := (hF f n hf).ex
  rw [← hx] at h1
  refine ⟨fun pins s σ H Q I ⟨S, sr, h⟩ => ?_⟩
  refine wpAny_Call_Name_kw (ld_glob I hg h1 ?_ hdb)
  refine PySem.W.callWith_K0 I.kIn h2 ?_
  obtain ⟨S', sr', q⟩ := spF_of (W := W) (np := n) sr (by simpa using hn) h
  exact run_fnS (us := []) h5 hr h3 (passAt tk σ) I .nil (q [] H [] [] (Same.refl H) .nil)
theorem e_cal {np : Nat → Option Nat} {bl : List Str} {f n : Nat} {x : Str} {cs : List C} {e : Expr} {es : List Expr} {p pos : Pos} (C : CtxOk X nm G CA cf np bl) (tk : Takes X W) (hf : np f = some n) (hx : x = nm.fn f) (hn : cs.length = n) (hg : Gl X x)
    (ha : PA X (e :: es) (tL X G CA cf W cs)) (hdb : (x == ("__debug__" : Str)) = false) (hs : (e :: es).all noStar = true) : PE X (.Call (.Name x p) (e :: es) [] pos) (tE X G CA cf W (.cal f cs)) := by
  obtain ⟨k, hr, hF⟩ := C.lev
  obtain ⟨a, fd, ps, h1, h2, h3, h4, h5⟩ := (hF f n hf).ex
  rw [← hx] at h1
  rw [List.all_cons, Bool.and_eq_true] at hs
  refine PE.weak (pe_callS h5 hr hg h1 h2 h3 (fun σ => passAt tk σ) ha hdb (star_cons hs.1) (back_any hs.2)) fun σ H Q ⟨S, sr, h⟩ => ?_
  exact spF_of sr hn h

/-! ### built-in functions -/
def rC (X : Cx) (CA : Nat → Addr) (W : WX) (σ0 : St) (f : Bi) : List V → Hp → VK → Prop := fun vs H2 Q => ∃ H M ps O Z, Same H H2 ∧ PVs X.K CA M H H2 ps vs O Z ∧ Den X.K CA W M (Out.of (bifD f ps)) σ0 H Q
theorem PVs.one_inv {K : PySem.W.Frag} {M : Addr → Prop} {H H2 : Hp} {p : D × Nat} {vs : List V} {O Z : List Addr} (h : PVs K CA M H H2 [p] vs O Z) : ∃ v, vs = [v] ∧ PVal K CA M H H2 p.1 p.2 v O Z := by
  cases h with
  | cons a b _ _ => cases b; exact ⟨_, rfl, by simpa using a⟩
theorem PVs.two_inv {K : PySem.W.Frag} {M : Addr → Prop} {H H2 : Hp} {p q : D × Nat} {vs : List V} {O Z : List Addr} (h : PVs K CA M H H2 [p, q] vs O Z) : ∃ v w O1 Z1 O2 Z2, vs = [v, w] ∧ PVal K CA M H H2 p.1 p.2 v O1 Z1 ∧ PVal K CA M H H2 q.1 q.2 w O2 Z2 := by
  cases h with
  | cons a b _ _ => obtain ⟨w, rfl, c⟩ := b.one_inv; exact ⟨_, _, _, _, _, _, rfl, a, c⟩
theorem CallR.one {v : Value} {f : Bi} {σ0 : St} {r : List V → Hp → VK → Prop} (h : CallR X v r) (h0 : ∀ ps, (∀ p, ps ≠ [p]) → bifD f ps = none)
    (w : ∀ (d : D) (n : Nat) x H0 H (M : Addr → Prop) Ox Zx (z : D × Nat) (Q : VK), PVal X.K CA M H0 H d n x Ox Zx → bifD f [(d, n)] = some z → Den X.K CA W M (.ok z) σ0 H0 Q → r [x] H Q) : CallR X v (rC X CA W σ0 f) := by
  refine CallR.weak h fun vs H Q ⟨H0, M, ps, O, Z, s, pv, hd⟩ => ?_
  obtain ⟨z, hz, hd'⟩ := Den.ofv hd
  by_cases hp : ∃ p, ps = [p]
  · obtain ⟨p, rfl⟩ := hp
    obtain ⟨v, rfl, q⟩ := pv.one_inv
    exact w _ _ v H0 H M O Z z Q q hz hd'
  · rw [h0 ps fun p e => hp ⟨p, e⟩] at hz; cases hz
theorem bool_list {K : PySem.W.Frag} {H : Hp} : ∀ {xs : List D} {vs : List V} {n : Nat} {O Z : List Addr} {bs : List Bool}, Reps K CA H n xs vs O Z → boolsOf xs = some bs → vs = bs.map V.bl
  | [], _, _, _, _, bs, .nil, h => by cases h; rfl
  | d :: r, _, _, _, _, bs, .cons a b, h => by
    cases d <;> first | (cases h; done) | skip
    obtain ⟨cs, h1, rfl⟩ := Option.map_eq_some_iff.mp h
    rw [a.bl_inv.1, bool_list b h1]; rfl
theorem int_list {K : PySem.W.Frag} {H : Hp} : ∀ {xs : List D} {vs : List V} {n : Nat} {O Z : List Addr} {bs : List Int}, Reps K CA H n xs vs O Z → intsOf xs = some bs → vs = bs.map V.int
  | [], _, _, _, _, bs, .nil, h => by cases h; rfl
  | d :: r, _, _, _, _, bs, .cons a b, h => by
    cases d <;> first | (cases h; done) | skip
    obtain ⟨cs, h1, rfl⟩ := Option.map_eq_some_iff.mp h
    rw [a.int_inv.1, int_list b h1]; rfl
theorem str_list {K : PySem.W.Frag} {H : Hp} : ∀ {xs : List D} {vs : List V} {n : Nat} {O Z : List Addr} {bs : List Cs}, Reps K CA H n xs vs O Z → strsOf xs = some bs → vs = bs.map (fun s => V.str (mkS s)) ∧ ∀ s ∈ bs, Bd s
  | [], _, _, _, _, bs, .nil, h => by cases h; exact ⟨rfl, by simp⟩
  | d :: r, _, _, _, _, bs, .cons a b, h => by
    cases d <;> first | (cases h; done) | skip
    obtain ⟨cs, h1, rfl⟩ := Option.map_eq_some_iff.mp h
    obtain ⟨e, _, _, hb⟩ := a.str_inv
    obtain ⟨e2, hb2⟩ := str_list b h1
    rw [e, e2]
    exact ⟨rfl, fun s hs => (List.mem_cons.mp hs).elim (fun z => by rw [z]; exact hb) (hb2 s)⟩
theorem call_lenR : CallR X (.builtin "len") (fun xs H Q => ∃ a kvs, xs = [V.ref a] ∧ Rd H a (.dK kvs) ∧ Q (.int kvs.length) H) := by
  intro pins s σ H xs us Q I r h
  obtain ⟨a, kvs, rfl, ha, q⟩ := h
  obtain ⟨u, rfl, ru⟩ := vals1 r
  cases ru
  exact d_len I ha fun t s' I' => ⟨.int kvs.length, H, I', ⟨t, rfl⟩, q⟩
theorem c_len {σ0 : St} : CallR X (.builtin "len") (rC X CA W σ0 .len) := by
  refine CallR.one (CallR.or call_len call_lenR) (fun ps h => ?_) fun d n x H0 H M Ox Zx z Q pv hz hd => ?_
  · match ps, h with
    | [], _ => rfl
    | [p], h => exact absurd rfl (h p)
    | p :: q :: r, _ => obtain ⟨d, n⟩ := p; cases d <;> rfl
  · cases d <;> first | (cases hz; done) | skip
    · obtain ⟨hl, e⟩ := go_some (show go _ _ = _ from hz)
      cases e
      obtain ⟨rfl, _⟩ := pv.rep.str_inv
      exact .inl ⟨_, _, rfl, ⟨by rw [mkS_len, SZ_eq]; exact hl, (mkS_len _).symm⟩, hd.val pv.same (.int _)⟩
    · cases hz
      obtain ⟨a, vs, rfl, h1, r⟩ := pv.rep.tup_inv
      exact .inl ⟨_, _, rfl, .inr ⟨vs, h1, r.length⟩, hd.val pv.same (.int _)⟩
    · cases hz
      obtain ⟨a, vs, Z0, rfl, h1, r, _⟩ := pv.lst_inv
      exact .inl ⟨_, _, rfl, .inl ⟨vs, .of h1, r.length⟩, hd.val pv.same (.int _)⟩
    · cases hz
      obtain ⟨a, kvs, O', Z', m, rfl, h1, h2, _⟩ := pv.rep.dct_inv
      have := congrArg List.length h2.1
      simp only [List.length_map] at this
      exact .inr ⟨_, _, rfl, h1, by rw [← this]; exact hd.val pv.same (.int _)⟩
    · cases hz
      obtain ⟨a, rfl, h1, _⟩ := pv.rep.scr_inv
      exact .inl ⟨_, _, rfl, .inl ⟨_, h1.l, by simp⟩, hd.val pv.same (.int _)⟩
theorem one_no {f : Bi} (h2 : ∀ p q r, bifD f (p :: q :: r) = none) (h0 : bifD f [] = none) : ∀ ps : List (D × Nat), (∀ p, ps ≠ [p]) → bifD f ps = none
  | [], _ => h0
  | [p], h => absurd rfl (h p)
  | p :: q :: r, _ => h2 p q r
theorem c_all {σ0 : St} (hc : X.calm = true) : CallR X (.builtin "all") (rC X CA W σ0 .all) := by
  refine CallR.one (cr_all hc) (one_no (fun p q r => by obtain ⟨d, n⟩ := p; cases d <;> rfl) rfl) fun d n x H0 H M Ox Zx z Q pv hz hd => ?_
  cases d <;> first | (cases hz; done) | skip
  obtain ⟨bs, hb, rfl⟩ := Option.map_eq_some_iff.mp hz
  obtain ⟨a, vs, Z0, rfl, h1, r, _⟩ := pv.lst_inv
  have := bool_list r hb
  subst this
  exact ⟨a, bs, rfl, .of h1, hd.val pv.same (.bl _)⟩
theorem c_any {σ0 : St} (hc : X.calm = true) : CallR X (.builtin "any") (rC X CA W σ0 .any) := by
  refine CallR.one (cr_any hc) (one_no (fun p q r => by obtain ⟨d, n⟩ := p; cases d <;> rfl) rfl) fun d n x H0 H M Ox Zx z Q pv hz hd => ?_
  cases d <;> first | (cases hz; done) | skip
  obtain ⟨bs, hb, rfl⟩ := Option.map_eq_some_iff.mp hz
  obtain ⟨a, vs, Z0, rfl, h1, r, _⟩ := pv.lst_inv
  have := bool_list r hb
  subst this
  exact ⟨a, bs, rfl, .of h1, hd.val pv.same (.bl _)⟩
theorem c_sum {σ0 : St} (hc : X.calm = true) : CallR X (.builtin "sum") (rC X CA W σ0 .sum) := by
  refine CallR.one (cr_sum hc) (one_no (fun p q r => by obtain ⟨d, n⟩ := p; cases d <;> rfl) rfl) fun d n x H0 H M Ox Zx z Q pv hz hd => ?_
  cases d <;> first | (cases hz; done) | skip
  obtain ⟨bs, hb, rfl⟩ := Option.map_eq_some_iff.mp hz
  obtain ⟨a, vs, Z0, rfl, h1, r, _⟩ := pv.lst_inv
  have := int_list r hb
  subst this
  exact ⟨a, bs, rfl, .of h1, hd.val pv.same (.int _)⟩
theorem c_ord {σ0 : St} : CallR X (.builtin "ord") (rC X CA W σ0 .ord) := by
  refine CallR.one call_ord (one_no (fun p q r => by obtain ⟨d, n⟩ := p; cases d <;> first | rfl | (rename_i s; cases s with | nil => rfl | cons c s => cases s <;> rfl)) rfl) fun d n x H0 H M Ox Zx z Q pv hz hd => ?_
  cases d <;> first | (cases hz; done) | skip
  rename_i s
  match s, hz, pv with
  | [c], hz, pv =>
    cases hz
    obtain ⟨rfl, _⟩ := pv.rep.str_inv
    refine ⟨_, rfl, by rw [mkS_len]; rfl, ?_⟩
    have : (mkS [c]).cps.getD 0 0 = c := by simp [mkS]
    rw [this]
    exact hd.val pv.same (.int _)
theorem c_str {σ0 : St} : CallR X (.type "str") (rC X CA W σ0 .str) := by
  refine CallR.one call_str_int (one_no (fun p q r => by obtain ⟨d, n⟩ := p; cases d <;> rfl) rfl) fun d n x H0 H M Ox Zx z Q pv hz hd => ?_
  cases d <;> first | (cases hz; done) | skip
  rename_i i
  obtain ⟨hl, e⟩ := go_some (show go _ _ = _ from hz)
  cases e
  obtain ⟨rfl, _⟩ := pv.rep.int_inv
  refine ⟨_, rfl, hl, ?_⟩
  have e : (Str.ofString (toString i)) = mkS (codesOfInt i) := (mkS_of _).symm
  rw [e]
  refine hd.val pv.same (.str fun c hc => ?_)
  have hc : c ∈ (toString i).toList.map Char.toNat := by rw [← TL.tl_ofString]; exact hc
  obtain ⟨ch, _, rfl⟩ := List.mem_map.mp hc
  have := ch.valid
  simp only [UInt32.isValidChar, Nat.isValidChar] at this
  show ch.val.toNat < _
  omega
theorem c_int {σ0 : St} : CallR X (.type "int") (rC X CA W σ0 .int) := by
  refine CallR.one call_int1 (one_no (fun p q r => by obtain ⟨d, n⟩ := p; cases d <;> rfl) rfl) fun d n x H0 H M Ox Zx z Q pv hz hd => ?_
  cases d <;> first | (cases hz; done) | skip
  · cases hz
    obtain ⟨rfl, _⟩ := pv.rep.bl_inv
    exact .inr ⟨_, rfl, hd.val pv.same (.int _)⟩
  · cases hz
    obtain ⟨rfl, _⟩ := pv.rep.int_inv
    exact .inl ⟨_, rfl, hd.val pv.same (.int _)⟩
theorem keys_reps {K : PySem.W.Frag} {H : Hp} : ∀ {ks : List D} {kvs : List (Key × V)}, ks.map vKey = kvs.map (fun p => some p.1) → (∀ s, D.str s ∈ ks → Bd s) → Reps K CA H 0 ks (kvs.map fun p => kV p.1) [] []
  | [], [], _, _ => .nil
  | [], _ :: _, h, _ => by simp at h
  | _ :: _, [], h, _ => by simp at h
  | k :: ks, p :: kvs, h, hb => by
    simp only [List.map_cons, List.cons.injEq] at h
    have r := keys_reps (K := K) (H := H) h.2 fun s hs => hb s (by simp [hs])
    have r1 : Rep K CA H 0 k (kV p.1) [] [] := by
      obtain ⟨h1, _⟩ := h
      cases k <;> first | (cases h1; done) | skip
      · have := h1; simp only [vKey, Option.some.injEq] at this; rw [← this]; exact .int _
      · have := h1; simp only [vKey, Option.some.injEq] at this; rw [← this]; exact .str (hb _ (by simp))
    exact Reps.cons (O := []) (Z := []) r1 r
theorem ints_reps {K : PySem.W.Frag} {H : Hp} : ∀ l : List Int, Reps K CA H 0 (l.map D.int) (l.map V.int) [] []
  | [] => .nil
  | i :: r => Reps.cons (O := []) (Z := []) (.int i) (ints_reps r)
theorem c_list {σ0 : St} (hc : X.calm = true) : CallR X (.type "list") (rC X CA W σ0 .list) := by
  refine CallR.one (CallR.or call_list_of (call_listD hc)) (one_no (fun p q r => by obtain ⟨d, n⟩ := p; cases d <;> rfl) rfl) fun d n x H0 H M Ox Zx z Q pv hz hd => ?_
  cases d <;> first | (cases hz; done) | skip
  · cases hz
    obtain ⟨a, vs, Z0, rfl, h1, r, z0⟩ := pv.tup_inv
    refine .inl ⟨a, vs, rfl, .inr h1, fun l hl => ?_⟩
    obtain ⟨O, Z, pp⟩ := PVal.newList pv.same r z0 hl
    exact hd _ _ _ _ pp
  · cases hz
    obtain ⟨a, vs, Z0, rfl, h1, r, z0⟩ := pv.lst_inv
    refine .inl ⟨a, vs, rfl, .inl (.of h1), fun l hl => ?_⟩
    obtain ⟨O, Z, pp⟩ := PVal.newList pv.same r z0 hl
    exact hd _ _ _ _ pp
  · cases hz
    obtain ⟨a, kvs, O', Z', m, rfl, h1, h2, _⟩ := pv.rep.dct_inv
    refine .inr ⟨a, kvs, rfl, h1, fun p hp => ?_⟩
    obtain ⟨O, Z, pp⟩ := PVal.newList pv.same (keys_reps h2.1 h2.2.2) (by simp) hp
    exact hd _ _ _ _ pp
  · cases hz
    obtain ⟨a, rfl, h1, _⟩ := pv.rep.scr_inv
    refine .inl ⟨a, _, rfl, .inl h1.l, fun p hp => ?_⟩
    obtain ⟨O, Z, pp⟩ := PVal.newList pv.same (ints_reps _) (by simp) hp
    exact hd _ _ _ _ pp
theorem c_tuple {σ0 : St} : CallR X (.type "tuple") (rC X CA W σ0 .tuple) := by
  refine CallR.one call_tuple_of (one_no (fun p q r => by obtain ⟨d, n⟩ := p; cases d <;> rfl) rfl) fun d n x H0 H M Ox Zx z Q pv hz hd => ?_
  cases d <;> first | (cases hz; done) | skip
  · cases hz
    obtain ⟨a, vs, rfl, h1, r⟩ := pv.rep.tup_inv
    exact ⟨a, vs, rfl, .inr ⟨h1, hd _ _ _ _ pv⟩⟩
  · obtain ⟨hm, e⟩ := go_some (show go _ _ = _ from hz)
    cases e
    obtain ⟨a, vs, Z0, rfl, h1, r, z0⟩ := pv.lst_inv
    exact ⟨a, vs, rfl, .inl ⟨.of h1, fun l hl => hd _ _ _ _ (PVal.newTup pv.same r hm hl)⟩⟩
theorem c_bool {σ0 : St} : CallR X (.type "bool") (rC X CA W σ0 .bool) := by
  refine CallR.one call_bool1 (one_no (fun p q r => by obtain ⟨d, n⟩ := p; cases d <;> rfl) rfl) fun d n x H0 H M Ox Zx z Q pv hz hd => ?_
  cases d <;> first | (cases hz; done) | skip
  · cases hz
    obtain ⟨rfl, _⟩ := pv.rep.bl_inv
    exact .inr ⟨_, rfl, hd.val pv.same (.bl _)⟩
  · cases hz
    obtain ⟨rfl, _⟩ := pv.rep.int_inv
    exact .inl ⟨_, rfl, hd.val pv.same (.bl _)⟩
end
end Vy

namespace Vy
open PySem PySem.Spec
open PyProof.Rows hiding St
open L2
section
variable {X : Cx} {nm : Nm} {G : Glo} {CA : Nat → Addr} {cf : Nat → List D → Out (D × Nat)} {W : WX}
theorem two_no {f : Bi} {d : D} {n : Nat} : True := trivial
theorem CallR.twoI {v : Value} {f : Bi} {σ0 : St} {g : Int → Int → Int} (h : CallR X v (fun xs H Q => ∃ i j, xs = [.int i, .int j] ∧ Q (.int (g i j)) H))
    (hf : ∀ ps z, bifD f ps = some z → (∃ p, ps = [p]) ∨ ∃ i n j m, ps = [(.int i, n), (.int j, m)] ∧ z = (.int (g i j), 9)) {r1 : List V → Hp → VK → Prop} (h1 : CallR X v r1)
    (w : ∀ (d : D) (n : Nat) x H0 H (M : Addr → Prop) Ox Zx (z : D × Nat) (Q : VK), PVal X.K CA M H0 H d n x Ox Zx → bifD f [(d, n)] = some z → Den X.K CA W M (.ok z) σ0 H0 Q → r1 [x] H Q) : CallR X v (rC X CA W σ0 f) := by
  refine CallR.weak (CallR.or h h1) fun vs H Q ⟨H0, M, ps, O, Z, s, pv, hd⟩ => ?_
  obtain ⟨z, hz, hd'⟩ := Den.ofv hd
  rcases hf ps z hz with ⟨p, rfl⟩ | ⟨i, n, j, m, rfl, rfl⟩
  · obtain ⟨v, rfl, q⟩ := pv.one_inv
    exact .inr (w _ _ v H0 H M O Z z Q q hz hd')
  · obtain ⟨v, w', O1, Z1, O2, Z2, rfl, p1, p2⟩ := pv.two_inv
    rw [p1.rep.int_inv.1, p2.rep.int_inv.1]
    exact .inl ⟨i, j, rfl, hd'.val s (.int _)⟩
theorem minI_le : ∀ (l : List Int) (m : Int), (minI m l = m ∨ minI m l ∈ l) ∧ minI m l ≤ m ∧ ∀ y ∈ l, minI m l ≤ y
  | [], m => ⟨.inl rfl, Int.le_refl _, by simp⟩
  | x :: r, m => by
    obtain ⟨a, b, c⟩ := minI_le r (if x < m then x else m)
    rw [minI]
    by_cases h : x < m
    · rw [if_pos h] at a b c ⊢
      refine ⟨.inr (a.elim (fun z => by rw [z]; simp) fun z => by simp [z]), by omega, fun y hy => ?_⟩
      rcases List.mem_cons.mp hy with rfl | hy
      · exact b
      · exact c y hy
    · rw [if_neg h] at a b c ⊢
      refine ⟨a.imp id fun z => by simp [z], b, fun y hy => ?_⟩
      rcases List.mem_cons.mp hy with rfl | hy
      · omega
      · exact c y hy
theorem maxI_ge : ∀ (l : List Int) (m : Int), (maxI m l = m ∨ maxI m l ∈ l) ∧ m ≤ maxI m l ∧ ∀ y ∈ l, y ≤ maxI m l
  | [], m => ⟨.inl rfl, Int.le_refl _, by simp⟩
  | x :: r, m => by
    obtain ⟨a, b, c⟩ := maxI_ge r (if m < x then x else m)
    rw [maxI]
    by_cases h : m < x
    · rw [if_pos h] at a b c ⊢
      refine ⟨.inr (a.elim (fun z => by rw [z]; simp) fun z => by simp [z]), by omega, fun y hy => ?_⟩
      rcases List.mem_cons.mp hy with rfl | hy
      · exact b
      · exact c y hy
    · rw [if_neg h] at a b c ⊢
      refine ⟨a.imp id fun z => by simp [z], b, fun y hy => ?_⟩
      rcases List.mem_cons.mp hy with rfl | hy
      · omega
      · exact c y hy
theorem cr_minE (hc : X.calm = true) : CallR X (.builtin "min") (fun vs H Q => ∃ (a : Addr) (n : Int) (ns : List Int), vs = [V.ref a] ∧ SqL X.K H a ((n :: ns).map V.int) ∧ Q (.int (minI n ns)) H) := by
  intro pins s σ H vs us Q I r ⟨a, n, ns, e, h, q⟩
  refine cr_min hc pins s σ H vs us Q I r ⟨a, n :: ns, e, h, by simp, fun m hm hy => ?_⟩
  obtain ⟨h1, h2, h3⟩ := minI_le ns n
  have : m = minI n ns := by
    have a1 : m ≤ minI n ns := by
      rcases h1 with z | z
      · rw [z]; exact hy n (by simp)
      · exact hy _ (by simp [z])
    have a2 : minI n ns ≤ m := by
      rcases List.mem_cons.mp hm with rfl | z
      · exact h2
      · exact h3 m z
    omega
  rw [this]; exact q
theorem cr_maxE (hc : X.calm = true) : CallR X (.builtin "max") (fun vs H Q => ∃ (a : Addr) (n : Int) (ns : List Int), vs = [V.ref a] ∧ SqL X.K H a ((n :: ns).map V.int) ∧ Q (.int (maxI n ns)) H) := by
  intro pins s σ H vs us Q I r ⟨a, n, ns, e, h, q⟩
  refine cr_max hc pins s σ H vs us Q I r ⟨a, n :: ns, e, h, by simp, fun m hm hy => ?_⟩
  obtain ⟨h1, h2, h3⟩ := maxI_ge ns n
  have : m = maxI n ns := by
    have a1 : maxI n ns ≤ m := by
      rcases h1 with z | z
      · rw [z]; exact hy n (by simp)
      · exact hy _ (by simp [z])
    have a2 : m ≤ maxI n ns := by
      rcases List.mem_cons.mp hm with rfl | z
      · exact h2
      · exact h3 m z
    omega
  rw [this]; exact q
theorem c_max {σ0 : St} (hc : X.calm = true) : CallR X (.builtin "max") (rC X CA W σ0 .max) := by
  refine CallR.twoI (g := fun i j => if i < j then j else i) ?_ ?_ (cr_maxE hc) fun d n x H0 H M Ox Zx z Q pv hz hd => ?_
  · exact CallR.weak (call_max2 hc) fun xs H Q ⟨i, j, e, q⟩ => ⟨i, j, e, q⟩
  · intro ps z h
    match ps, h with
    | [], h => cases h
    | [p], _ => exact .inl ⟨p, rfl⟩
    | (d, n) :: (e, m) :: r, h =>
      cases d <;> first | (cases h; done) | skip
      all_goals (cases e <;> first | (cases h; done) | skip)
      all_goals (cases r <;> first | (cases h; done) | skip)
      cases h; exact .inr ⟨_, n, _, m, rfl, rfl⟩
  · cases d <;> first | (cases hz; done) | skip
    rename_i xs
    have hz : (match intsOf xs with | some (i :: is) => some (D.int (maxI i is), 9) | _ => none) = some z := hz
    obtain ⟨a, vs, Z0, rfl, h1, r, _⟩ := pv.lst_inv
    cases hi : intsOf xs with
    | none => rw [hi] at hz; cases hz
    | some l =>
      rw [hi] at hz
      cases l with
      | nil => cases hz
      | cons i is =>
        cases hz
        have := int_list r hi
        subst this
        exact ⟨a, i, is, rfl, .of h1, hd.val pv.same (.int _)⟩
/-- min: of two numbers, of numbers (of texts: not yet) -/
theorem c_min {σ0 : St} (hc : X.calm = true) (d0 : CallR X (.builtin "min") (fun vs H Q => ∃ (a : Addr) (n : Cs) (ns : List Cs), vs = [V.ref a] ∧ (SqL X.K H a ((n :: ns).map fun s => V.str (mkS s)) ∨ SqT X.K H a ((n :: ns).map fun s => V.str (mkS s))) ∧ Q (.str (mkS (minS n ns))) H)) :
    CallR X (.builtin "min") (rC X CA W σ0 .min) := by
  refine CallR.twoI (g := fun i j => if j < i then j else i) ?_ ?_ (CallR.or (cr_minE hc) d0) fun d n x H0 H M Ox Zx z Q pv hz hd => ?_
  · exact CallR.weak (call_min2 hc) fun xs H Q ⟨i, j, e, q⟩ => ⟨i, j, e, q⟩
  · intro ps z h
    match ps, h with
    | [], h => cases h
    | [p], _ => exact .inl ⟨p, rfl⟩
    | (d, n) :: (e, m) :: r, h =>
      cases d <;> first | (cases h; done) | skip
      all_goals (cases e <;> first | (cases h; done) | skip)
      all_goals (cases r <;> first | (cases h; done) | skip)
      cases h; exact .inr ⟨_, n, _, m, rfl, rfl⟩
  · have bdm : ∀ (l : List Cs) (m : Cs), Bd m → (∀ s ∈ l, Bd s) → Bd (minS m l) := fun l => by
      induction l with
      | nil => intro m h _; exact h
      | cons x r ih =>
        intro m h hr
        rw [minS]
        refine ih _ ?_ fun s hs => hr s (by simp [hs])
        split
        · exact hr x (by simp)
        · exact h
    cases d <;> first | (cases hz; done) | skip
    · rename_i xs
      have hz : (match strsOf xs with | some (s :: ss) => some (D.str (minS s ss), 9) | _ => none) = some z := hz
      obtain ⟨a, vs, Z0, rfl, h1, r, _⟩ := pv.tup_inv
      cases hs : strsOf xs with
      | none => rw [hs] at hz; cases hz
      | some l =>
        rw [hs] at hz
        cases l with
        | nil => cases hz
        | cons i is =>
          cases hz
          obtain ⟨e, hb⟩ := str_list r hs
          subst e
          exact .inr ⟨a, i, is, rfl, .inr h1, hd.val pv.same (.str (bdm is i (hb i (by simp)) fun s q => hb s (by simp [q])))⟩
    · rename_i xs
      have hz : (match intsOf xs, strsOf xs with
        | some (i :: is), _ => some (D.int (minI i is), 9)
        | none, some (s :: ss) => some (.str (minS s ss), 9)
        | _, _ => none) = some z := hz
      obtain ⟨a, vs, Z0, rfl, h1, r, _⟩ := pv.lst_inv
      cases hi : intsOf xs with
      | some l =>
        rw [hi] at hz
        cases l with
        | nil => cases hz
        | cons i is =>
          cases hz
          have := int_list r hi
          subst this
          exact .inl ⟨a, i, is, rfl, .of h1, hd.val pv.same (.int _)⟩
      | none =>
        rw [hi] at hz
        cases hs : strsOf xs with
        | none => rw [hs] at hz; cases hz
        | some l =>
          rw [hs] at hz
          cases l with
          | nil => cases hz
          | cons i is =>
            cases hz
            obtain ⟨e, hb⟩ := str_list r hs
            subst e
            exact .inr ⟨a, i, is, rfl, .inl (.of h1), hd.val pv.same (.str (bdm is i (hb i (by simp)) fun s q => hb s (by simp [q])))⟩

/-- the built-in functions by their names -/
def biS : Bi → String
  | .len => "len" | .all => "all" | .any => "any" | .sum => "sum" | .min => "min" | .max => "max" | .maxd => "max" | .sorted => "sorted" | .str => "str" | .int => "int" | .bool => "bool" | .ord => "ord" | .list => "list" | .tuple => "tuple" | .dict => "dict" | .setlen => "len"
def biV : Bi → Value
  | .str => .type "str" | .int => .type "int" | .bool => .type "bool" | .list => .type "list" | .tuple => .type "tuple" | .dict => .type "dict"
  | f => .builtin (biS f)
/-- which of them are carried -/
def biOk : Bi → Bool
  | .len => true | .all => true | .any => true | .sum => true | .max => true | .str => true | .int => true | .bool => true | .ord => true | .list => true | .tuple => true
  | _ => false
theorem c_bif {σ0 : St} (hc : X.calm = true) : ∀ f, biOk f = true → CallR X (biV f) (rC X CA W σ0 f)
  | .len, _ => c_len
  | .all, _ => c_all hc
  | .any, _ => c_any hc
  | .sum, _ => c_sum hc
  | .max, _ => c_max hc
  | .str, _ => c_str
  | .int, _ => c_int
  | .bool, _ => c_bool
  | .ord, _ => c_ord
  | .list, _ => c_list hc
  | .tuple, _ => c_tuple
  | .min, h => by cases h
  | .maxd, h => by cases h
  | .sorted, h => by cases h
  | .dict, h => by cases h
  | .setlen, h => by cases h
theorem bi_boot : ∀ f, biOk f = true → bootBuiltins (Str.ofString (biS f)) = some (biV f) := by
  intro f h
  cases f <;> first | (cases h; done) | (decide +kernel)
theorem e_bif {np : Nat → Option Nat} {bl : List Str} {f : Bi} {x : Str} {cs : List C} {e : Expr} {es : List Expr} {p pos : Pos} (C : CtxOk X nm G CA cf np bl) (hf : biOk f = true) (hx : x = Str.ofString (biS f)) (hb : x ∈ bl) (hg : Gl X x)
    (ha : PA X (e :: es) (tL X G CA cf W cs)) (hdb : (x == ("__debug__" : Str)) = false) (hnn : x ≠ "__name__") (hs : (e :: es).all noStar = true) : PE X (.Call (.Name x p) (e :: es) [] pos) (tE X G CA cf W (.bif f cs)) := by
  refine ⟨fun pins s σ H Q I ⟨S, sr, h⟩ => ?_⟩
  have hm := C.blt x hb
  have hv : bootBuiltins x = some (biV f) := by rw [hx]; exact bi_boot f hf
  have hr := c_bif (X := X) (CA := CA) (W := W) (σ0 := σ) C.calm f hf
  rw [List.all_cons, Bool.and_eq_true] at hs
  rw [ev] at h
  have key : tCB (rC X CA W σ f) (tL X G CA cf W cs) σ H Q := ⟨S, sr, DenL.seq (Same.refl H) h fun ps vs H2 O Z e1 s2 pv hd => ⟨H, _, ps, O, Z, s2, pv, hd⟩⟩
  cases f <;> first | (cases hf; done) | exact (pe_callB hr hg hm hv ha hnn hdb (star_cons hs.1) (back_any hs.2)).run pins s σ H Q I key | exact (pe_callTy hr hg hm hv ha hnn hdb (star_cons hs.1) (back_any hs.2)).run pins s σ H Q I key
end
end Vy

namespace Vy
open PySem PySem.Spec
open PyProof.Rows hiding St
open L2
theorem spl_bd (S : Cs) : ∀ (l : Cs) (k : Nat) (acc : Cs), Bd acc → Bd l → ∀ p ∈ TL.spl S k acc l, Bd p
  | [], k, acc, ha, _, p, hp => by rw [TL.spl_nil] at hp; simp at hp; subst hp; exact ha
  | c :: r, 0, acc, ha, hl, p, hp => by
    have hr : Bd r := fun x q => hl x (by simp [q])
    by_cases h : TL.pre S (c :: r) = true
    · rw [TL.spl_hit h] at hp
      rcases List.mem_cons.mp hp with rfl | hp
      · exact ha
      · exact spl_bd S r _ [] Bd.nil hr p hp
    · rw [TL.spl_miss (by simpa using h)] at hp
      exact spl_bd S r 0 _ (ha.app fun x q => by simp at q; subst q; exact hl x (by simp)) hr p hp
  | c :: r, k + 1, acc, ha, hl, p, hp => spl_bd S r k acc ha (fun x q => hl x (by simp [q])) p hp
theorem par_bd (S : Cs) : ∀ (l acc : Cs) (p : Cs × Cs), Bd acc → Bd l → TL.par S acc l = some p → Bd p.1 ∧ Bd p.2
  | [], acc, p, _, _, h => by cases h
  | c :: r, acc, p, ha, hl, h => by
    by_cases hc : TL.pre S (c :: r) = true
    · rw [TL.par_hit hc] at h
      cases h
      exact ⟨ha, fun x q => hl x (List.mem_of_mem_drop q)⟩
    · rw [TL.par_miss (by simpa using hc)] at h
      exact par_bd S r _ p (ha.app fun x q => by simp at q; subst q; exact hl x (by simp)) (fun x q => hl x (by simp [q])) h
theorem joinL_bd (S : Cs) (hS : Bd S) : ∀ ps : List Cs, (∀ p ∈ ps, Bd p) → Bd (TL.joinL S ps)
  | [], _ => Bd.nil
  | [p], h => h p (by simp)
  | p :: q :: r, h => (h p (by simp)).app (hS.app (joinL_bd S hS (q :: r) fun x hx => h x (by simp [hx])))
theorem strs_reps {K : PySem.W.Frag} {CA : Nat → Addr} {H : Hp} : ∀ l : List Cs, (∀ s ∈ l, Bd s) → Reps K CA H 0 (l.map D.str) (l.map fun s => V.str (mkS s)) [] []
  | [], _ => .nil
  | s :: r, h => Reps.cons (O := []) (Z := []) (.str (h s (by simp))) (strs_reps r fun x hx => h x (by simp [hx]))
theorem lv1_strs (l : List Cs) : lv1 (l.map D.str) = 9 := by unfold lv1; rw [if_pos (mdepL_strs l)]
section
variable {X : Cx} {nm : Nm} {G : Glo} {CA : Nat → Addr} {cf : Nat → List D → Out (D × Nat)} {W : WX}
theorem Den.gdx {K : PySem.W.Frag} {CA : Nat → Addr} {W : WX} {M : Addr → Prop} {σ : St} {H : Hp} {Q : VK} {c : Prop} [Decidable c] {x : Out (D × Nat)} (h : Den K CA W M (Vy.gd c x) σ H Q) : c ∧ Den K CA W M x σ H Q := h.gd
theorem recv_str {m : Me} {d : D} (hm : m ≠ .index ∧ m ≠ .count ∧ m ≠ .get) (h : recvOk m d = true) : ∃ s, d = .str s := by
  cases d <;> first | exact ⟨_, rfl⟩ | (cases m <;> first | (cases h; done) | exact absurd rfl hm.1 | exact absurd rfl hm.2.1 | exact absurd rfl hm.2.2)
/-- a text's method with one argument -/
theorem e_m1 {m : Me} {id : String} {name : Str} {apos pos : Pos} {r : V → List V → Hp → VK → Prop} (slot : Slot "str" name id) (ty : typeOf (.builtin id) = pure (.type "method_descriptor")) (rule : MtR X id r) (hm : m ≠ .index ∧ m ≠ .count ∧ m ≠ .get)
    {o c : C} {eo e : Expr} (ho : PE X eo (tE X G CA cf W o)) (he : PE X e (tE X G CA cf W c)) (hs : noStar e = true) (hb : noSup eo = true) (hl : (apos.endLine == pos.line) = true)
    (w : ∀ (s : Cs) (d : D) (n k : Nat) v H0 H (M : Addr → Prop) O Z (z : D × Nat) (Q : VK) (σ0 : St), Bd s → PVal X.K CA M H0 H d n v O Z → methD m (.str s, k) [(d, n)] = some z → Den X.K CA W M (.ok z) σ0 H0 Q → r (.str (mkS s)) [v] H Q) :
    PE X (.Call (.Attribute eo name apos) [e] [] pos) (tE X G CA cf W (.mth m o [c])) := by
  refine PE.weak (pe_m1 slot ty rule ho he (by rw [star_cons hs]; rfl) (base_ok hb) hl) fun σ H Q ⟨S, sr, h⟩ => ?_
  rw [ev] at h
  refine ⟨S, sr, Den.seq (Same.refl H) h fun p x H1 O Z e1 pv hd => ?_⟩
  obtain ⟨hr, hd⟩ := hd.gd
  obtain ⟨d0, k⟩ := p
  obtain ⟨s, hs'⟩ := recv_str hm hr
  subst hs'
  obtain ⟨ex, _, _, hbd⟩ := pv.rep.str_inv
  refine ⟨⟨_, ex⟩, ?_⟩
  have hd' : Den X.K CA W (Nod S (names (.mth m o [c]))) ((ev G cf (envOf S) c).bind fun y => Out.of (methD m (.str s, k) [y])) σ H Q := by
    simp only [evs] at hd
    cases e2 : ev G cf (envOf S) c <;> rw [e2] at hd <;> exact hd
  refine ⟨S, sr.same pv.same, Den.seq pv.same hd' fun q y H2 O' Z' e2 pw hd2 => ?_⟩
  obtain ⟨z, hz, hd3⟩ := Den.ofv hd2
  rw [ex]
  exact w s q.1 q.2 k y H H2 _ O' Z' z Q σ hbd ((pw.ahead pv.same).mono fun a h => Nod.r (by simpa [namesL] using h)) hz hd3
theorem e_join {o c : C} {eo e : Expr} {apos pos : Pos} (ho : PE X eo (tE X G CA cf W o)) (he : PE X e (tE X G CA cf W c)) (hs : noStar e = true) (hb : noSup eo = true) (hl : (apos.endLine == pos.line) = true) : PE X (.Call (.Attribute eo "join" apos) [e] [] pos) (tE X G CA cf W (.mth .join o [c])) := by
  refine e_m1 F.slot_str_join F.type_str_join mt_join (by decide) ho he hs hb hl fun s d n k v H0 H M O Z z Q σ0 hbd pv hz hd => ?_
  obtain ⟨xs, hx, hz⟩ := Option.bind_eq_some_iff.mp (show (seqOf d).bind _ = some z from hz)
  obtain ⟨ps, hp, hz⟩ := Option.bind_eq_some_iff.mp hz
  split at hz
  · rename_i hl
    cases hz
    have fin : ∀ {a : Addr} {vs : List V} {Z0 : List Addr}, v = .ref a → (SqL X.K H a vs ∨ SqT X.K H a vs) → Reps X.K CA H 0 xs vs [] Z0 → ∃ (a' : Str) (p : Addr) (ys : List Str), V.str (mkS s) = .str a' ∧ [v] = [.ref p] ∧ (SqL X.K H p (ys.map V.str) ∨ SqT X.K H p (ys.map V.str)) ∧ (ys.map (·.length)).sum + ys.length * a'.length ≤ 16777216 ∧ Q (.str (Txt.join a' ys)) H := by
      intro a vs Z0 ea ha r
      obtain ⟨e, hb⟩ := str_list r hp
      subst e
      refine ⟨_, a, ps.map mkS, rfl, by rw [ea], by simpa [List.map_map, Function.comp_def] using ha, ?_, ?_⟩
      · have : (ps.map mkS).map (·.length) = ps.map (·.length) := by rw [List.map_map]; exact List.map_congr_left fun x _ => mkS_len x
        rw [this, List.length_map, mkS_len]
        exact hl
      · have e : Txt.join (mkS s) (ps.map mkS) = mkS (TL.joinL s ps) := by
          rw [TL.join_eq]
          apply TL.ext_tl
          rw [TL.tl_join]
          show TL.joinL (mkS s).cps.toList _ = (mkS _).cps.toList
          rw [mkS_tl, mkS_tl, List.map_map]
          congr 1
          exact (List.map_congr_left fun x _ => mkS_tl x).trans (List.map_id _)
        rw [e]
        exact hd.val pv.same (.str (joinL_bd s hbd ps hb))
    cases d <;> first | (cases hx; done) | skip
    · cases hx
      obtain ⟨a, vs, Z0, e, h1, r, _⟩ := pv.tup_inv
      exact fin e (.inr h1) r
    · cases hx
      obtain ⟨a, vs, Z0, e, h1, r, _⟩ := pv.lst_inv
      exact fin e (.inl (.of h1)) r
    · cases hx
      obtain ⟨a, e, h1, _⟩ := pv.rep.scr_inv
      exact fin e (.inl h1.l) (ints_reps _)
  · cases hz
theorem e_split {o c : C} {eo e : Expr} {apos pos : Pos} (ho : PE X eo (tE X G CA cf W o)) (he : PE X e (tE X G CA cf W c)) (hs : noStar e = true) (hb : noSup eo = true) (hl : (apos.endLine == pos.line) = true) : PE X (.Call (.Attribute eo "split" apos) [e] [] pos) (tE X G CA cf W (.mth .split o [c])) := by
  refine e_m1 F.slot_str_split F.type_str_split mt_split (by decide) ho he hs hb hl fun s d n k v H0 H M O Z z Q σ0 hbd pv hz hd => ?_
  cases d <;> first | (cases hz; done) | skip
  rename_i p
  obtain ⟨⟨h1, h2, h3⟩, e⟩ := go_some (show go _ _ = _ from hz)
  cases e
  obtain ⟨rfl, _⟩ := pv.rep.str_inv
  refine ⟨_, _, rfl, rfl, by rw [mkS_len]; cases p with | nil => exact absurd rfl h1 | cons _ _ => rfl, by rw [mkS_len, SZ_eq]; exact h3, fun l hl => ?_⟩
  have e : Txt.split (mkS s) (mkS p) = (TL.spl p 0 [] s).map mkS := by
    apply TL.map_tl_inj
    rw [TL.split_spl _ _ (by show (mkS p).cps.toList ≠ []; rw [mkS_tl]; exact h1) (TL.kind_ok (by
      rw [Array.all_eq_true_iff_forall_mem]
      intro c hc
      have hc : c ∈ p := by simpa [mkS] using hc
      exact List.all_eq_true.mp h2 c hc))]
    show TL.spl (mkS p).cps.toList 0 [] (mkS s).cps.toList = _
    rw [mkS_tl, mkS_tl, List.map_map]
    exact ((List.map_congr_left fun x _ => mkS_tl x).trans (List.map_id _)).symm
  rw [e, List.map_map]
  obtain ⟨O, Z, pp⟩ := PVal.newList pv.same (strs_reps (K := X.K) (CA := CA) (H := H) (TL.spl p 0 [] s) (spl_bd p s 0 [] Bd.nil hbd)) (by simp) hl
  rw [lv1_strs] at pp
  exact hd _ _ _ _ pp
theorem e_partition {o c : C} {eo e : Expr} {apos pos : Pos} (ho : PE X eo (tE X G CA cf W o)) (he : PE X e (tE X G CA cf W c)) (hs : noStar e = true) (hb : noSup eo = true) (hl : (apos.endLine == pos.line) = true) : PE X (.Call (.Attribute eo "partition" apos) [e] [] pos) (tE X G CA cf W (.mth .partition o [c])) := by
  refine e_m1 F.slot_str_partition F.type_str_partition mt_partition (by decide) ho he hs hb hl fun s d n k v H0 H M O Z z Q σ0 hbd pv hz hd => ?_
  cases d <;> first | (cases hz; done) | skip
  rename_i p
  obtain ⟨⟨h1, h3⟩, e⟩ := go_some (show go _ _ = _ from hz)
  obtain ⟨rfl, _, _, hbp⟩ := pv.rep.str_inv
  refine ⟨_, _, rfl, rfl, by rw [mkS_len]; cases p with | nil => exact absurd rfl h1 | cons _ _ => rfl, by rw [mkS_len, SZ_eq]; exact h3, fun l hl => ?_⟩
  have e2 := TL.partition_par (mkS s) (mkS p) (by show (mkS p).cps.toList ≠ []; rw [mkS_tl]; exact h1)
  have e3 : TL.par (TL.tl (mkS p)) [] (TL.tl (mkS s)) = TL.par p [] s := by
    show TL.par (mkS p).cps.toList [] (mkS s).cps.toList = _
    rw [mkS_tl, mkS_tl]
  rw [e3] at e2
  have three : ∀ a b c : Cs, Bd a → Bd b → Bd c → Reps X.K CA H 9 [D.str a, D.str b, D.str c] [V.str (mkS a), V.str (mkS b), V.str (mkS c)] [] [] := fun a b c ha hb hc =>
    Reps.cons (O := []) (Z := []) (.str ha) (Reps.cons (O := []) (Z := []) (.str hb) (Reps.cons (O := []) (Z := []) (.str hc) .nil))
  cases ep : TL.par p [] s with
  | some q =>
    obtain ⟨a, b⟩ := q
    rw [ep] at e e2
    cases e
    rw [e2]
    obtain ⟨b1, b2⟩ := par_bd p s [] (a, b) Bd.nil hbd ep
    exact hd _ _ _ _ (PVal.newTup pv.same (three a p b b1 hbp b2) rfl hl)
  | none =>
    rw [ep] at e e2
    cases e
    rw [e2]
    exact hd _ _ _ _ (PVal.newTup pv.same (three s [] [] hbd Bd.nil Bd.nil) rfl hl)
/-! ### isinstance -/
def ikS : IK → String
  | .str => "str" | .int => "int" | .bool => "bool" | .tuple => "tuple" | .list => "list" | .dict => "dict" | .cls _ => ""
def ikOk : IK → Bool
  | .cls _ => false
  | _ => true
def tyS : D → Option String
  | .non => some "NoneType" | .bl _ => some "bool" | .int _ => some "int" | .str _ => some "str" | .tup _ => some "tuple" | .lst _ => some "list" | .scr _ => some "list" | .dct _ _ => some "dict"
  | _ => none
theorem kit_all (d : D) (t : String) (h : tyS d = some t) (k : IK) (hk : ikOk k = true) : kitB t (ikS k) = some (isaD G.cm d k) := by
  cases d <;> first | (cases h; done) | skip
  all_goals (cases h; cases k <;> first | (cases hk; done) | (show kitB _ _ = some true; decide +kernel) | (show kitB _ _ = some false; decide +kernel))
theorem tyx_of {H : Hp} {d : D} {n : Nat} {v : V} {O Z : List Addr} {t : String} (r : Rep X.K CA H n d v O Z) (h : tyS d = some t) : TyX X.K H v (.type t) := by
  cases r with
  | non => cases h; exact .base .non
  | bl b => cases h; exact .base (.bl b)
  | int i => cases h; exact .base (.int i)
  | str s => cases h; exact .base (.str _)
  | cls => cases h
  | scr e =>
    cases h
    rcases e with ⟨o, e⟩ | e
    · exact .base (.frz e)
    · rcases e (fun _ => none) with (z | ⟨_, z⟩) | ⟨o, its, n, h1, h2, _⟩
      · cases z
      · cases z
      · exact .kList h1 h2
  | tup e r =>
    cases h
    rcases e with (z | ⟨_, z⟩) | ⟨o, its, n, h1, h2, _⟩
    · exact .base (.tup z)
    · exact .fTuple z
    · exact .kTuple h1 h2
  | lstO e r => cases h; exact .base (.lst e)
  | lstZ e r => cases h; exact .base (.lst e)
  | dctO e _ r => cases h; exact .base (.dK e)
  | dctZ e _ r =>
    cases h
    rcases e with z | ⟨_, z⟩
    · exact .base (.dK z)
    · exact .fDict z
  | insO e _ r => cases h
  | insZ e _ r => cases h
theorem e_isi {np : Nat → Option Nat} {bl : List Str} {k : IK} {c : C} {e : Expr} {x : Str} {pp p2 pos : Pos} (C : CtxOk X nm G CA cf np bl) (hk : ikOk k = true) (hx : x = Str.ofString (ikS k)) (hb : x ∈ bl) (hi : ("isinstance" : Str) ∈ bl) (hg : Gl X x) (hgi : Gl X "isinstance")
    (he : PE X e (tE X G CA cf W c)) (hs : noStar e = true) (hnn : x ≠ "__name__") (hdb : (x == ("__debug__" : Str)) = false) : PE X (.Call (.Name "isinstance" pp) [e, .Name x p2] [] pos) (tE X G CA cf W (.isi c k)) := by
  have hm := C.blt x hb
  have hv : bootBuiltins x = some (.type (ikS k)) := by
    rw [hx]
    cases k <;> first | (cases hk; done) | decide +kernel
  have pt : PE X (.Name x p2) (tC (.ty (ikS k))) := pe_bltn (v := .ty (ikS k)) hg hm hv rfl hnn hdb
  refine PE.weak (pe_callB call_isi hgi (C.blt _ hi) boot_isinstance (pa_cons he (pa_cons pt pa_nil (by rfl)) (star_cons hs)) (by decide +kernel) (by decide +kernel) (star_cons hs) (by rfl)) fun σ H Q ⟨S, sr, h⟩ => ?_
  rw [ev] at h
  refine ⟨S, sr, Den.seq (Same.refl H) h fun q v H1 O Z e1 pv hd => ?_⟩
  obtain ⟨d, n⟩ := q
  obtain ⟨hi, hd⟩ := hd.gd
  cases ht : tyS d with
  | none => cases d <;> first | (cases ht; done) | (cases k <;> cases hi)
  | some t => exact ⟨v, .ty (ikS k), .type t, .type (ikS k), isaD G.cm d k, rfl, .ty _, tyx_of pv.rep ht, kit_ty (kit_all d t ht k hk), hd.val pv.same (.bl _)⟩
end
end Vy

namespace Vy
open PySem PySem.Spec
open PyProof.Rows hiding St
open L2
/-! ## what is walked -/
/-- the iterator J yields xs, while P stands; Ns: the addresses that its items and P lean on -/
structure Walk (K : PySem.W.Frag) (CA : Nat → Addr) (J : It) (xs : List D) (Ns : List Addr) (P : Hp → Prop) : Prop where
  go : ∀ i H, i < xs.length → P H → J.go i H
  stop : ∀ H, P H → J.stop xs.length H
  yld : ∀ i H x H' d, P H → xs[i]? = some d → J.yld i H x H' → Same H H' ∧ ∃ Z, Rep K CA H' 0 d x [] Z ∧ ∀ a ∈ Z, a ∈ Ns
  keep : ∀ F H H', P H → Keep F H H' → Fix F H → (∀ a ∈ Ns, a ∉ F) → P H'
  there : ∀ H, P H → ∀ a ∈ Ns, H a ≠ none
section
variable {K : PySem.W.Frag} {CA : Nat → Addr}
theorem Reps.get0' {H : Hp} {ds : List D} {vs : List V} {Z : List Addr} (i : Nat) (d : D) (r : Reps K CA H 0 ds vs [] Z) (h : ds[i]? = some d) : ∃ v Z1, vs[i]? = some v ∧ Rep K CA H 0 d v [] Z1 ∧ ∀ a ∈ Z1, a ∈ Z := r.get0 i d h
theorem Reps.lt {H : Hp} {n : Nat} {ds : List D} {vs : List V} {O Z : List Addr} (r : Reps K CA H n ds vs O Z) {i : Nat} (h : i < ds.length) : ∃ v, vs[i]? = some v := by
  rw [r.length] at h; exact ⟨_, List.getElem?_eq_getElem h⟩
theorem walk_list {a : Addr} {xs : List D} {Ns : List Addr} (ha : a ∈ Ns) : Walk K CA (Itl K a) xs Ns (fun H => ∃ vs Z, H a = some (.lst vs) ∧ Reps K CA H 0 xs vs [] Z ∧ (∀ b ∈ Z, b ∈ Ns) ∧ ∀ b ∈ Ns, H b ≠ none) where
  go := fun i H hi ⟨vs, Z, h1, r, _⟩ => let ⟨v, hv⟩ := r.lt hi; ⟨vs, v, .of h1, hv⟩
  stop := fun H ⟨vs, Z, h1, r, _⟩ => ⟨vs, .of h1, by rw [r.length]; exact Nat.le_refl _⟩
  yld := fun i H x H' d ⟨vs, Z, h1, r, hz, _⟩ hd ⟨e, y⟩ => by
    subst e
    obtain ⟨v, Z1, hv, rv, h2⟩ := r.get0' i d hd
    have := y vs (.of h1)
    rw [hv] at this; cases this
    exact ⟨Same.refl _, Z1, rv, fun b hb => hz b (h2 b hb)⟩
  keep := fun F H H' ⟨vs, Z, h1, r, hz, ht⟩ k f hn => ⟨vs, Z, k _ _ h1 (hn a ha), r.keep k f (fun b hb => hn b (hz b (by simpa using hb))), hz, fun b hb => by
    cases e : H b with
    | none => exact absurd e (ht b hb)
    | some o => rw [k b o e (hn b hb)]; simp⟩
  there := fun H ⟨vs, Z, h1, r, hz, ht⟩ => ht
theorem walk_tup {a : Addr} {xs : List D} {Ns : List Addr} : Walk K CA (Itt K a) xs Ns (fun H => ∃ vs Z, SqT K H a vs ∧ Reps K CA H 0 xs vs [] Z ∧ (∀ b ∈ Z, b ∈ Ns) ∧ ∀ b ∈ Ns, H b ≠ none) where
  go := fun i H hi ⟨vs, Z, h1, r, _⟩ => let ⟨v, hv⟩ := r.lt hi; ⟨vs, v, h1, hv⟩
  stop := fun H ⟨vs, Z, h1, r, _⟩ => ⟨vs, h1, by rw [r.length]; exact Nat.le_refl _⟩
  yld := fun i H x H' d ⟨vs, Z, h1, r, hz, _⟩ hd ⟨e, y⟩ => by
    subst e
    obtain ⟨v, Z1, hv, rv, h2⟩ := r.get0' i d hd
    have := y vs h1
    rw [hv] at this; cases this
    exact ⟨Same.refl _, Z1, rv, fun b hb => hz b (h2 b hb)⟩
  keep := fun F H H' ⟨vs, Z, h1, r, hz, ht⟩ k f hn => ⟨vs, Z, SqT_keep h1 k f, r.keep k f (fun b hb => hn b (hz b (by simpa using hb))), hz, fun b hb => by
    cases e : H b with
    | none => exact absurd e (ht b hb)
    | some o => rw [k b o e (hn b hb)]; simp⟩
  there := fun H ⟨vs, Z, h1, r, hz, ht⟩ => ht
theorem walk_scr {a : Addr} {ns : List Int} : Walk K CA (Itl K a) (ns.map D.int) [] (fun H => SqZ K H a (ns.map V.int)) where
  go := fun i H hi h1 => ⟨_, .int (ns[i]'(by simpa using hi)), h1.l, by simp at hi; simp [List.getElem?_map, hi]⟩
  stop := fun H h1 => ⟨_, h1.l, by simp⟩
  yld := fun i H x H' d h1 hd ⟨e, y⟩ => by
    subst e
    have q := y _ h1.l
    rw [List.getElem?_map] at q hd
    cases h : ns[i]? with
    | none => rw [h] at hd; cases hd
    | some n => rw [h] at q hd; cases q; cases hd; exact ⟨Same.refl _, [], .int n, by simp⟩
  keep := fun F H H' h1 k f hn => SqZ_keep h1 k f
  there := fun H _ a h => by simp at h
theorem walk_str {s : Cs} (hb : Bd s) : Walk K CA (Its (mkS s)) (s.map fun c => .str [c]) [] (fun _ => True) where
  go := fun i H hi _ => by simpa [Its, mkS] using hi
  stop := fun H _ => by simp [Its, mkS]
  yld := fun i H x H' d _ hd ⟨e, c, hc, hx⟩ => by
    subst e; subst hx
    rw [List.getElem?_map] at hd
    have hc : s[i]? = some c := by simpa [mkS] using hc
    rw [hc] at hd; cases hd
    exact ⟨Same.refl _, [], .str (s := [c]) fun a q => by simp at q; subst q; exact hb _ (List.mem_of_getElem? hc), by simp⟩
  keep := fun _ _ _ _ _ _ _ => trivial
  there := fun H _ a h => by simp at h
theorem walk_rng {lo : Int} {n : Nat} : Walk K CA (Itr lo n) ((List.range n).map fun k => .int (lo + (k : Nat))) [] (fun _ => True) where
  go := fun i H hi _ => by simpa [Itr] using hi
  stop := fun H _ => by simp [Itr]
  yld := fun i H x H' d _ hd ⟨e, hx⟩ => by
    subst e; subst hx
    rw [List.getElem?_map] at hd
    obtain ⟨k, hk, e⟩ := Option.map_eq_some_iff.mp hd
    have : k = i := by
      obtain ⟨h1, h2⟩ := List.getElem?_eq_some_iff.mp hk
      simpa using h2.symm
    subst this; subst e
    exact ⟨Same.refl _, [], .int _, by simp⟩
  keep := fun _ _ _ _ _ _ _ => trivial
  there := fun H _ a h => by simp at h
theorem walk_enum {a : Addr} {xs : List D} {Ns : List Addr} (ha : a ∈ Ns) : Walk K CA (Ite K a) (enumD xs) Ns (fun H => ∃ vs Z, H a = some (.lst vs) ∧ Reps K CA H 0 xs vs [] Z ∧ (∀ b ∈ Z, b ∈ Ns) ∧ ∀ b ∈ Ns, H b ≠ none) where
  go := fun i H hi ⟨vs, Z, h1, r, _⟩ => let ⟨v, hv⟩ := r.lt (i := i) (by simpa [enumD] using hi); ⟨vs, v, .of h1, hv⟩
  stop := fun H ⟨vs, Z, h1, r, _⟩ => ⟨vs, .of h1, by simp [enumD, r.length]⟩
  yld := fun i H x H' d ⟨vs, Z, h1, r, hz, _⟩ hd ⟨T, y, e, hT, e', hy⟩ => by
    subst e; subst e'
    have hd' : ∃ d0, xs[i]? = some d0 ∧ d = .tup [.int (i : Nat), d0] := by
      unfold enumD at hd
      rw [List.getElem?_map, List.getElem?_zipIdx] at hd
      cases h : xs[i]? with
      | none => rw [h] at hd; cases hd
      | some d0 => rw [h] at hd; simp at hd; exact ⟨d0, rfl, hd.symm⟩
    obtain ⟨d0, hd0, rfl⟩ := hd'
    obtain ⟨v, Z1, hv, rv, h2⟩ := r.get0' i d0 hd0
    have := hy vs (.of h1)
    rw [hv] at this; cases this
    have k : Same H (upd H T (.tup [.int (i : Nat), y])) := sameNew hT
    refine ⟨k, Z1, .tup (.of upd_same) ?_, fun b hb => hz b (h2 b hb)⟩
    have := Reps.cons (K := K) (CA := CA) (H := upd H T (.tup [.int (i : Nat), y])) (n := 0) (.int (i : Nat)) (Reps.cons (rv.same k) .nil)
    simpa using this
  keep := (walk_list (K := K) (CA := CA) (xs := xs) ha).keep
  there := (walk_list (K := K) (CA := CA) (xs := xs) ha).there
theorem walk_enumS {a : Addr} {ns : List Int} : Walk K CA (Ite K a) (enumD (ns.map .int)) [] (fun H => SqZ K H a (ns.map V.int)) where
  go := fun i H hi h1 => ⟨_, .int (ns[i]'(by simpa [enumD] using hi)), h1.l, by simp [enumD] at hi; simp [List.getElem?_map, hi]⟩
  stop := fun H h1 => ⟨_, h1.l, by simp [enumD]⟩
  yld := fun i H x H' d h1 hd ⟨T, y, e, hT, e', hy⟩ => by
    subst e; subst e'
    unfold enumD at hd
    rw [List.getElem?_map, List.getElem?_zipIdx, List.getElem?_map] at hd
    have q := hy _ h1.l
    rw [List.getElem?_map] at q
    cases h : ns[i]? with
    | none => rw [h] at hd; cases hd
    | some n =>
      rw [h] at hd q
      simp at hd q
      subst hd; subst q
      refine ⟨sameNew hT, [], .tup (.of upd_same) ?_, by simp⟩
      exact Reps.cons (O := []) (Z := []) (.int _) (Reps.cons (O := []) (Z := []) (.int _) .nil)
  keep := fun F H H' h1 k f hn => SqZ_keep h1 k f
  there := fun H _ a h => by simp at h
def DenI (K : PySem.W.Frag) (CA : Nat → Addr) (W : WX) (M : D × Nat → Addr → Prop) (o : Out (D × Nat)) (σ : St) (H : Hp) (R : It → Hp → Prop) : Prop :=
  match o with
  | .ok p => ∃ xs, itemsOf p.1 = some xs ∧ ∀ J H' Ns P, Same H H' → P H' → Walk K CA J xs Ns P → (∀ a ∈ Ns, H a = none ∨ M p a) → R J H'
  | .exc e => ∀ cls dd H', Same H H' → ExRep K CA e cls dd H' → W cls dd σ H'
  | .bad => False
/-- what is walked leans on the slots named, unless it is owned to its depth -/
def Mi (S : Slots) (it : C) (p : D × Nat) (a : Addr) : Prop := ¬ p.1.mdep ≤ p.2 ∧ Nod S (names it) a
def tI (X : Cx) (G : Glo) (CA : Nat → Addr) (cf : Nat → List D → Out (D × Nat)) (W : WX) (it : C) : TI := fun σ H R => ∃ S, SRep X.K CA S σ H ∧ DenI X.K CA W (Mi S it) (ev G cf (envOf S) it) σ H R
end
section
variable {X : Cx} {nm : Nm} {G : Glo} {CA : Nat → Addr} {cf : Nat → List D → Out (D × Nat)} {W : WX} {tg : Expr}
theorem iter_list {pins : List (Addr × Obj)} {σ : St} {H : Hp} {s : Shared} {a : Addr} {xs : List V} {R : It → Hp → Prop} {E : Value → Shared → Prop} (I : Inv X pins σ H s) (hq : SqL X.K H a xs) (q : R (Itl X.K a) H) :
    wpAny (model X.prog X.w) X.A (pyIter (.ref a)) (PIE X pins σ tg R) E s := by
  obtain ⟨its, rv, p, hz⟩ := I.list hq
  refine wpAny_pyIter_list p.isList ?_
  refine ⟨s.heap.objs.size, [s.heap.objs.size], _, _, H, rfl, I.kept (t' := s.toks) fun b o e => Heap.get?_push_of_some _ e, turn_list a _, ⟨_, Heap.get?_push_size _ rfl, rfl, rfl⟩, fun b hb => ?_, q⟩
  have e : b = s.heap.objs.size := by simpa using hb
  subst e
  exact I.fpOk (Nat.le_refl _) (I.hok.fresh (Nat.le_refl _))
theorem iter_tup {pins : List (Addr × Obj)} {σ : St} {H : Hp} {s : Shared} {a : Addr} {xs : List V} {R : It → Hp → Prop} {E : Value → Shared → Prop} (I : Inv X pins σ H s) (hq : SqT X.K H a xs) (q : R (Itt X.K a) H) :
    wpAny (model X.prog X.w) X.A (pyIter (.ref a)) (PIE X pins σ tg R) E s := by
  obtain ⟨its, rv, p, hz⟩ := I.tuple hq
  refine wpAny_pyIter_tuple (show s.heap.IsTuple a its.toArray from p) ?_
  refine ⟨s.heap.objs.size, [s.heap.objs.size], _, _, H, rfl, I.kept (t' := s.toks) fun b o e => Heap.get?_push_of_some _ e, turn_tuple a _, ⟨_, Heap.get?_push_size _ rfl, rfl, rfl⟩, fun b hb => ?_, q⟩
  have e : b = s.heap.objs.size := by simpa using hb
  subst e
  exact I.fpOk (Nat.le_refl _) (I.hok.fresh (Nat.le_refl _))
theorem iter_str {pins : List (Addr × Obj)} {σ : St} {H : Hp} {s : Shared} {x : Str} {t : Tok} {R : It → Hp → Prop} (I : Inv X pins σ H s) (q : R (Its x) H) :
    wpAny (model X.prog X.w) X.A (pyIter (.str x t)) (PIE X pins σ tg R) X.xe s := by
  cases ha : x.cps.all (· < 128)
  · exact wpAny_pyIter_wide ha (pi_one (tk := s.toks) I _ (turn_str _ x t "str_iterator" (.inr rfl)) ⟨_, Heap.get?_push_size _ rfl, rfl, rfl⟩ q)
  · exact wpAny_pyIter_ascii ha (pi_one (tk := s.toks) I _ (turn_str _ x t "str_ascii_iterator" (.inl rfl)) ⟨_, Heap.get?_push_size _ rfl, rfl, rfl⟩ q)
/-- a list, a tuple, a text, the script: by its value (no dict) -/
def plainIt (p : D × Nat) : Prop := ∀ ks vs, p.1 ≠ .dct ks vs
theorem i_val {c : C} {e : Expr} (h : PE X e (tE X G CA cf W c)) : PI X tg e (tI X G CA cf W c) := by
  refine ⟨fun pins s σ H R I ⟨S, sr, hd⟩ => ?_⟩
  let Q : VK := fun v H1 => ∃ (d : D) (n : Nat) (O Z : List Addr) (xs : List D), PVal X.K CA (Nod S (names c)) H H1 d n v O Z ∧ itemsOf d = some xs ∧ (∀ ks vs, d ≠ .dct ks vs) ∧
    ∀ J H' Ns P, Same H H' → P H' → Walk X.K CA J xs Ns P → (∀ a ∈ Ns, H a = none ∨ Mi S c (d, n) a) → R J H'
  refine thn (h.run pins s σ H Q I ⟨S, sr, ?_⟩) fun v s1 ⟨x, H1, I1, r1, d, n, O, Z, xs, pv, hx, hnd, q⟩ => ?_
  · cases e : ev G cf (envOf S) c with
    | ok p => rw [e] at hd; obtain ⟨xs, hx, q⟩ := hd; exact fun v H' O Z pv => ⟨p.1, p.2, O, Z, xs, pv, hx, (fun ks vs e => by rw [e] at hx; cases hx), q⟩
    | exc z => rw [e] at hd; exact hd
    | bad => rw [e] at hd; exact hd
  · have ns : ∀ a ∈ O ++ Z, H a = none ∨ Mi S c (d, n) a := fun a ha => by
      by_cases hf : d.mdep ≤ n
      · have := pv.rep.full hf
        subst this
        exact .inl (pv.fresh a (by simpa using ha))
      · rcases List.mem_append.mp ha with z | z
        · exact .inl (pv.fresh a z)
        · exact (pv.zin a z).imp id fun w => ⟨hf, w⟩
    have low : ∀ {vs : List V} {m : Nat} {O' Z' : List Addr}, Reps X.K CA H1 m xs vs O' Z' → (∀ b ∈ O', b ∈ O) → (∀ b ∈ Z', b ∈ Z) → ∃ Z0, Reps X.K CA H1 0 xs vs [] Z0 ∧ ∀ b ∈ Z0, b ∈ O ++ Z := fun r h1 h2 => by
      obtain ⟨Z0, r0, h0⟩ := r.zeroed
      exact ⟨Z0, r0, fun b hb => (h0 b hb).elim (fun z => by simp [h1 b z]) fun z => by simp [h2 b z]⟩
    cases d <;> first | (cases hx; done) | exact absurd rfl (hnd _ _) | skip
    · cases hx
      obtain ⟨rfl, _, _, hb⟩ := pv.rep.str_inv
      obtain ⟨t, rfl⟩ := r1
      exact iter_str I1 (q _ H1 [] _ pv.same trivial (walk_str hb) (by simp))
    · cases hx
      obtain ⟨a, vs, rfl, h1, r⟩ := pv.rep.tup_inv
      cases r1
      obtain ⟨Z0, r0, h0⟩ := low r (fun b h => h) fun b h => h
      exact iter_tup I1 h1 (q _ H1 (O ++ Z) _ pv.same ⟨vs, Z0, h1, r0, h0, fun b hb => pv.rep.there b hb⟩ walk_tup ns)
    · cases hx
      obtain ⟨a, vs, O', Z', m, rfl, h1, r, hO, hZ⟩ := pv.rep.lst_inv
      cases r1
      obtain ⟨Z0, r0, h0⟩ := low r hO hZ
      have ha : a ∈ O ++ Z := by
        have := pv.rep
        cases this with
        | lstO _ _ => simp
        | lstZ _ _ => simp
      exact iter_list I1 (.of h1) (q _ H1 (O ++ Z) _ pv.same ⟨vs, Z0, h1, r0, h0, fun b hb => pv.rep.there b hb⟩ (walk_list ha) ns)
    · cases hx
      obtain ⟨a, rfl, h1, _⟩ := pv.rep.scr_inv
      cases r1
      exact iter_list I1 h1.l (q _ H1 [] _ pv.same h1 walk_scr (by simp))

theorem i_rng1 {np : Nat → Option Nat} {bl : List Str} {c : C} {e : Expr} {p pos : Pos} (C : CtxOk X nm G CA cf np bl) (hr : ("range" : Str) ∈ bl) (hg : Gl X "range") (h : PE X e (tE X G CA cf W c)) (hs : noStar e = true) : PI X tg (.Call (.Name "range" p) [e] [] pos) (tI X G CA cf W (.rng [c])) := by
  refine ⟨fun pins s σ H R I ⟨S, sr, hd⟩ => (pi_range1 hg (C.blt _ hr) (a_cons h a_nil (star_cons hs)) (by rw [star_cons hs]; rfl)).run pins s σ H R I ⟨S, sr, ?_⟩⟩
  have hd' : DenI X.K CA W (Mi S (.rng [c])) ((evs G cf (envOf S) [c]).bind fun ps => (rngD (ps.map (·.1))).bind fun xs => .ok (.lst xs, 9)) σ H R := by rw [ev] at hd; exact hd
  cases e1 : evs G cf (envOf S) [c] with
  | exc x => rw [e1] at hd'; exact hd'
  | bad => rw [e1] at hd'; exact hd'
  | ok ps =>
    rw [e1] at hd'
    intro vs H1 O Z s1 pv
    simp only [evs] at e1
    cases e2 : ev G cf (envOf S) c with
    | exc x => rw [e2] at e1; cases e1
    | bad => rw [e2] at e1; cases e1
    | ok q =>
      rw [e2] at e1; cases e1
      obtain ⟨v, rfl, p1⟩ := pv.one_inv
      obtain ⟨d, n⟩ := q
      cases d <;> first | exact hd'.elim | skip
      simp only [List.map_cons, List.map_nil, Out.bind_ok, rngD] at hd'
      unfold gd at hd'
      split at hd'
      · rename_i hb
        obtain ⟨xs, hx, q⟩ := hd'
        cases hx
        refine ⟨_, by rw [p1.rep.int_inv.1], hb.1, hb.2, ?_⟩
        refine q _ H1 [] (fun _ => True) s1 trivial ?_ (by simp)
        unfold rangeD
        rw [Int.sub_zero]
        exact walk_rng
      · exact hd'.elim
theorem i_rng2 {np : Nat → Option Nat} {bl : List Str} {c c2 : C} {e e2 : Expr} {p pos : Pos} (C : CtxOk X nm G CA cf np bl) (hr : ("range" : Str) ∈ bl) (hg : Gl X "range") (h : PE X e (tE X G CA cf W c)) (hs : noStar e = true) (h2 : PE X e2 (tE X G CA cf W c2)) (hs2 : noStar e2 = true) :
    PI X tg (.Call (.Name "range" p) [e, e2] [] pos) (tI X G CA cf W (.rng [c, c2])) := by
  refine ⟨fun pins s σ H R I ⟨S, sr, hd⟩ => (pi_range2 hg (C.blt _ hr) (a_cons h (a_cons h2 a_nil (star_cons hs2)) (star_cons hs)) (by rw [star_cons hs, star_cons hs2]; rfl) (by rw [star_cons hs2]; rfl)).run pins s σ H R I ⟨S, sr, ?_⟩⟩
  have hd' : DenI X.K CA W (Mi S (.rng [c, c2])) ((evs G cf (envOf S) [c, c2]).bind fun ps => (rngD (ps.map (·.1))).bind fun xs => .ok (.lst xs, 9)) σ H R := by rw [ev] at hd; exact hd
  cases e1 : evs G cf (envOf S) [c, c2] with
  | exc x => rw [e1] at hd'; exact hd'
  | bad => rw [e1] at hd'; exact hd'
  | ok ps =>
    rw [e1] at hd'
    intro vs H1 O Z s1 pv
    simp only [evs] at e1
    obtain ⟨q, _, e1⟩ := Out.bind_eq_ok e1
    obtain ⟨l, e3, e1⟩ := Out.bind_eq_ok e1
    obtain ⟨q2, _, e3⟩ := Out.bind_eq_ok e3
    cases e3; cases e1
    obtain ⟨v, w, O1, Z1, O2, Z2, rfl, p1, p2⟩ := pv.two_inv
    obtain ⟨d, n⟩ := q
    obtain ⟨d2, n2⟩ := q2
    cases d <;> first | exact hd'.elim | skip
    cases d2 <;> first | exact hd'.elim | skip
    simp only [List.map_cons, List.map_nil, Out.bind_ok, rngD] at hd'
    unfold gd at hd'
    split at hd'
    · rename_i hb
      obtain ⟨xs, hx, q⟩ := hd'
      cases hx
      refine ⟨_, _, by rw [p1.rep.int_inv.1, p2.rep.int_inv.1], hb, ?_⟩
      exact q _ H1 [] _ s1 trivial walk_rng (by simp)
    · exact hd'.elim
end
end Vy

namespace Vy
open PySem PySem.Spec
open PyProof.Rows hiding St
open L2
/-! ## comprehensions -/
theorem compL_exc {f : D → Out (Option (D × Nat))} : ∀ {xs : List D} {e : Exn}, compL f xs ≠ .exc e
  | [], _ => fun h => by cases h
  | x :: xs, e => fun h => by
    unfold compL at h
    split at h
    · cases q : compL f xs with
      | ok ys => rw [q] at h; simp only [Out.bind_ok] at h; unfold gd at h; split at h <;> cases h
      | exc e' => exact compL_exc q
      | bad => rw [q] at h; cases h
    · exact compL_exc h
    · cases h
theorem compL_cons {f : D → Out (Option (D × Nat))} {x : D} {xs : List D} {ps : List (D × Nat)} (h : compL f (x :: xs) = .ok ps) :
    (∃ y ys, f x = .ok (some y) ∧ compL f xs = .ok ys ∧ ps = y :: ys ∧ ps.length ≤ SZ) ∨ (f x = .ok none ∧ compL f xs = .ok ps) := by
  unfold compL at h
  split at h
  · rename_i y e
    obtain ⟨ys, h1, h⟩ := Out.bind_eq_ok h
    obtain ⟨h2, h⟩ := gd_ok h
    cases h
    exact .inl ⟨y, ys, e, h1, rfl, h2⟩
  · rename_i e
    exact .inr ⟨e, h⟩
  · cases h
theorem compL_hd {f : D → Out (Option (D × Nat))} {x : D} {xs : List D} {ps : List (D × Nat)} (h : compL f (x :: xs) = .ok ps) : f x = .ok none ∨ ∃ y, f x = .ok (some y) := by
  rcases compL_cons h with ⟨y, ys, z, _⟩ | ⟨z, _⟩
  · exact .inr ⟨y, z⟩
  · exact .inl z
section
variable {K : PySem.W.Frag} {CA : Nat → Addr}
theorem PVs.updD {M : Addr → Prop} {H1 H : Hp} {ps : List (D × Nat)} {vs : List V} {O Z : List Addr} {Dd : Addr} {ws : List V} {o : HO} (p : PVs K CA M H1 H ps vs O Z) (hD : H Dd = some (.lst ws)) (h1 : H1 Dd = none) (hn : Dd ∉ O ++ Z) : PVs K CA M H1 (upd H Dd o) ps vs O Z := by
  induction p with
  | nil => exact .nil
  | @cons q v O1 Z1 ps vs O2 Z2 pv _ a b ih =>
    refine .cons ⟨fun c u e => ?_, ?_, pv.fresh, pv.nd, pv.zin, pv.zo⟩ (ih ?_) a b
    · have hc : c ≠ Dd := fun z => by rw [z, h1] at e; cases e
      rw [upd_ne hc]; exact pv.same c u e
    · refine pv.rep.keep (F := [Dd]) (fun c u e hc => ?_) (fun c hc => ?_) (fun c hc => ?_)
      · rw [upd_ne (by simpa using hc)]; exact e
      · simp at hc; subst hc; rw [hD]; trivial
      · intro z; simp at z; subst z; exact hn (by simp at hc ⊢; rcases hc with z | z <;> simp [z])
    · intro z; exact hn (by simp at z ⊢; rcases z with z | z <;> simp [z])
theorem PVs.snoc {M : Addr → Prop} {H1 H : Hp} {ps : List (D × Nat)} {vs : List V} {O Z : List Addr} {q : D × Nat} {v : V} {O' Z' : List Addr} (p : PVs K CA M H1 H ps vs O Z) (w : PVal K CA M H1 H q.1 q.2 v O' Z') (a : ∀ x ∈ O', x ∉ O ++ Z) (b : ∀ x ∈ O, x ∉ Z') :
    PVs K CA M H1 H (ps ++ [q]) (vs ++ [v]) (O ++ O') (Z ++ Z') := by
  induction p with
  | nil => simpa using PVs.cons w .nil (by simp) (by simp)
  | @cons r u O1 Z1 ps vs O2 Z2 pv _ c d ih =>
    have := PVs.cons pv (ih (fun x hx z => a x hx (by simp at z ⊢; rcases z with z | z <;> simp [z])) fun x hx => b x (by simp [hx])) (fun x hx => ?_) (fun x hx z => ?_)
    · simpa [List.append_assoc] using this
    · rcases List.mem_append.mp hx with z | z
      · exact c x z
      · intro w; exact a x z (by simp at w ⊢; rcases w with w | w <;> simp [w])
    · rcases List.mem_append.mp z with z | z
      · exact d x hx z
      · exact b x (by simp [hx]) z
theorem norm_root {H : Hp} {d : D} {v : V} {Z : List Addr} (r : Rep K CA H 0 d v [] Z) : Rep K CA H (norm (d, 0)).2 d v [] Z := by
  unfold norm
  by_cases h : d.mdep = 0
  · simp only [h, if_true]
    obtain ⟨_, e, r'⟩ := r.imm (m := 9) h
    subst e; exact r'
  · simp only [h, if_false]; exact r
theorem norm_fst (p : D × Nat) : (norm p).1 = p.1 := by unfold norm; split <;> rfl
/-- a slot takes an item of others -/
def putR (S : Slots) (i : Nat) (d : D) (v : V) (Z : List Addr) : Slots := S.set i (some ⟨d, (norm (d, 0)).2, v, [], Z⟩)
theorem envOf_put {S : Slots} {i : Nat} {d : D} {v : V} {Z : List Addr} : envOf (putR S i d v Z) = setV (envOf S) i (d, 0) := by
  unfold putR setV envOf
  rw [List.map_set]
  congr 2
  show some (d, (norm (d, 0)).2) = _
  rw [show norm (d, 0) = ((norm (d, 0)).1, (norm (d, 0)).2) from rfl, norm_fst]
theorem SRep.put {S : Slots} {σ σ' : St} {H : Hp} (sr : SRep K CA S σ H) {i : Nat} {d : D} {v : V} {Z : List Addr} (r : Rep K CA H 0 d v [] Z) (hi : i < S.length) (hl : σ'.length = σ.length)
    (hs : ∀ j, j ≠ i → ∀ x, S[j]? = some (some x) → σ'[j]? = σ[j]?) (h1 : σ'[i]? = some (some v)) : SRep K CA (putR S i d v Z) σ' H where
  len := by unfold putR; rw [List.length_set, sr.len, hl]
  rep := fun j x hx => by
    unfold putR at hx
    by_cases hj : i = j
    · subst hj
      rw [List.getElem?_set_self hi] at hx
      cases hx
      exact ⟨h1, norm_root r⟩
    · rw [List.getElem?_set_ne hj] at hx
      obtain ⟨a, b⟩ := sr.rep j x hx
      exact ⟨by rw [hs j (Ne.symm hj) x hx]; exact a, b⟩
end
theorem wipe_get {σ : St} {j : Nat} : ∀ {vs : List Nat}, j ∉ vs → (wipe σ vs)[j]? = σ[j]?
  | [], _ => rfl
  | v :: vs, h => by
    simp at h
    unfold wipe
    rw [List.getElem?_set_ne (Ne.symm h.1), wipe_get h.2]
theorem wipe_at {σ : St} {j : Nat} : ∀ {vs : List Nat}, j ∈ vs → j < σ.length → (wipe σ vs)[j]? = some none
  | [], h, _ => by simp at h
  | v :: vs, h, hl => by
    unfold wipe
    by_cases e : v = j
    · subst e; rw [List.getElem?_set_self (by rw [wipe_length]; exact hl)]
    · rw [List.getElem?_set_ne e]
      exact wipe_at (by simpa [Ne.symm e] using h) hl
theorem wipe_wipe {σ : St} {vs : List Nat} : wipe (wipe σ vs) vs = wipe σ vs := List.ext_getElem? fun j => by
  by_cases h : j ∈ vs
  · by_cases hl : j < σ.length
    · rw [wipe_at h hl, wipe_at h (by rw [wipe_length]; exact hl)]
    · rw [List.getElem?_eq_none (by simp [wipe_length]; omega), List.getElem?_eq_none (by simp [wipe_length]; omega)]
  · rw [wipe_get h]
/-- the target's slots -/
def Tg.is : Tg → List Nat
  | .one i => [i]
  | .tup l => l
section
variable {X : Cx} {nm : Nm} {G : Glo} {CA : Nat → Addr} {cf : Nat → List D → Out (D × Nat)} {W : WX}
abbrev W0 : WX := fun _ _ _ _ => False
/-- a target has taken an item of others, that leans on Z -/
structure Put (S : Slots) (σ : St) (S' : Slots) (σ' : St) (is : List Nat) (Z : List Addr) : Prop where
  len : σ'.length = σ.length
  oth : ∀ j, j ∉ is → S'[j]? = S[j]? ∧ σ'[j]? = σ[j]?
  new : ∀ i ∈ is, ∀ r : Root, S'[i]? = some (some r) → r.O = [] ∧ ∀ a ∈ r.Z, a ∈ Z
theorem Put.wipe {S S' : Slots} {σ σ' : St} {is : List Nat} {Z : List Addr} (p : Put S σ S' σ' is Z) : wipe σ' is = wipe σ is := List.ext_getElem? fun j => by
  by_cases h : j ∈ is
  · by_cases hl : j < σ.length
    · rw [wipe_at h hl, wipe_at h (by rw [p.len]; exact hl)]
    · rw [List.getElem?_eq_none (by rw [wipe_length, p.len]; omega), List.getElem?_eq_none (by rw [wipe_length]; omega)]
  · rw [wipe_get h, wipe_get h, (p.oth j h).2]
theorem Put.nod {S S' : Slots} {σ σ' : St} {is : List Nat} {Z : List Addr} (p : Put S σ S' σ' is Z) {js : List Nat} {a : Addr} (h : Nod S' js a) : Nod S js a ∨ a ∈ Z := by
  obtain ⟨j, hj, r, e, q⟩ := h
  by_cases hi : j ∈ is
  · obtain ⟨e1, e2⟩ := p.new j hi r e
    rw [e1] at q
    exact .inr (e2 a (by simpa using q))
  · rw [(p.oth j hi).1] at e
    exact .inl ⟨j, hj, r, e, q⟩
/-- how a target takes an item: the slots behind it -/
def TgOk (K : PySem.W.Frag) (CA : Nat → Addr) (tg : Tg) (g : TG) : Prop := ∀ (S : Slots) (σ : St) (H : Hp) (d : D) (v : V) (Z : List Addr) (ρ : Env) (Q : St → Hp → Prop), SRep K CA S σ H → Rep K CA H 0 d v [] Z → tg.put (envOf S) d = .ok ρ → (∀ i ∈ tg.is, i < S.length) →
  (∀ S' σ', SRep K CA S' σ' H → envOf S' = ρ → Put S σ S' σ' tg.is Z → Q σ' H) → g v σ H Q
theorem put_one {K : PySem.W.Frag} {S : Slots} {σ : St} {H : Hp} {d : D} {v : V} {Z : List Addr} {i : Nat} (sr : SRep K CA S σ H) (r : Rep K CA H 0 d v [] Z) (hi : i < S.length) :
    SRep K CA (putR S i d v Z) (σ.set i (some v)) H ∧ Put S σ (putR S i d v Z) (σ.set i (some v)) [i] Z := by
  refine ⟨sr.put r hi (by simp) (fun j hj x hx => by rw [List.getElem?_set_ne (Ne.symm hj)]) (by rw [List.getElem?_set_self (by rw [← sr.len]; exact hi)]), by simp, fun j hj => ?_, fun j hj r e => ?_⟩
  · have : i ≠ j := fun z => hj (by simp [z])
    unfold putR
    rw [List.getElem?_set_ne this, List.getElem?_set_ne this]
    exact ⟨rfl, rfl⟩
  · simp at hj
    subst hj
    unfold putR at e
    rw [List.getElem?_set_self hi] at e
    cases e
    exact ⟨rfl, fun a h => h⟩
theorem tg_one {K : PySem.W.Frag} {i : Nat} : TgOk K CA (.one i) (gName i) := by
  intro S σ H d v Z ρ Q sr r hp hi h
  have hp : Out.ok (setV (envOf S) i (d, 0)) = Out.ok ρ := hp
  cases hp
  have hi : i < S.length := hi i (by simp [Tg.is])
  exact h _ _ (put_one sr r hi).1 envOf_put (put_one sr r hi).2
def gNames : List Nat → TGs
  | [] => gNil
  | i :: is => gCons (gName i) (gNames is)
theorem gNames_ok {K : PySem.W.Frag} {H : Hp} {Q : St → Hp → Prop} : ∀ (is : List Nat) (ds : List D) (vs : List V) (Z : List Addr) (S : Slots) (σ : St), SRep K CA S σ H → Reps K CA H 0 ds vs [] Z → is.length = ds.length → (∀ i ∈ is, i < S.length) → is.Nodup →
    (∀ S' σ', SRep K CA S' σ' H → envOf S' = (is.zip ds).foldl (fun r p => setV r p.1 (p.2, 0)) (envOf S) → Put S σ S' σ' is Z → Q σ' H) → gNames is vs σ H Q
  | [], ds, vs, Z, S, σ, sr, r, hl, hi, nd, h => by
    cases ds <;> cases hl
    cases r
    exact ⟨rfl, h S σ sr rfl ⟨rfl, fun j _ => ⟨rfl, rfl⟩, by simp⟩⟩
  | i :: is, ds, vs, Z, S, σ, sr, r, hl, hi, nd, h => by
    cases ds with
    | nil => cases hl
    | cons d ds =>
    obtain ⟨v, vs', Z1, Z2, rfl, r1, r2, rfl⟩ : ∃ v vs' Z1 Z2, vs = v :: vs' ∧ Rep K CA H 0 d v [] Z1 ∧ Reps K CA H 0 ds vs' [] Z2 ∧ Z = Z1 ++ Z2 := by
      generalize hO : ([] : List Addr) = O at r
      generalize hX : d :: ds = dd at r
      cases r with
      | nil => cases hX
      | cons r1 r2 =>
        cases hX
        obtain ⟨e1, e2⟩ := List.append_eq_nil_iff.mp hO.symm
        subst e1; subst e2
        exact ⟨_, _, _, _, rfl, r1, r2, rfl⟩
    have hi0 : i < S.length := hi i (by simp)
    obtain ⟨p1, p2⟩ := put_one sr r1 hi0
    have hl' : is.length = ds.length := by simpa using hl
    have nd' := List.nodup_cons.mp nd
    refine ⟨v, vs', rfl, ?_⟩
    refine gNames_ok is ds vs' Z2 _ _ p1 r2 hl' (fun j hj => by unfold putR; rw [List.length_set]; exact hi j (by simp [hj])) nd'.2 fun S' σ' sr' he pu => ?_
    refine h S' σ' sr' (by rw [he, envOf_put]; rfl) ⟨by rw [pu.len, p2.len], fun j hj => ?_, fun j hj r e => ?_⟩
    · simp at hj
      obtain ⟨q1, q2⟩ := pu.oth j hj.2
      obtain ⟨q3, q4⟩ := p2.oth j (by simp [hj.1])
      exact ⟨q1.trans q3, q2.trans q4⟩
    · rcases List.mem_cons.mp hj with rfl | hj
      · rw [(pu.oth j nd'.1).1] at e
        obtain ⟨w1, w2⟩ := p2.new j (by simp) r e
        exact ⟨w1, fun a ha => by simp [w2 a ha]⟩
      · obtain ⟨w1, w2⟩ := pu.new j hj r e
        exact ⟨w1, fun a ha => by simp [w2 a ha]⟩
theorem tg_tup {K : PySem.W.Frag} {is : List Nat} (nd : is.Nodup) : TgOk K CA (.tup is) (gTup K is.length (gNames is)) := by
  intro S σ H d v Z ρ Q sr r hp hi h
  cases d <;> first | (cases hp; done) | skip
  rename_i ds
  obtain ⟨hl, hp⟩ := gd_ok (show gd _ _ = .ok ρ from hp)
  cases hp
  obtain ⟨a, vs, rfl, hq, rs⟩ := r.tup_inv
  exact ⟨a, vs, rfl, hq, by rw [← rs.length, hl], gNames_ok is ds vs Z S σ sr rs hl hi nd h⟩
/-- the interpreter's turn -/
def turnF (G : Glo) (cf : Nat → List D → Out (D × Nat)) (ρ : Env) (tg : Tg) (t : Option C) (e : C) (d : D) : Out (Option (D × Nat)) :=
  (tg.put ρ d).bind fun ρ' => (evt G cf ρ' t).bind fun b => if b = true then (ev G cf ρ' e).bind fun y => .ok (some y) else .ok none
def tTo (X : Cx) (G : Glo) (CA : Nat → Addr) (cf : Nat → List D → Out (D × Nat)) (W : WX) (t : Option C) : TT := fun σ H Q => ∃ S, SRep X.K CA S σ H ∧ DenB X.K CA W (evt G cf (envOf S) t) σ H Q
theorem envOf_len (S : Slots) : (envOf S).length = S.length := by unfold envOf; simp
/-- S without the target's slots -/
def wipeS (S : Slots) : List Nat → Slots
  | [] => S
  | v :: vs => (wipeS S vs).set v none
theorem wipeS_len (S : Slots) : ∀ vs, (wipeS S vs).length = S.length
  | [] => rfl
  | v :: vs => by unfold wipeS; rw [List.length_set, wipeS_len S vs]
theorem wipeS_get {S : Slots} {j : Nat} : ∀ {vs : List Nat}, j ∉ vs → (wipeS S vs)[j]? = S[j]?
  | [], _ => rfl
  | v :: vs, h => by
    simp at h
    unfold wipeS
    rw [List.getElem?_set_ne (Ne.symm h.1), wipeS_get h.2]
theorem wipeS_some {S : Slots} {j : Nat} {r : Root} : ∀ {vs : List Nat}, (wipeS S vs)[j]? = some (some r) → S[j]? = some (some r) ∧ j ∉ vs
  | [], h => ⟨h, by simp⟩
  | v :: vs, h => by
    unfold wipeS at h
    by_cases e : v = j
    · subst e
      by_cases hv : v < (wipeS S vs).length
      · rw [List.getElem?_set_self hv] at h; cases h
      · rw [List.getElem?_eq_none (by simpa using hv)] at h; cases h
    · rw [List.getElem?_set_ne e] at h
      obtain ⟨a, b⟩ := wipeS_some h
      exact ⟨a, by simp [Ne.symm e, b]⟩
theorem SRep.wipe {K : PySem.W.Frag} {S : Slots} {σ : St} {H : Hp} (sr : SRep K CA S σ H) (vs : List Nat) : SRep K CA (wipeS S vs) (L2.wipe σ vs) H where
  len := by rw [wipeS_len, wipe_length, sr.len]
  rep := fun i r h => by
    obtain ⟨a, b⟩ := wipeS_some h
    obtain ⟨c, d⟩ := sr.rep i r a
    exact ⟨by rw [wipe_get b]; exact c, d⟩
theorem put_wipe {S : Slots} {tg : Tg} (h1 : ∀ l, tg = .tup l → l.Nodup) (d : D) : tg.put (envOf (wipeS S tg.is)) d = tg.put (envOf S) d := by
  have one : ∀ (S : Slots) (i : Nat) (p : D × Nat), setV (envOf (S.set i none)) i p = setV (envOf S) i p := fun S i p => by
    unfold setV envOf; rw [List.map_set, List.set_set]
  cases tg with
  | one i => show Out.ok _ = Out.ok _; rw [show wipeS S (Tg.one i).is = S.set i none from rfl, one]
  | tup l =>
    cases d <;> first | rfl | skip
    rename_i ds
    show gd _ _ = gd _ _
    have key : ∀ (ps : List (Nat × D)) (ρ ρ' : Env), ρ.length = ρ'.length → (∀ j, j ∉ ps.map (·.1) → ρ[j]? = ρ'[j]?) → ps.foldl (fun r p => setV r p.1 (p.2, 0)) ρ = ps.foldl (fun r p => setV r p.1 (p.2, 0)) ρ' := by
      intro ps
      induction ps with
      | nil => intro ρ ρ' hl h; exact List.ext_getElem? fun j => h j (by simp)
      | cons p ps ih =>
        intro ρ ρ' hl h
        rw [List.foldl_cons, List.foldl_cons]
        refine ih _ _ (by unfold setV; simp [hl]) fun j hj => ?_
        unfold setV
        by_cases e : p.1 = j
        · subst e
          by_cases hp : p.1 < ρ.length
          · rw [List.getElem?_set_self hp, List.getElem?_set_self (by rw [← hl]; exact hp)]
          · rw [List.getElem?_eq_none (by simpa using hp), List.getElem?_eq_none (by simp; omega)]
        · rw [List.getElem?_set_ne e, List.getElem?_set_ne e]
          exact h j (by simp; exact ⟨Ne.symm e, by simpa using hj⟩)
    have hw : ∀ (l : List Nat) (j : Nat), j ∉ l → (envOf (wipeS S l))[j]? = (envOf S)[j]? := fun l j hj => by
      unfold envOf; rw [List.getElem?_map, List.getElem?_map, wipeS_get hj]
    unfold gd
    split
    · rename_i hlen
      show Out.ok (List.foldl _ (envOf (wipeS S l)) (l.zip ds)) = _
      rw [key (l.zip ds) (envOf (wipeS S l)) (envOf S) (by rw [envOf_len, envOf_len, wipeS_len]) fun j hj => hw l j (by
        rw [List.map_fst_zip (Nat.le_of_eq hlen)] at hj; exact hj)]
    · rfl
theorem Nod.wipe {S : Slots} {vs is : List Nat} {a : Addr} (h : Nod (wipeS S vs) is a) : Nod S is a := by
  obtain ⟨i, hi, r, e, q⟩ := h
  exact ⟨i, hi, r, (wipeS_some e).1, q⟩
theorem Nod.there' {K : PySem.W.Frag} {S : Slots} {σ : St} {H : Hp} {is : List Nat} {a : Addr} (sr : SRep K CA S σ H) (h : Nod S is a) : H a ≠ none := by
  obtain ⟨i, hi, r, e, q⟩ := h
  exact (sr.rep i r e).2.there a q
theorem same_there {H H' : Hp} (s : Same H H') {a : Addr} (h : H a ≠ none) : H' a ≠ none := by
  cases e : H a with
  | none => exact absurd e h
  | some o => rw [s a o e]; simp
theorem PVal.updD {K : PySem.W.Frag} {M : Addr → Prop} {H1 H : Hp} {d : D} {n : Nat} {v : V} {O Z : List Addr} {Dd : Addr} {ws : List V} {o : HO} (p : PVal K CA M H1 H d n v O Z) (hD : H Dd = some (.lst ws)) (h1 : H1 Dd = none) (hn : Dd ∉ O ++ Z) : PVal K CA M H1 (upd H Dd o) d n v O Z := by
  have q := PVs.updD (o := o) (PVs.cons (p := (d, n)) p .nil (by simp) (by simp)) hD h1 (by simpa using hn)
  obtain ⟨v', e, p'⟩ := PVs.one_inv q
  cases e
  simpa using p'
theorem compL_len {f : D → Out (Option (D × Nat))} : ∀ {xs : List D} {ps : List (D × Nat)}, compL f xs = .ok ps → ps.length ≤ SZ
  | [], ps, h => by cases h; simp
  | x :: xs, ps, h => by
    rcases compL_cons h with ⟨y, ys, _, _, _, z⟩ | ⟨_, z⟩
    · exact z
    · exact compL_len z
/-- a comprehension's reading from what it comes to -/
theorem lc_sem {it : C} {tg : Tg} {t : Option C} {e : C} {g : TG} {σ : St} {H : Hp} {Q : VK} (hg : TgOk X.K CA tg g) (nd : ∀ l, tg = .tup l → l.Nodup) (hi : ∀ i ∈ tg.is, i < σ.length)
    (h : tE X G CA cf W (.lc it tg t e) σ H Q) : tLc (tI X G CA cf W it) g (tTo X G CA cf W0 t) (tE X G CA cf W0 e) tg.is σ H Q := by
  obtain ⟨S, sr, hd⟩ := h
  rw [ev] at hd
  refine ⟨S, sr, ?_⟩
  cases e1 : ev G cf (envOf S) it with
  | exc x => rw [e1] at hd; exact hd
  | bad => rw [e1] at hd; exact hd
  | ok p =>
  rw [e1] at hd
  simp only [Out.bind_ok] at hd
  obtain ⟨xs, hx, hd⟩ := Den.of hd
  refine ⟨xs, hx, fun J H1 Ns P s1 hP w hNs Dd hDn => ?_⟩
  generalize hf : (fun d => (tg.put (envOf S) d).bind fun ρ' => (evt G cf ρ' t).bind fun b => if b = true then (ev G cf ρ' e).bind fun y => .ok (some y) else .ok none) = f at hd
  cases e2 : compL f xs with
  | exc x => exact absurd e2 compL_exc
  | bad => rw [e2] at hd; exact hd.elim
  | ok ps =>
  rw [e2] at hd
  have hlen := compL_len e2
  let M1 : Addr → Prop := fun a => Nod S (names it ++ (namesO t ++ names e)) a ∨ a ∈ Ns
  have hN0 : ∀ a ∈ Ns, H1 a ≠ none := w.there H1 hP
  have hDN : Dd ∉ Ns := fun z => hN0 Dd z hDn
  have sNod : ∀ {is : List Nat} {a : Addr}, Nod S is a → H1 a ≠ none := fun h => same_there s1 (h.there' sr)
  refine ⟨fun i m Hc => m = xs.length - i ∧ i ≤ xs.length ∧ ∃ done rest vs O Z, ps = done ++ rest ∧ compL f (xs.drop i) = .ok rest ∧ Hc Dd = some (.lst vs) ∧ PVs X.K CA M1 H1 Hc done vs O Z ∧ Dd ∉ O ++ Z ∧ Same H1 Hc ∧ P Hc, ?_, ?_⟩
  · refine ⟨xs.length, rfl, Nat.zero_le _, [], ps, [], [], [], rfl, e2, upd_same, .nil, by simp, sameNew hDn, ?_⟩
    exact w.keep [] H1 _ hP (keepS (sameNew hDn)) (fun a z => by simp at z) (by simp)
  · rintro i m Hc ⟨rfl, hil, done, rest, vs, O, Z, hps, hr, hD, pv, hDO, sc, hPc⟩
    have srw : SRep X.K CA (wipeS S tg.is) (wipe σ tg.is) Hc := (sr.same (s1.trans sc)).wipe tg.is
    by_cases hlt : i < xs.length
    · right
      refine ⟨w.go i Hc hlt hPc, fun H' => ∃ done rest vs O Z, ps = done ++ rest ∧ compL f (xs.drop (i + 1)) = .ok rest ∧ H' Dd = some (.lst vs) ∧ PVs X.K CA M1 H1 H' done vs O Z ∧ Dd ∉ O ++ Z ∧ Same H1 H' ∧ P H', fun H' hx => ⟨xs.length - (i + 1), by omega, rfl, by omega, hx⟩, fun x H2 hy => ?_⟩
      have hxi : xs[i]? = some xs[i] := List.getElem?_eq_getElem hlt
      obtain ⟨s2, Zx, rx, hZx⟩ := w.yld i Hc x H2 xs[i] hPc hxi hy
      rw [List.drop_eq_getElem_cons hlt] at hr
      have hput : ∀ ρ', tg.put (envOf S) xs[i] = .ok ρ' → (evt G cf ρ' t).bind (fun b => if b = true then (ev G cf ρ' e).bind fun y => .ok (some y) else .ok none) = f xs[i] → g x (wipe σ tg.is) H2 fun σ2 H2 => wipe σ2 tg.is = wipe σ tg.is ∧ tTo X G CA cf W0 t σ2 H2 fun b H3 =>
          if b = true then tE X G CA cf W0 e σ2 H3 fun y H4 => ∃ acc, H4 Dd = some (.lst acc) ∧ acc.length < sizeLine ∧ (fun H' => ∃ done rest vs O Z, ps = done ++ rest ∧ compL f (xs.drop (i + 1)) = .ok rest ∧ H' Dd = some (.lst vs) ∧ PVs X.K CA M1 H1 H' done vs O Z ∧ Dd ∉ O ++ Z ∧ Same H1 H' ∧ P H') (upd H4 Dd (.lst (acc ++ [y])))
          else (fun H' => ∃ done rest vs O Z, ps = done ++ rest ∧ compL f (xs.drop (i + 1)) = .ok rest ∧ H' Dd = some (.lst vs) ∧ PVs X.K CA M1 H1 H' done vs O Z ∧ Dd ∉ O ++ Z ∧ Same H1 H' ∧ P H') H3 := by
        intro ρ' hp hfx
        refine hg (wipeS S tg.is) (wipe σ tg.is) H2 xs[i] x Zx ρ' _ (srw.same s2) rx (by rw [put_wipe nd]; exact hp) (fun j hj => by rw [wipeS_len, sr.len]; exact hi j hj) fun S' σ' sr' hρ pu => ?_
        refine ⟨by rw [pu.wipe, wipe_wipe], S', sr', ?_⟩
        rw [hρ]
        have keepP : ∀ {H4 : Hp} {o : HO}, Same Hc H4 → P (upd H4 Dd o) ∧ P H4 := fun {H4 o} s => by
          have p4 : P H4 := w.keep [] Hc _ hPc (keepS s) (fun a z => by simp at z) (by simp)
          refine ⟨w.keep [Dd] H4 _ p4 (fun c u e hc => by rw [upd_ne (by simpa using hc)]; exact e) (fun c hc => ?_) (fun a ha z => ?_), p4⟩
          · simp at hc; subst hc; rw [s _ _ hD]; trivial
          · simp at z; subst z; exact hDN ha
        cases e3 : evt G cf ρ' t with
        | exc y => rw [e3] at hfx; exact (compL_hd hr).elim (fun z => by rw [← hfx] at z; cases z) fun ⟨_, z⟩ => by rw [← hfx] at z; cases z
        | bad => rw [e3] at hfx; exact (compL_hd hr).elim (fun z => by rw [← hfx] at z; cases z) fun ⟨_, z⟩ => by rw [← hfx] at z; cases z
        | ok b =>
        rw [e3] at hfx
        simp only [Out.bind_ok] at hfx
        intro H3 s3
        cases b with
        | false =>
          simp only [Bool.false_eq_true, if_false] at hfx ⊢
          rcases compL_cons hr with ⟨y, ys, z, _⟩ | ⟨_, z⟩
          · rw [← hfx] at z; cases z
          · have s23 : Same Hc H3 := s2.trans s3
            exact ⟨done, rest, vs, O, Z, hps, z, s23 _ _ hD, pv.later s23, hDO, sc.trans s23, (keepP (o := .lst []) s23).2⟩
        | true =>
          simp only [if_true] at hfx ⊢
          refine ⟨S', sr'.same s3, ?_⟩
          rw [hρ]
          cases e4 : ev G cf ρ' e with
          | exc y => rw [e4] at hfx; exact (compL_hd hr).elim (fun z => by rw [← hfx] at z; cases z) fun ⟨_, z⟩ => by rw [← hfx] at z; cases z
          | bad => rw [e4] at hfx; exact (compL_hd hr).elim (fun z => by rw [← hfx] at z; cases z) fun ⟨_, z⟩ => by rw [← hfx] at z; cases z
          | ok y =>
          rw [e4] at hfx
          simp only [Out.bind_ok] at hfx
          intro yv H4 Oy Zy py
          rcases compL_cons hr with ⟨y', ys, z, z2, z3, _⟩ | ⟨z, _⟩
          rotate_left
          · rw [← hfx] at z; cases z
          · rw [← hfx] at z; cases z
            subst z3
            have s23 : Same Hc H3 := s2.trans s3
            have s24 : Same Hc H4 := s23.trans py.same
            have h13 : Same H1 H3 := sc.trans s23
            have hD4 : H4 Dd = some (.lst vs) := s24 _ _ hD
            have M1of : ∀ a, Nod S' (names e) a → M1 a := fun a hn => by
              rcases pu.nod hn with z | z
              · exact .inl (Nod.r (Nod.r z.wipe))
              · exact .inr (hZx a z)
            have M1th : ∀ a, M1 a → H1 a ≠ none := fun a z => z.elim (fun z => sNod z) (hN0 a)
            have pvl : vs.length = done.length := pv.length.symm
            refine ⟨vs, hD4, ?_, ?_⟩
            · rw [SZ_eq, pvl]
              have := congrArg List.length hps
              simp at this
              omega
            · have py1 : PVal X.K CA M1 H1 H4 y.1 y.2 yv Oy Zy := (py.mono M1of).ahead h13
              have hDy : Dd ∉ Oy ++ Zy := fun z => by
                rcases List.mem_append.mp z with z | z
                · have := py.fresh Dd z; rw [s23 _ _ hD] at this; cases this
                · rcases py.zin Dd z with z | z
                  · rw [s23 _ _ hD] at z; cases z
                  · exact M1th Dd (M1of _ z) hDn
              refine ⟨done ++ [y], ys, vs ++ [yv], O ++ Oy, Z ++ Zy, by rw [hps]; simp, z2, upd_same, ?_, ?_, ?_, (keepP s24).1⟩
              · refine PVs.snoc ((pv.later s24).updD hD4 hDn hDO) (py1.updD hD4 hDn hDy) (fun a ha z => ?_) (fun a ha z => ?_)
                · exact same_there s23 (pv.there a z) (py.fresh a ha)
                · have h1 := pv.fresh a ha
                  have h3 : H3 a ≠ none := same_there s23 (pv.there a (by simp [ha]))
                  rcases py.zin a z with q | q
                  · exact h3 q
                  · exact M1th a (M1of _ q) h1
              · intro z
                simp only [List.mem_append] at z hDO hDy
                rcases z with (z | z) | z | z
                · exact hDO (.inl z)
                · exact hDy (.inl z)
                · exact hDO (.inr z)
                · exact hDy (.inr z)
              · intro c u hc
                have : c ≠ Dd := fun q => by rw [q, hDn] at hc; cases hc
                rw [upd_ne this]
                exact (sc.trans s24) c u hc
      have key : ∃ ρ', tg.put (envOf S) xs[i] = .ok ρ' ∧ (evt G cf ρ' t).bind (fun b => if b = true then (ev G cf ρ' e).bind fun y => .ok (some y) else .ok none) = f xs[i] := by
        have hfx : f xs[i] = (tg.put (envOf S) xs[i]).bind fun ρ' => (evt G cf ρ' t).bind fun b => if b = true then (ev G cf ρ' e).bind fun y => .ok (some y) else .ok none := by rw [← hf]
        cases e3 : tg.put (envOf S) xs[i] with
        | ok ρ' => rw [e3] at hfx; exact ⟨ρ', rfl, hfx.symm⟩
        | exc y => rw [e3] at hfx; unfold compL at hr; rw [hfx] at hr; cases hr
        | bad => rw [e3] at hfx; unfold compL at hr; rw [hfx] at hr; cases hr
      obtain ⟨ρ', k1, k2⟩ := key
      exact hput ρ' k1 k2
    · left
      have hie : i = xs.length := by omega
      subst hie
      refine ⟨w.stop Hc hPc, ?_⟩
      rw [List.drop_length] at hr
      cases hr
      rw [List.append_nil] at hps
      subst hps
      obtain ⟨O', Z', r, l⟩ := pv.reps (lvL ps) (Nat.le_refl _)
      have sH : Same H Hc := s1.trans sc
      have zc : ∀ a ∈ Z', H a = none ∨ Nod S (names it ++ (namesO t ++ names e)) a := fun a ha => by
        rcases l.all a ha with z | z
        · exact .inl (same_none s1 (pv.fresh a z))
        · rcases pv.zin a z with z | z | z
          · exact .inl (same_none s1 z)
          · exact .inr z
          · rcases hNs a z with z | z
            · exact .inl z
            · exact .inr (Nod.l z.2)
      refine hd (.ref Dd) Hc (Dd :: O') Z' ⟨sH, .lstO hD r, ?_, ?_, zc, ?_⟩
      · intro a ha
        rcases List.mem_cons.mp ha with rfl | ha
        · exact same_none s1 hDn
        · exact same_none s1 (pv.fresh a (l.own a ha))
      · refine List.nodup_cons.mpr ⟨fun z => hDO (by simp [l.own _ z]), l.nd pv.nd⟩
      · intro a ha z
        rcases List.mem_cons.mp z with rfl | z
        · rcases l.all a ha with z | z <;> exact hDO (by simp [z])
        · exact l.zo pv.nd pv.zo a ha z
end
end Vy

namespace Vy
open PySem PySem.Spec
open PyProof.Rows hiding St
open L2
section
variable {X : Cx} {nm : Nm} {G : Glo} {CA : Nat → Addr} {cf : Nat → List D → Out (D × Nat)} {W : WX}
/-- no set on display -/
def noSet : Expr → Bool
  | .Set _ _ _ => false
  | _ => true
theorem fold_no {e : Expr} {env : PySem.Env} (h : noSet e = true) : ∀ x, foldedSetIterable e env x = pure x := fun x => by
  cases e <;> first | rfl | cases h
/-- a comprehension's block -/
abbrev Cx.inn (X : Cx) (scope : Scope) (s : Shared) (H : Hp) (C : Addr) (cl : List (Str × Addr)) (fp : List Addr) : Cx := X.blk s H scope (compEnvC scope cl C X.env) fp
theorem CtxOk.inn {np : Nat → Option Nat} {bl : List Str} (C : CtxOk X nm G CA cf np bl) {scope : Scope} {s : Shared} {H : Hp} {c : Addr} {cl : List (Str × Addr)} {fp : List Addr} : CtxOk (Cx.inn X scope s H c cl fp) nm G CA cf np bl where
  N := C.N
  nd := C.nd
  calm := C.calm
  lev := let ⟨k, r, h⟩ := C.lev; ⟨k, r, fun f n e => let ⟨a, fd, ps, h1, h2, h3, h4, h5⟩ := (h f n e).ex; ⟨a, fd, ps, h1, h2, h3, h4, h5⟩⟩
  blt := C.blt
  glb := C.glb
theorem relS_free {sc : Scope} : ∀ {names : List (Str × NameKind)} {x : Str}, names.lookup x = some .free →
    (names.map fun (n, k) => if (k == NameKind.free && sc.kind == .function && sc.names.lookup n == some .cell) then (n, NameKind.cell) else (n, k)).lookup x = some .free ∨
    (names.map fun (n, k) => if (k == NameKind.free && sc.kind == .function && sc.names.lookup n == some .cell) then (n, NameKind.cell) else (n, k)).lookup x = some .cell
  | [], _, h => by simp at h
  | (n, k) :: r, x, h => by
    have ih := @relS_free sc r x
    rw [List.map_cons]
    cases hx : x == n with
    | true =>
      rw [List.lookup_cons, hx] at h
      cases h
      cases hc : (NameKind.free == NameKind.free && sc.kind == .function && sc.names.lookup n == some .cell) with
      | true => right; simp only [hc, if_true]; rw [List.lookup_cons, hx]
      | false => left; simp only [hc, Bool.false_eq_true, if_false]; rw [List.lookup_cons, hx]
    | false =>
      rw [List.lookup_cons, hx] at h
      have e : ∀ p : Str × NameKind, p.1 = n → List.lookup x (p :: (r.map fun (n, k) => if (k == NameKind.free && sc.kind == .function && sc.names.lookup n == some .cell) then (n, NameKind.cell) else (n, k))) = List.lookup x (r.map fun (n, k) => if (k == NameKind.free && sc.kind == .function && sc.names.lookup n == some .cell) then (n, NameKind.cell) else (n, k)) := fun ⟨a, b⟩ h => by
        have h : a = n := h
        subst h; rw [List.lookup_cons, hx]
      rw [e (if (k == NameKind.free && sc.kind == .function && sc.names.lookup n == some .cell) = true then (n, NameKind.cell) else (n, k)) (by cases (k == NameKind.free && sc.kind == .function && sc.names.lookup n == some .cell) <;> rfl)]
      exact ih h
theorem ScOk.inn {scope : Scope} {s : Shared} {H : Hp} {c : Addr} {cl : List (Str × Addr)} {fp : List Addr} : ScOk scope (Cx.inn X scope s H c cl fp) where
  loc := fun x h => lookup_relS_keep (sc := X.env.scope) (by decide) h
  cel := fun x h => ⟨lookup_relS_keep (sc := X.env.scope) (by decide) h, by show (scope.names.lookup x == some .cell) = true; rw [h]; rfl⟩
  fre := fun x h => relS_free (sc := X.env.scope) h
  glo := fun x h => lookup_relS_keep (sc := X.env.scope) (by decide) h
theorem ts_nil : PTs X [] (tTo X G CA cf W none) := ⟨fun pins s σ H Q I ⟨S, sr, h⟩ => pts_nil.run pins s σ H Q I (by
  have h : DenB X.K CA W (.ok true) σ H Q := by rw [evt] at h; exact h
  exact h H (Same.refl H))⟩
theorem ts_one {c : C} {e : Expr} (h : PT X e (tT X G CA cf W c)) : PTs X [e] (tTo X G CA cf W (some c)) := pts_one ⟨fun pins s σ H Q I ⟨S, sr, q⟩ => h.run pins s σ H Q I ⟨S, sr, by rw [evt] at q; exact q⟩⟩
/-- [elt for target in iter if ..] -/
theorem e_lc {np : Nat → Option Nat} {bl : List Str} (cx : CtxOk X nm G CA cf np bl) {it : C} {tg : Tg} {t : Option C} {e : C} {g : TG} {elt tge iter : Expr} {ifs : List Expr} {scope : Scope} {own : List (Str × Nat)} {pos : Pos}
    (hi : PI X tge iter (tI X G CA cf W it)) (ok : BlkOk X.N X.env.scope scope own) (hown : own.map (·.2) = tg.is) (nd : ∀ l, tg = .tup l → l.Nodup) (hg : TgOk X.K CA tg g)
    (pg : ∀ s H c cl fp, PG (Cx.inn X scope s H c cl fp) tge g) (ht : ∀ s H c cl fp, PTs (Cx.inn X scope s H c cl fp) ifs (tTo (Cx.inn X scope s H c cl fp) G CA cf W0 t))
    (he : ∀ s H c cl fp, PE (Cx.inn X scope s H c cl fp) elt (tE (Cx.inn X scope s H c cl fp) G CA cf W0 e)) (hs : noSet iter = true) :
    PE X (.ListComp elt [⟨tge, iter, ifs, 0⟩] scope pos) (tE X G CA cf W (.lc it tg t e)) := by
  refine ⟨fun pins s σ H Q I h => (pe_lc (tt := tTo X G CA cf W0 t) (te := tE X G CA cf W0 e) cx.calm cx.nd hi ok pg ht he (fold_no hs)).run pins s σ H Q I ?_⟩
  rw [hown]
  refine lc_sem hg nd (fun i hi => ?_) h
  rw [← hown] at hi
  obtain ⟨p, hp, e⟩ := List.mem_map.mp hi
  have := ok.ix p hp
  rw [I.len, ← e]
  exact (List.getElem?_eq_some_iff.mp this).1
/-- name = [..] on one line -/
theorem s_lc {np : Nat → Option Nat} {bl : List Str} (cx : CtxOk X nm G CA cf np bl) {it : C} {tg : Tg} {t : Option C} {e : C} {g : TG} {elt tge iter : Expr} {ifs : List Expr} {scope : Scope} {own : List (Str × Nat)} {pos spos : Pos} {i : Nat} {y : Str} {py : Pos}
    (hy : X.N[i]? = some y) (hyl : X.env.scope.names.lookup y = some .local) (hsw : swapsWith (.ListComp elt [⟨tge, iter, ifs, 0⟩] scope pos) (some (.Name y py)) spos.line X.env = pure true)
    (hi : PI X tge iter (tI X G CA cf W it)) (ok : BlkOk X.N X.env.scope scope own) (hown : own.map (·.2) = tg.is) (nd : ∀ l, tg = .tup l → l.Nodup) (hg : TgOk X.K CA tg g)
    (pg : ∀ s H c cl fp, PG (Cx.inn X scope s H c cl fp) tge g) (ht : ∀ s H c cl fp, PTs (Cx.inn X scope s H c cl fp) ifs (tTo (Cx.inn X scope s H c cl fp) G CA cf W0 t))
    (he : ∀ s H c cl fp, PE (Cx.inn X scope s H c cl fp) elt (tE (Cx.inn X scope s H c cl fp) G CA cf W0 e)) (hs : noSet iter = true) :
    PS X (.Assign [.Name y py] (.ListComp elt [⟨tge, iter, ifs, 0⟩] scope pos) spos) (tAsg (tE X G CA cf W (.lc it tg t e)) (gName i)) := by
  refine ⟨fun pins s σ H D I h => (ps_setLc (tt := tTo X G CA cf W0 t) (te := tE X G CA cf W0 e) cx.calm cx.nd hy hyl hsw hi ok pg ht he (fold_no hs)).run pins s σ H D I ?_⟩
  rw [hown]
  refine lc_sem hg nd (fun i hi => ?_) h
  rw [← hown] at hi
  obtain ⟨p, hp, e⟩ := List.mem_map.mp hi
  have := ok.ix p hp
  rw [I.len, ← e]
  exact (List.getElem?_eq_some_iff.mp this).1
/-- a name as target -/
theorem g_one {sc : Scope} {i : Nat} {x : Str} {pos : Pos} (S : ScOk sc X) (hN : X.N.Nodup) (hi : X.N[i]? = some x) (h : sc.names.lookup x = some .local ∨ sc.names.lookup x = some .cell) : PG X (.Name x pos) (gName i) := by
  rcases h with h | h
  · exact pg_name hN hi (.inl (S.loc x h)) (.inr (S.loc x h))
  · obtain ⟨h1, h2⟩ := S.cel x h
    exact pg_name hN hi (.inr h1) (.inl h2)
/-- names as targets of a tuple -/
inductive TgNames (sc : Scope) (N : List Str) : List Expr → List Nat → Prop
  | nil : TgNames sc N [] []
  | cons {x : Str} {i : Nat} {es : List Expr} {is : List Nat} {p : Pos} : N[i]? = some x → (sc.names.lookup x = some .local ∨ sc.names.lookup x = some .cell) → TgNames sc N es is → TgNames sc N (.Name x p :: es) (i :: is)
theorem g_names {sc : Scope} (S : ScOk sc X) (hN : X.N.Nodup) : ∀ {es : List Expr} {is : List Nat}, TgNames sc X.N es is → PGs X es (gNames is)
  | _, _, .nil => pgs_nil
  | _, _, .cons h1 h2 h => pgs_cons (g_one S hN h1 h2) (g_names S hN h) rfl
theorem TgNames.len {sc : Scope} {N : List Str} {env : PySem.Env} : ∀ {es : List Expr} {is : List Nat}, TgNames sc N es is → (assignEach es env).length = is.length
  | _, _, .nil => rfl
  | _, _, .cons _ _ h => by
    show (assignEach _ env).length + 1 = _ + 1
    rw [h.len]
theorem TgNames.plain {sc : Scope} {N : List Str} {env : PySem.Env} : ∀ {es : List Expr} {is : List Nat}, TgNames sc N es is → (assignEach es env).findIdx? (·.1) = none
  | _, _, .nil => rfl
  | _, _, .cons _ _ h => by
    show List.findIdx? _ ((false, _) :: assignEach _ env) = none
    rw [List.findIdx?_cons, h.plain]
    rfl
theorem g_tup {sc : Scope} (S : ScOk sc X) (hN : X.N.Nodup) (hc : X.calm = true) {es : List Expr} {is : List Nat} {k : Nat} {pos : Pos} (h : TgNames sc X.N es is) : PG X (.Tuple es k pos) (gTup X.K is.length (gNames is)) :=
  pg_tup hc (g_names S hN h) h.len h.plain
theorem enum_mdep {xs : List D} : mdepL xs ≤ mdepL (enumD xs) := mdepL_le fun d hd => by
  obtain ⟨i, hi, e⟩ := List.getElem_of_mem hd
  have : D.tup [.int (i : Nat), d] ∈ enumD xs := by
    unfold enumD
    refine List.mem_map.mpr ⟨(d, i), ?_, rfl⟩
    refine List.mem_iff_getElem?.mpr ⟨i, ?_⟩
    rw [List.getElem?_zipIdx, List.getElem?_eq_getElem hi, e]
    simp
  have h := mdepL_mem this
  simp only [D.mdep, mdepL] at h
  omega
theorem Nod.mono' {S : Slots} {is js : List Nat} {a : Addr} (w : Nod S is a) (h : ∀ i ∈ is, i ∈ js) : Nod S js a := w.mono h
/-- enumerate of a list -/
theorem i_enu {np : Nat → Option Nat} {bl : List Str} {c : C} {e : Expr} {p pos tpos : Pos} {elts : List Expr} {kk : Nat} (C : CtxOk X nm G CA cf np bl) (hr : ("enumerate" : Str) ∈ bl) (hg : Gl X "enumerate") (h : PE X e (tE X G CA cf W c)) (hs : noStar e = true) :
    PI X (.Tuple elts kk tpos) (.Call (.Name "enumerate" p) [e] [] pos) (tI X G CA cf W (.enu c)) := by
  refine ⟨fun pins s σ H R I ⟨S, sr, hd⟩ => (pi_enum (elts := elts) (kk := kk) (tpos := tpos) hg (C.blt _ hr) (a_cons h a_nil (star_cons hs)) (by rw [star_cons hs]; rfl)).run pins s σ H R I ⟨S, sr, ?_⟩⟩
  have hd' : DenI X.K CA W (Mi S (.enu c)) ((ev G cf (envOf S) c).bind fun x => .of ((lsqOf x.1).map fun xs => (.lst (enumD xs), x.2))) σ H R := by rw [ev] at hd; exact hd
  simp only [evs]
  cases e1 : ev G cf (envOf S) c with
  | exc x => rw [e1] at hd'; exact hd'
  | bad => rw [e1] at hd'; exact hd'
  | ok q =>
    rw [e1] at hd'
    obtain ⟨d, n⟩ := q
    intro vs H1 O Z s1 pv
    obtain ⟨v, rfl, p1⟩ := pv.one_inv
    simp only [Out.bind_ok] at hd'
    cases d <;> first | exact hd'.elim | skip
    · rename_i xs
      obtain ⟨ys, hy, q⟩ := hd'
      cases hy
      obtain ⟨a, ws, O', Z', m, rfl, h1, r, hO, hZ⟩ := p1.rep.lst_inv
      obtain ⟨Z0, r0, h0⟩ := r.zeroed
      have ha : a ∈ O ++ Z := by
        have := p1.rep
        cases this with
        | lstO _ _ => simp
        | lstZ _ _ => simp
      have hz0 : ∀ b ∈ Z0, b ∈ O ++ Z := fun b hb => by
        rcases h0 b hb with z | z
        · simp [hO b z]
        · simp [hZ b z]
      have hns : ∀ b ∈ O ++ Z, H b = none ∨ Mi S (.enu c) (.lst (enumD xs), n) b := fun b hb => by
        by_cases hf : (D.lst xs).mdep ≤ n
        · have := p1.rep.full hf
          subst this
          exact .inl (p1.fresh b (by simpa using hb))
        · rcases List.mem_append.mp hb with z | z
          · exact .inl (p1.fresh b z)
          · exact (p1.zin b z).imp id fun w => ⟨fun z => hf (Nat.le_trans (by rw [D.mdep]; exact Nat.succ_le_succ enum_mdep) z), w.mono' (by simp [namesL, names])⟩
      exact ⟨a, ws, rfl, .of h1, q _ H1 (O ++ Z) _ s1 ⟨ws, Z0, h1, r0, hz0, fun b hb => p1.rep.there b hb⟩ (walk_enum ha) hns⟩
    · rename_i ns
      obtain ⟨ys, hy, q⟩ := hd'
      cases hy
      obtain ⟨a, rfl, h1, _⟩ := p1.rep.scr_inv
      exact ⟨a, _, rfl, h1.l, q _ H1 [] _ s1 h1 walk_enumS (by simp)⟩
end
end Vy

namespace Vy
open PySem PySem.Spec
open PyProof.Rows hiding St
open L2
/-! ## statements -/
inductive S where
  | pass
  | asg (i : Nat) (e : C)
  | asgT (is : List Nat) (e : C)
  | exp (e : C)
  | ret (e : C)
  | retv (i : Nat)
  | retN
  | ife (t : C) (a b : List S)
  | whl (n : Nat) (t : C) (b : List S)
  | for_ (tg : Tg) (it : C) (b : List S)
  | app (i : Nat) (e : C)
  | par (i j : Nat) (a b : C)
inductive OS | nx (ρ : Env) | rt (p : D × Nat) | exc (e : Exn) (ρ : Env) | bad
def onE {α : Type} (o : Out α) (ρ : Env) (f : α → OS) : OS := match o with
  | .ok a => f a
  | .exc e => .exc e ρ
  | .bad => .bad
@[simp] theorem onE_ok {α : Type} (a : α) (ρ : Env) (f : α → OS) : onE (.ok a) ρ f = f a := id rfl
@[simp] theorem onE_exc {α : Type} (e : Exn) (ρ : Env) (f : α → OS) : onE (.exc e) ρ f = .exc e ρ := id rfl
@[simp] theorem onE_bad {α : Type} (ρ : Env) (f : α → OS) : onE .bad ρ f = .bad := id rfl
/-- what others are told of is changed no more -/
def frz1 (ρ : Env) (i : Nat) : Env := match (ρ[i]?).bind id with
  | some p => setV ρ i (p.1, 0)
  | none => ρ
def frz (ρ : Env) (is : List Nat) : Env := is.foldl frz1 ρ
/-- full: all that may be changed in it is its own -/
def full (p : D × Nat) : Bool := decide (p.1.mdep ≤ p.2)
def bindV (ρ : Env) (i : Nat) (p : D × Nat) (ns : List Nat) : Env := if full p = true then setV ρ i p else setV (frz ρ ns) i p
def forL (f : Env → D → OS) : List D → Env → OS
  | [], ρ => .nx ρ
  | d :: r, ρ => match f ρ d with
    | .nx ρ' => forL f r ρ'
    | o => o
def whileL (c : Env → Out Bool) (f : Env → OS) : Nat → Env → OS
  | 0, _ => .bad
  | n + 1, ρ => match c ρ with
    | .ok true => match f ρ with
      | .nx ρ' => whileL c f n ρ'
      | o => o
    | .ok false => .nx ρ
    | .exc e => .exc e ρ
    | .bad => .bad
def appD (L : List Nat) (ρ : Env) (i : Nat) (p : D × Nat) (ns : List Nat) : OS :=
  if i ∈ L then .bad else match (ρ[i]?).bind id with
    | some (.lst xs, n) =>
      if 1 ≤ n ∧ xs.length + 1 ≤ SZ then
        if p.1.mdep = 0 then .nx (setV ρ i (.lst (xs ++ [p.1]), n))
        else if full p = true then .nx (setV ρ i (.lst (xs ++ [p.1]), min n (p.2 + 1)))
        else if i ∈ ns then .bad else .nx (setV (frz ρ ns) i (.lst (xs ++ [p.1]), min n (p.2 + 1)))
      else .bad
    | _ => .bad
def parD (ρ : Env) (i j : Nat) (ps : List (D × Nat)) (ns : List Nat) : OS := match ps with
  | [p, q] => .nx (setV (setV (if full p = true ∧ full q = true then ρ else frz ρ ns) i p) j q)
  | _ => .bad
def putS (ρ : Env) (tg : Tg) (d : D) (f : Env → OS) : OS := match tg.put ρ d with
  | .ok ρ' => f ρ'
  | _ => .bad
section
variable (G : Glo) (cf : Nat → List D → Out (D × Nat))
mutual
def exS (L : List Nat) (ρ : Env) : S → OS
  | .pass => .nx ρ
  | .asg i e => onE (ev G cf ρ e) ρ fun p => .nx (bindV ρ i p (names e))
  | .asgT is e => onE (ev G cf ρ e) ρ fun p => putS (if full p = true then ρ else frz ρ (names e)) (.tup is) p.1 .nx
  | .exp e => onE (ev G cf ρ e) ρ fun _ => .nx ρ
  | .ret e => onE (ev G cf ρ e) ρ fun p => .rt p
  | .retv i => match (ρ[i]?).bind id with
    | some p => .rt p
    | none => .bad
  | .retN => .rt (.non, 9)
  | .ife t a b => onE (evB G cf ρ t) ρ fun c => if c = true then exB L ρ a else exB L ρ b
  | .whl n t b => whileL (fun ρ => evB G cf ρ t) (fun ρ => exB L ρ b) n ρ
  | .for_ tg it b => onE (ev G cf ρ it) ρ fun p => match itemsOf p.1 with
    | none => .bad
    | some xs => if full p = true then forL (fun ρ d => putS ρ tg d fun ρ => exB L ρ b) xs ρ
      else forL (fun ρ d => putS ρ tg d fun ρ => exB (names it ++ L) ρ b) xs (if mdepL xs = 0 then ρ else frz ρ (names it))
  | .app i e => match (ρ[i]?).bind id with
    | some (.lst _, _) => onE (ev G cf ρ e) ρ fun p => appD L ρ i p (names e)
    | _ => .bad
  | .par i j a b => onE (evs G cf ρ [a, b]) ρ fun ps => parD ρ i j ps (namesL [a, b])
def exB (L : List Nat) (ρ : Env) : List S → OS
  | [] => .nx ρ
  | s :: r => match exS L ρ s with
    | .nx ρ' => exB L ρ' r
    | o => o
end
end

/-! ### frames -/
def OwnAt (S : Slots) (i : Nat) (a : Addr) : Prop := ∃ r : Root, S[i]? = some (some r) ∧ a ∈ r.O
def Own (S : Slots) (a : Addr) : Prop := ∃ i, OwnAt S i a
def Ou (S : Slots) (L : List Nat) (a : Addr) : Prop := ∃ i, i ∉ L ∧ OwnAt S i a
def Any (S : Slots) (a : Addr) : Prop := ∃ (i : Nat) (r : Root), S[i]? = some (some r) ∧ a ∈ r.O ++ r.Z
structure Fr (S : Slots) : Prop where
  nd : ∀ (i : Nat) (r : Root), S[i]? = some (some r) → r.O.Nodup
  sep : ∀ i j a, OwnAt S i a → OwnAt S j a → i = j
  zo : ∀ i a, OwnAt S i a → ∀ (j : Nat) (r : Root), S[j]? = some (some r) → a ∉ r.Z
structure Step (L : List Nat) (S : Slots) (H : Hp) (S' : Slots) (H' : Hp) : Prop where
  keep : ∀ a o, H a = some o → ¬ Ou S L a → H' a = some o
  there : ∀ a, H a ≠ none → H' a ≠ none
  own : ∀ i a, OwnAt S' i a → OwnAt S i a ∨ Ou S L a ∨ H a = none
  any : ∀ a, Any S' a → Any S a ∨ H a = none
section
variable {S0 S1 S2 S3 : Slots} {H H0 H1 H2 H3 : Hp} {L L' : List Nat}
theorem OwnAt.own {i : Nat} {a : Addr} (h : OwnAt S0 i a) : Own S0 a := ⟨i, h⟩
theorem OwnAt.any {i : Nat} {a : Addr} (h : OwnAt S0 i a) : Any S0 a := let ⟨r, e, q⟩ := h; ⟨i, r, e, by simp [q]⟩
theorem Ou.own {a : Addr} (h : Ou S0 L a) : Own S0 a := let ⟨i, _, q⟩ := h; ⟨i, q⟩
theorem Nod.any {is : List Nat} {a : Addr} (h : Nod S0 is a) : Any S0 a := let ⟨i, _, r, e, q⟩ := h; ⟨i, r, e, q⟩
theorem Ou.mono (h : ∀ i ∈ L, i ∈ L') {a : Addr} (o : Ou S0 L' a) : Ou S0 L a := let ⟨i, q, w⟩ := o; ⟨i, fun z => q (h i z), w⟩
theorem Step.same (s : Same H0 H1) : Step L S0 H0 S0 H1 := ⟨fun a o e _ => s a o e, fun a h => same_there s h, fun i a h => .inl h, fun a h => .inl h⟩
theorem Step.refl : Step L S0 H0 S0 H0 := Step.same (Same.refl _)
theorem Step.none (s : Step L S0 H0 S1 H1) {a : Addr} (h : H1 a = none) : H0 a = none := by
  cases e : H0 a with
  | none => rfl
  | some o => exact absurd h (s.there a (by rw [e]; simp))
theorem Step.ou (s : Step L S0 H0 S1 H1) {a : Addr} (h : Ou S1 L a) : Ou S0 L a ∨ H0 a = Option.none := by
  obtain ⟨i, hi, h⟩ := h
  rcases s.own i a h with z | z | z
  · exact .inl ⟨i, hi, z⟩
  · exact .inl z
  · exact .inr z
theorem Step.ownA (s : Step L S0 H0 S1 H1) {a : Addr} (h : Own S1 a) : Own S0 a ∨ H0 a = Option.none := by
  obtain ⟨i, h⟩ := h
  rcases s.own i a h with z | z | z
  · exact .inl ⟨i, z⟩
  · exact .inl z.own
  · exact .inr z
theorem Step.trans (s : Step L S0 H0 S1 H1) (t : Step L S1 H1 S2 H2) : Step L S0 H0 S2 H2 where
  keep := fun a o e n => t.keep a o (s.keep a o e n) fun z => (s.ou z).elim n fun z => by rw [e] at z; cases z
  there := fun a h => t.there a (s.there a h)
  own := fun i a h => by
    rcases t.own i a h with z | z | z
    · exact s.own i a z
    · exact .inr (s.ou z)
    · exact .inr (.inr (s.none z))
  any := fun a h => (t.any a h).elim (s.any a) fun z => .inr (s.none z)
theorem Step.mono (h : ∀ i ∈ L, i ∈ L') (s : Step L' S0 H0 S1 H1) : Step L S0 H0 S1 H1 where
  keep := fun a o e n => s.keep a o e fun z => n (z.mono h)
  there := s.there
  own := fun i a q => (s.own i a q).imp id (Or.imp (Ou.mono h) id)
  any := s.any
def ownL (S : Slots) (L : List Nat) : List Addr := (List.range S.length).flatMap fun i => if i ∈ L then [] else match S[i]? with
  | some (some r) => r.O
  | _ => []
theorem ownL_mem {a : Addr} : a ∈ ownL S0 L ↔ Ou S0 L a := by
  unfold ownL
  rw [List.mem_flatMap]
  constructor
  · rintro ⟨i, hi, h⟩
    split at h
    · simp at h
    · rename_i hL
      split at h
      · rename_i r e; exact ⟨i, hL, r, e, h⟩
      · simp at h
  · rintro ⟨i, hi, r, e, h⟩
    refine ⟨i, by simp; exact (List.getElem?_eq_some_iff.mp e).1, ?_⟩
    rw [if_neg hi, e]
    exact h
variable {K : PySem.W.Frag} {CA : Nat → Addr} {σ σ' : St} {W : WX}
theorem Step.keepF (s : Step L S0 H0 S1 H1) : Keep (ownL S0 L) H0 H1 := fun a o e n => s.keep a o e fun z => n (ownL_mem.mpr z)
theorem SRep.fix (r : SRep K CA S0 σ H0) : Fix (ownL S0 L) H0 := fun a h => by
  obtain ⟨i, _, q, e, h⟩ := ownL_mem.mp h
  exact (r.rep i q e).2.own_mut a h
theorem SRep.any (r : SRep K CA S0 σ H0) {a : Addr} (h : Any S0 a) : H0 a ≠ none := by
  obtain ⟨i, q, e, h⟩ := h
  exact (r.rep i q e).2.there a h
theorem SRep.own (r : SRep K CA S0 σ H0) {a : Addr} (h : Own S0 a) : H0 a ≠ none := let ⟨i, q⟩ := h; r.any q.any
/-- what comes of a statement -/
def DenS (K : PySem.W.Frag) (CA : Nat → Addr) (W : WX) (L : List Nat) (S0 : Slots) (H0 : Hp) (o : OS) (D : Ends) : Prop :=
  match o with
  | .nx ρ => ∀ S σ H, SRep K CA S σ H → Fr S → Step L S0 H0 S H → envOf S = ρ → D.nx σ H
  | .rt p => ∀ v H O Z, (∀ a o, H0 a = some o → ¬ Ou S0 L a → H a = some o) → (∀ a, H0 a ≠ none → H a ≠ none) → Rep K CA H p.2 p.1 v O Z → (∀ a ∈ O, Own S0 a ∨ H0 a = none) → O.Nodup → (∀ a ∈ Z, Any S0 a ∨ H0 a = none) → (∀ a ∈ Z, a ∉ O) → D.rt v H
  | .exc e ρ => ∀ S σ H cls dd, SRep K CA S σ H → Fr S → Step L S0 H0 S H → envOf S = ρ → ExRep K CA e cls dd H → W cls dd σ H
  | .bad => False
theorem DenS.step {o : OS} {D : Ends} (s : Step L S0 H0 S1 H1) (h : DenS K CA W L S0 H0 o D) : DenS K CA W L S1 H1 o D := by
  cases o with
  | nx ρ => exact fun S σ H a b c d => h S σ H a b (s.trans c) d
  | rt p => exact fun v H O Z a b c d e f g => h v H O Z (fun a' o e n => a a' o (s.keep a' o e n) fun z => (s.ou z).elim n fun z => by rw [e] at z; cases z) (fun a' q => b a' (s.there a' q)) c (fun a' q => (d a' q).elim s.ownA fun z => .inr (s.none z)) e (fun a' q => (f a' q).elim (s.any a') fun z => .inr (s.none z)) g
  | exc e ρ => exact fun S σ H cls dd a b c d => h S σ H cls dd a b (s.trans c) d
  | bad => exact h
theorem DenS.lock (h : ∀ i ∈ L, i ∈ L') {o : OS} {D : Ends} (q : DenS K CA W L S0 H0 o D) : DenS K CA W L' S0 H0 o D := by
  cases o with
  | nx ρ => exact fun S σ H a b c d => q S σ H a b (c.mono h) d
  | rt p => exact fun v H O Z a b c d e f g => q v H O Z (fun a' o e n => a a' o e fun z => n (z.mono h)) b c d e f g
  | exc e ρ => exact fun S σ H cls dd a b c d => q S σ H cls dd a b (c.mono h) d
  | bad => exact q
theorem DenS.nx' {o : OS} {D D' : Ends} (hr : D'.rt = D.rt) (hn : ∀ ρ, o ≠ .nx ρ) (h : DenS K CA W L S0 H0 o D) : DenS K CA W L S0 H0 o D' := by
  cases o with
  | nx ρ => exact absurd rfl (hn ρ)
  | rt p => exact fun v H O Z a b c d e f g => by rw [hr]; exact h v H O Z a b c d e f g
  | exc e ρ => exact h
  | bad => exact h
/-- an expression of a statement -/
theorem DenS.onE {o : Out (D × Nat)} {f : D × Nat → OS} {D : Ends} {M : Addr → Prop} (r : SRep K CA S0 σ H0) (fr : Fr S0) (h : DenS K CA W L S0 H0 (onE o (envOf S0) f) D) {Q : VK}
    (q : ∀ p v H1 O Z, o = .ok p → PVal K CA M H0 H1 p.1 p.2 v O Z → DenS K CA W L S0 H0 (f p) D → Q v H1) : Den K CA W M o σ H0 Q := by
  cases o with
  | ok p => exact fun v H1 O Z pv => q p v H1 O Z rfl pv h
  | exc e => exact fun cls dd H' s x => h S0 σ H' cls dd (r.same s) fr (Step.same s) rfl x
  | bad => exact h
theorem DenS.onB {o : Out Bool} {f : Bool → OS} {D : Ends} (r : SRep K CA S0 σ H0) (fr : Fr S0) (h : DenS K CA W L S0 H0 (Vy.onE o (envOf S0) f) D) {Q : Bool → Hp → Prop}
    (q : ∀ b H1, o = .ok b → Same H0 H1 → DenS K CA W L S0 H0 (f b) D → Q b H1) : DenB K CA W o σ H0 Q := by
  cases o with
  | ok b => exact fun H1 s => q b H1 rfl s h
  | exc e => exact fun cls dd H' s x => h S0 σ H' cls dd (r.same s) fr (Step.same s) rfl x
  | bad => exact h
/-! ### slots newly set -/
theorem norm_rep {d : D} {n : Nat} {v : V} {O Z : List Addr} (r : Rep K CA H n d v O Z) : Rep K CA H (norm (d, n)).2 d v O Z := by
  unfold norm
  by_cases h : d.mdep = 0
  · simp only [h, if_true]
    obtain ⟨e1, e2, r'⟩ := r.imm (m := 9) h
    subst e1; subst e2; exact r'
  · simp only [h, if_false]; exact r
def setR (S : Slots) (i : Nat) (d : D) (n : Nat) (v : V) (O Z : List Addr) : Slots := S.set i (some ⟨d, (norm (d, n)).2, v, O, Z⟩)
theorem envOf_setR {i : Nat} {d : D} {n : Nat} {v : V} {O Z : List Addr} : envOf (setR S0 i d n v O Z) = setV (envOf S0) i (d, n) := by
  unfold setR setV envOf
  rw [List.map_set]
  congr 2
  show some (d, (norm (d, n)).2) = _
  rw [show norm (d, n) = ((norm (d, n)).1, (norm (d, n)).2) from rfl, norm_fst]
theorem SRep.setR {i : Nat} {d : D} {n : Nat} {v : V} {O Z : List Addr} (sr : SRep K CA S0 σ H) (r : Rep K CA H n d v O Z) (hi : i < S0.length) : SRep K CA (setR S0 i d n v O Z) (σ.set i (some v)) H where
  len := by unfold Vy.setR; rw [List.length_set, List.length_set, sr.len]
  rep := fun j x hx => by
    unfold Vy.setR at hx
    by_cases hj : i = j
    · subst hj
      rw [List.getElem?_set_self hi] at hx
      cases hx
      exact ⟨by rw [List.getElem?_set_self (by rw [← sr.len]; exact hi)], norm_rep r⟩
    · rw [List.getElem?_set_ne hj] at hx
      obtain ⟨a, b⟩ := sr.rep j x hx
      exact ⟨by rw [List.getElem?_set_ne hj]; exact a, b⟩
theorem setR_some {i j : Nat} {d : D} {n : Nat} {v : V} {O Z : List Addr} {r : Root} (h : (setR S0 i d n v O Z)[j]? = some (some r)) : (j = i ∧ r.O = O ∧ r.Z = Z) ∨ (j ≠ i ∧ S0[j]? = some (some r)) := by
  unfold setR at h
  by_cases hj : i = j
  · subst hj
    by_cases hi : i < S0.length
    · rw [List.getElem?_set_self hi] at h; cases h; exact .inl ⟨rfl, rfl, rfl⟩
    · rw [List.getElem?_eq_none (by simpa using hi)] at h; cases h
  · rw [List.getElem?_set_ne hj] at h
    exact .inr ⟨Ne.symm hj, h⟩
theorem setR_own {i j : Nat} {d : D} {n : Nat} {v : V} {O Z : List Addr} {a : Addr} (h : OwnAt (setR S0 i d n v O Z) j a) : (j = i ∧ a ∈ O) ∨ (j ≠ i ∧ OwnAt S0 j a) := by
  obtain ⟨r, e, q⟩ := h
  rcases setR_some e with ⟨h1, h2, _⟩ | ⟨h1, h2⟩
  · exact .inl ⟨h1, h2 ▸ q⟩
  · exact .inr ⟨h1, r, h2, q⟩
theorem setR_any {i : Nat} {d : D} {n : Nat} {v : V} {O Z : List Addr} {a : Addr} (h : Any (setR S0 i d n v O Z) a) : a ∈ O ++ Z ∨ Any S0 a := by
  obtain ⟨j, r, e, q⟩ := h
  rcases setR_some e with ⟨h1, h2, h3⟩ | ⟨h1, h2⟩
  · exact .inl (by rw [← h2, ← h3]; exact q)
  · exact .inr ⟨j, r, h2, q⟩
theorem Fr.setR {i : Nat} {d : D} {n : Nat} {v : V} {O Z : List Addr} (f : Fr S0) (nd : O.Nodup) (zo : ∀ a ∈ Z, a ∉ O) (h1 : ∀ a ∈ O, ∀ (j : Nat) (r : Root), j ≠ i → S0[j]? = some (some r) → a ∉ r.O ++ r.Z) (h2 : ∀ a ∈ Z, ∀ j, j ≠ i → ¬ OwnAt S0 j a) : Fr (setR S0 i d n v O Z) where
  nd := fun j r h => by
    rcases setR_some h with ⟨_, e, _⟩ | ⟨_, e⟩
    · rw [e]; exact nd
    · exact f.nd j r e
  sep := fun j k a h h' => by
    rcases setR_own h with ⟨e, p⟩ | ⟨e, p⟩ <;> rcases setR_own h' with ⟨e', p'⟩ | ⟨e', p'⟩
    · rw [e, e']
    · obtain ⟨r, q1, q2⟩ := p'
      exact absurd (by simp [q2]) (h1 a p k r e' q1)
    · obtain ⟨r, q1, q2⟩ := p
      exact absurd (by simp [q2]) (h1 a p' j r e q1)
    · exact f.sep j k a p p'
  zo := fun j a h k r hk => by
    rcases setR_some hk with ⟨e, _, ez⟩ | ⟨e, q⟩ <;> rcases setR_own h with ⟨e', p'⟩ | ⟨e', p'⟩
    · rw [ez]; exact fun z => zo a z p'
    · rw [ez]; exact fun z => h2 a z j e' p'
    · exact fun z => h1 a p' k r e q (by simp [z])
    · exact f.zo j a p' k r q
/-- what is not its own is frozen -/
structure Frz (S : Slots) (S' : Slots) (is : List Nat) : Prop where
  len : S'.length = S.length
  env : envOf S' = frz (envOf S) is
  own : ∀ j a, OwnAt S' j a → OwnAt S j a
  any : ∀ (j : Nat) (r' : Root), S'[j]? = some (some r') → ∃ r : Root, S[j]? = some (some r) ∧ ∀ a ∈ r'.O ++ r'.Z, a ∈ r.O ++ r.Z
  nod : ∀ j ∈ is, ∀ a, ¬ OwnAt S' j a
  oth : ∀ j, j ∉ is → S'[j]? = S[j]?
theorem frz1_ok {i : Nat} (sr : SRep K CA S0 σ H) (f : Fr S0) : ∃ S', SRep K CA S' σ H ∧ Fr S' ∧ S'.length = S0.length ∧ envOf S' = frz1 (envOf S0) i ∧ (∀ j a, OwnAt S' j a → OwnAt S0 j a) ∧
    (∀ (j : Nat) (r' : Root), S'[j]? = some (some r') → ∃ r : Root, S0[j]? = some (some r) ∧ ∀ a ∈ r'.O ++ r'.Z, a ∈ r.O ++ r.Z) ∧ (∀ a, ¬ OwnAt S' i a) ∧ ∀ j, j ≠ i → S'[j]? = S0[j]? := by
  cases h : (S0[i]?).bind id with
  | none =>
    refine ⟨S0, sr, f, rfl, ?_, fun j a h => h, fun j r h => ⟨r, h, fun a q => q⟩, fun a ⟨r, e, _⟩ => ?_, fun _ _ => rfl⟩
    · unfold frz1; rw [envOf_get, h]; rfl
    · rw [e] at h; cases h
  | some r =>
    have hr : S0[i]? = some (some r) := by
      cases e : S0[i]? with
      | none => rw [e] at h; cases h
      | some o => rw [e] at h; cases o with
        | none => cases h
        | some q => cases h; rfl
    obtain ⟨q1, q2⟩ := sr.rep i r hr
    obtain ⟨O', Z', r', l⟩ := q2.low (Nat.zero_le _)
    have := r'.zero
    subst this
    have hi : i < S0.length := (List.getElem?_eq_some_iff.mp hr).1
    refine ⟨setR S0 i r.d 0 r.v [] Z', ?_, ?_, by unfold setR; simp, ?_, ?_, ?_, ?_, ?_⟩
    · have := sr.setR r' hi
      have hs : σ.set i (some r.v) = σ := List.ext_getElem? fun j => by
        by_cases e : i = j
        · subst e; rw [List.getElem?_set_self (List.getElem?_eq_some_iff.mp q1).1, q1]
        · rw [List.getElem?_set_ne e]
      rwa [hs] at this
    · refine f.setR (by simp) (by simp) (by simp) fun a ha j hj w => ?_
      rcases l.all a ha with z | z
      · exact hj (f.sep j i a w ⟨r, hr, z⟩)
      · exact f.zo j a w i r hr z
    · rw [envOf_setR]; unfold frz1; rw [envOf_get, h]; rfl
    · intro j a h
      rcases setR_own h with ⟨_, z⟩ | ⟨_, z⟩
      · simp at z
      · exact z
    · intro j r2 h
      rcases setR_some h with ⟨e, e1, e2⟩ | ⟨e, z⟩
      · subst e
        refine ⟨r, hr, fun a ha => ?_⟩
        rw [e1, e2] at ha
        rcases l.all a (by simpa using ha) with z | z <;> simp [z]
      · exact ⟨r2, z, fun a q => q⟩
    · intro a h
      rcases setR_own h with ⟨_, z⟩ | ⟨z, _⟩
      · simp at z
      · exact z rfl
    · intro j hj
      unfold setR
      rw [List.getElem?_set_ne (Ne.symm hj)]
theorem frz_ok {σ : St} {H : Hp} : ∀ (is : List Nat) {S0 : Slots}, SRep K CA S0 σ H → Fr S0 → ∃ S', SRep K CA S' σ H ∧ Fr S' ∧ Frz S0 S' is
  | [], S0, sr, f => ⟨S0, sr, f, rfl, rfl, fun _ _ h => h, fun j r h => ⟨r, h, fun a q => q⟩, by simp, fun _ _ => rfl⟩
  | i :: is, S0, sr, f => by
    obtain ⟨S1, sr1, f1, l1, e1, o1, a1, n1, t1⟩ := frz1_ok (i := i) sr f
    obtain ⟨S2, sr2, f2, z⟩ := frz_ok is sr1 f1
    refine ⟨S2, sr2, f2, z.len.trans l1, ?_, fun j a h => o1 j a (z.own j a h), fun j r' h => ?_, fun j hj a h => ?_, fun j hj => ?_⟩
    · rw [z.env, e1]; rfl
    · obtain ⟨r, h1, h2⟩ := z.any j r' h
      obtain ⟨r0, h3, h4⟩ := a1 j r h1
      exact ⟨r0, h3, fun a q => h4 a (h2 a q)⟩
    · rcases List.mem_cons.mp hj with rfl | hj
      · exact n1 a (z.own j a h)
      · exact z.nod j hj a h
    · simp at hj
      rw [z.oth j hj.2, t1 j hj.1]
theorem Frz.step {S S' : Slots} {is : List Nat} (z : Frz S S' is) : Step L S H0 S' H0 where
  keep := fun a o e _ => e
  there := fun a h => h
  own := fun i a h => .inl (z.own i a h)
  any := fun a ⟨j, r, e, q⟩ => let ⟨r0, h1, h2⟩ := z.any j r e; .inl ⟨j, r0, h1, h2 a q⟩
/-- what is named by the frozen is no one's own -/
theorem Frz.free {S S' : Slots} {is : List Nat} (z : Frz S S' is) (f : Fr S) {a : Addr} (h : Nod S is a) : ¬ Own S' a := by
  rintro ⟨k, w⟩
  obtain ⟨j, hj, r, e, q⟩ := h
  have w0 := z.own k a w
  rcases List.mem_append.mp q with q | q
  · have := f.sep k j a w0 ⟨r, e, q⟩
    subst this
    exact z.nod k hj a w
  · exact f.zo k a w0 j r e q
/-- a slot takes a value that has come -/
theorem bind_ok {i : Nat} {d : D} {n : Nat} {v : V} {O Z : List Addr} {ns : List Nat} (sr : SRep K CA S0 σ H) (f : Fr S0) (hi : i < S0.length) (pv : PVal K CA (Nod S0 ns) H H1 d n v O Z) :
    ∃ S', SRep K CA S' (σ.set i (some v)) H1 ∧ Fr S' ∧ Step L S0 H S' H1 ∧ envOf S' = bindV (envOf S0) i (d, n) ns := by
  have go : ∀ S1, SRep K CA S1 σ H → Fr S1 → S1.length = S0.length → (∀ j a, OwnAt S1 j a → OwnAt S0 j a) → (∀ a, Any S1 a → Any S0 a) → (∀ a ∈ Z, ¬ Own S1 a) → envOf (setR S1 i d n v O Z) = bindV (envOf S0) i (d, n) ns →
      ∃ S', SRep K CA S' (σ.set i (some v)) H1 ∧ Fr S' ∧ Step L S0 H S' H1 ∧ envOf S' = bindV (envOf S0) i (d, n) ns := fun S1 sr1 f1 l1 ow an hz he => by
    refine ⟨setR S1 i d n v O Z, (sr1.same pv.same).setR pv.rep (by rw [l1]; exact hi), f1.setR pv.nd pv.zo (fun a ha j r _ e q => ?_) (fun a ha j _ w => hz a ha w.own), ⟨fun a o e _ => pv.same a o e, fun a h => same_there pv.same h, fun j a h => ?_, fun a h => ?_⟩, he⟩
    · exact sr1.any ⟨j, r, e, q⟩ (pv.fresh a ha)
    · rcases setR_own h with ⟨_, z⟩ | ⟨_, z⟩
      · exact .inr (.inr (pv.fresh a z))
      · exact .inl (ow j a z)
    · rcases setR_any h with z | z
      · rcases List.mem_append.mp z with z | z
        · exact .inr (pv.fresh a z)
        · exact (pv.zin a z).elim .inr fun w => .inl w.any
      · exact .inl (an a z)
  by_cases hf : full (d, n) = true
  · have hz : Z = [] := pv.rep.full (by simpa [full] using hf)
    refine go S0 sr f rfl (fun _ _ h => h) (fun _ h => h) (by rw [hz]; simp) ?_
    rw [envOf_setR]; unfold bindV; rw [if_pos hf]
  · obtain ⟨S1, sr1, f1, z⟩ := frz_ok ns sr f
    refine go S1 sr1 f1 z.len z.own (fun a ⟨j, r, e, q⟩ => let ⟨r0, h1, h2⟩ := z.any j r e; ⟨j, r0, h1, h2 a q⟩) (fun a ha w => ?_) ?_
    · rcases pv.zin a ha with q | q
      · exact sr1.own w q
      · exact z.free f q w
    · rw [envOf_setR, z.env]; unfold bindV; rw [if_neg hf]
end
end Vy

namespace Vy
open PySem PySem.Spec
open PyProof.Rows hiding St
open L2
section
variable {K : PySem.W.Frag} {CA : Nat → Addr} {S0 S1 : Slots} {σ : St} {H H1 H3 : Hp} {L : List Nat}
/-- a slot's own thing is changed -/
theorem mut_ok {i : Nat} {r0 : Root} {F : List Addr} {d : D} {n : Nat} {O Z : List Addr} (sr : SRep K CA S1 σ H) (f : Fr S1) (st : Step L S0 H S1 H) (hi : S1[i]? = some (some r0)) (hL : i ∉ L) (hF : ∀ x ∈ F, x ∈ r0.O) (k : Keep F H H3) (fx : Fix F H) (th : ∀ x, H x ≠ none → H3 x ≠ none)
    (rep : Rep K CA H3 n d r0.v O Z) (nd : O.Nodup) (zo : ∀ a ∈ Z, a ∉ O) (ho : ∀ x ∈ O, x ∈ r0.O ∨ H x = none) (hz : ∀ x ∈ Z, x ∈ r0.O ∨ x ∈ r0.Z ∨ H x = none ∨ (¬ Own S1 x ∧ Any S0 x)) :
    ∃ S', SRep K CA S' σ H3 ∧ Fr S' ∧ Step L S0 H S' H3 ∧ envOf S' = setV (envOf S1) i (d, n) := by
  have hil : i < S1.length := (List.getElem?_eq_some_iff.mp hi).1
  have hv : σ[i]? = some (some r0.v) := (sr.rep i r0 hi).1
  have own0 : ∀ x ∈ r0.O, OwnAt S1 i x := fun x hx => ⟨r0, hi, hx⟩
  refine ⟨setR S1 i d n r0.v O Z, ⟨by unfold setR; rw [List.length_set, sr.len], fun j x hx => ?_⟩, ?_, ?_, envOf_setR⟩
  · unfold setR at hx
    by_cases hj : i = j
    · subst hj
      rw [List.getElem?_set_self hil] at hx
      cases hx
      exact ⟨hv, norm_rep rep⟩
    · rw [List.getElem?_set_ne hj] at hx
      obtain ⟨a, b⟩ := sr.rep j x hx
      refine ⟨a, b.keep k fx fun y hy z => ?_⟩
      rcases List.mem_append.mp hy with q | q
      · exact hj (f.sep i j y (own0 y (hF y z)) ⟨x, hx, q⟩)
      · exact f.zo i y (own0 y (hF y z)) j x hx q
  · refine f.setR nd zo (fun a ha j r hj e q => ?_) fun a ha j hj w => ?_
    · rcases ho a ha with z | z
      · rcases List.mem_append.mp q with q | q
        · exact hj (f.sep j i a ⟨r, e, q⟩ (own0 a z))
        · exact f.zo i a (own0 a z) j r e q
      · exact sr.any ⟨j, r, e, q⟩ z
    · rcases hz a ha with z | z | z | ⟨z, _⟩
      · exact hj (f.sep j i a w (own0 a z))
      · exact f.zo j a w i r0 hi z
      · exact sr.own w.own z
      · exact z w.own
  · refine ⟨fun a o e hn => k a o e fun z => ?_, th, fun j a h => ?_, fun a h => ?_⟩
    · have := st.ou (L := L) ⟨i, hL, own0 a (hF a z)⟩
      rcases this with q | q
      · exact hn q
      · rw [e] at q; cases q
    · rcases setR_own h with ⟨e, z⟩ | ⟨_, z⟩
      · rcases ho a z with z | z
        · exact (st.own i a (own0 a z)).imp (fun q => e ▸ q) id
        · exact .inr (.inr z)
      · exact st.own j a z
    · rcases setR_any h with z | z
      · have : a ∈ r0.O ∨ a ∈ r0.Z ∨ H a = none ∨ Any S0 a := by
          rcases List.mem_append.mp z with z | z
          · exact (ho a z).elim .inl fun q => .inr (.inr (.inl q))
          · rcases hz a z with q | q | q | ⟨_, q⟩
            · exact .inl q
            · exact .inr (.inl q)
            · exact .inr (.inr (.inl q))
            · exact .inr (.inr (.inr q))
        rcases this with q | q | q | q
        · exact st.any a ⟨i, r0, hi, by simp [q]⟩
        · exact st.any a ⟨i, r0, hi, by simp [q]⟩
        · exact .inr q
        · exact .inl q
      · exact st.any a z
end
section
variable {X : Cx} {nm : Nm} {G : Glo} {CA : Nat → Addr} {cf : Nat → List D → Out (D × Nat)} {W : WX} {L : List Nat}
def tS (X : Cx) (G : Glo) (CA : Nat → Addr) (cf : Nat → List D → Out (D × Nat)) (W : WX) (L : List Nat) (s : S) : TS := fun D σ H => ∃ S, SRep X.K CA S σ H ∧ Fr S ∧ DenS X.K CA W L S H (exS G cf L (envOf S) s) D
def tB (X : Cx) (G : Glo) (CA : Nat → Addr) (cf : Nat → List D → Out (D × Nat)) (W : WX) (L : List Nat) (b : List S) : TS := fun D σ H => ∃ S, SRep X.K CA S σ H ∧ Fr S ∧ DenS X.K CA W L S H (exB G cf L (envOf S) b) D
theorem b_nil : PSs X [] (tB X G CA cf W L []) := PSs.weak pss_nil fun D σ H ⟨S, sr, fr, h⟩ => by
  rw [exB] at h
  exact h S σ H sr fr Step.refl rfl
theorem b_cons {st : Stmt} {rest : List Stmt} {s : S} {b : List S} (h1 : PS X st (tS X G CA cf W L s)) (h2 : PSs X rest (tB X G CA cf W L b)) : PSs X (st :: rest) (tB X G CA cf W L (s :: b)) := PSs.weak (pss_cons h1 h2) fun D σ H ⟨S, sr, fr, h⟩ => by
  rw [exB] at h
  refine ⟨S, sr, fr, ?_⟩
  cases e : exS G cf L (envOf S) s with
  | nx ρ =>
    rw [e] at h
    intro S' σ' H' sr' fr' st he
    exact ⟨S', sr', fr', by rw [he]; exact h.step st⟩
  | rt p => rw [e] at h; exact h
  | exc x ρ => rw [e] at h; exact h
  | bad => rw [e] at h; exact h
theorem s_pass {pos : Pos} : PS X (.Pass pos) (tS X G CA cf W L .pass) := PS.weak ps_pass fun D σ H ⟨S, sr, fr, h⟩ => by
  rw [exS] at h
  exact h S σ H sr fr Step.refl rfl
/-- no comprehension by itself -/
def noLc : Expr → Bool
  | .ListComp .. => false
  | .SetComp .. => false
  | .DictComp .. => false
  | _ => true
theorem no_swap {e : Expr} {t : Option Expr} {l : Nat} {env : PySem.Env} (h : noLc e = true) : swapsWith e t l env = pure false := by
  cases e <;> first | rfl | cases h
theorem asg_of {st : Stmt} {i : Nat} {x : Str} {c : C} (hi : X.N[i]? = some x) (h : PS X st (tAsg (tE X G CA cf W c) (gName i))) : PS X st (tS X G CA cf W L (.asg i c)) := ⟨fun pins s σ H D I ⟨S, sr, fr, hd⟩ => h.run pins s σ H D I (by
  rw [exS] at hd
  have hil : i < S.length := by rw [sr.len, I.len]; exact (List.getElem?_eq_some_iff.mp hi).1
  refine ⟨S, sr, hd.onE sr fr fun p v H1 O Z e pv hd => ?_⟩
  obtain ⟨S', sr', fr', st, he⟩ := bind_ok (L := L) sr fr hil pv
  exact hd S' _ H1 sr' fr' st he)⟩
theorem s_asg {sc : Scope} {i : Nat} {x : Str} {c : C} {e : Expr} {p pos : Pos} (sco : ScOk sc X) (hN : X.N.Nodup) (hi : X.N[i]? = some x) (h : sc.names.lookup x = some .local ∨ sc.names.lookup x = some .cell) (he : PE X e (tE X G CA cf W c)) (hl : noLc e = true) :
    PS X (.Assign [.Name x p] e pos) (tS X G CA cf W L (.asg i c)) := by
  refine asg_of hi ?_
  rcases h with h | h
  · exact ps_set hN hi (.inl (sco.loc x h)) he (no_swap hl) (.inr (sco.loc x h))
  · obtain ⟨h1, h2⟩ := sco.cel x h
    exact ps_set hN hi (.inr h1) he (no_swap hl) (.inl h2)
theorem s_exp {c : C} {e : Expr} {pos : Pos} (he : PE X e (tE X G CA cf W c)) (hl : noLc e = true) : PS X (.Expr e pos) (tS X G CA cf W L (.exp c)) := PS.weak (ps_expr he (no_swap hl)) fun D σ H ⟨S, sr, fr, h⟩ => by
  rw [exS] at h
  refine ⟨S, sr, h.onE sr fr fun p v H1 O Z e pv hd => ?_⟩
  exact hd S σ H1 (sr.same pv.same) fr (Step.same pv.same) rfl
theorem s_ret {c : C} {e : Expr} {pos : Pos} (he : PE X e (tE X G CA cf W c)) : PS X (.Return (some e) pos) (tS X G CA cf W L (.ret c)) := PS.weak (ps_ret he) fun D σ H ⟨S, sr, fr, h⟩ => by
  rw [exS] at h
  refine ⟨S, sr, h.onE sr fr fun p v H1 O Z e pv hd => ?_⟩
  exact hd v H1 O Z (fun a o e _ => pv.same a o e) (fun a h => same_there pv.same h) pv.rep (fun a h => .inr (pv.fresh a h)) pv.nd (fun a h => (pv.zin a h).elim .inr fun w => .inl w.any) pv.zo
theorem slot_get {S : Slots} {i : Nat} {p : D × Nat} (h : ((envOf S)[i]?).bind id = some p) : ∃ r : Root, S[i]? = some (some r) ∧ (r.d, r.n) = p := by
  rw [envOf_get] at h
  obtain ⟨r, hr, e⟩ := Option.map_eq_some_iff.mp h
  refine ⟨r, ?_, e⟩
  cases q : S[i]? with
  | none => rw [q] at hr; cases hr
  | some o => rw [q] at hr; cases o with
    | none => cases hr
    | some r' => cases hr; rfl
theorem s_retv {i : Nat} {x : Str} {p pos : Pos} (hN : X.N[i]? = some x) (hv : Vis X.env.scope x) (hd : (x == ("__debug__" : Str)) = false) (hcd : (x == ("__classdict__" : Str)) = false) : PS X (.Return (some (.Name x p)) pos) (tS X G CA cf W L (.retv i)) := PS.weak (ps_ret (pe_var hN hv hd hcd)) fun D σ H ⟨S, sr, fr, h⟩ => by
  rw [exS] at h
  cases e : ((envOf S)[i]?).bind id with
  | none => rw [e] at h; exact h.elim
  | some q =>
    rw [e] at h
    obtain ⟨r, hr, rfl⟩ := slot_get e
    obtain ⟨h1, h2⟩ := sr.rep i r hr
    exact ⟨r.v, h1, h r.v H r.O r.Z (fun _ _ e _ => e) (fun _ e => e) h2 (fun a h => .inl ⟨i, r, hr, h⟩) (fr.nd i r hr) (fun a h => .inl ⟨i, r, hr, by simp [h]⟩) fun a h w => fr.zo i a ⟨r, hr, w⟩ i r hr h⟩
theorem s_retN {pos : Pos} : PS X (.Return none pos) (tS X G CA cf W L .retN) := PS.weak ps_retN fun D σ H ⟨S, sr, fr, h⟩ => by
  rw [exS] at h
  exact h .non H [] [] (fun _ _ e _ => e) (fun _ e => e) .non (by simp) (by simp) (by simp) (by simp)
theorem s_if {c : C} {e : Expr} {a b : List Stmt} {sa sb : List S} {pos : Pos} (hc : PT X e (tT X G CA cf W c)) (ha : PSs X a (tB X G CA cf W L sa)) (hb : PSs X b (tB X G CA cf W L sb)) : PS X (.If e a b pos) (tS X G CA cf W L (.ife c sa sb)) := PS.weak (ps_if hc ha hb) fun D σ H ⟨S, sr, fr, h⟩ => by
  rw [exS] at h
  refine ⟨S, sr, h.onB sr fr fun b H1 e s hd => ?_⟩
  cases b with
  | true => exact ⟨S, sr.same s, fr, hd.step (Step.same s)⟩
  | false => exact ⟨S, sr.same s, fr, hd.step (Step.same s)⟩
theorem s_while {n : Nat} {c : C} {e : Expr} {a : List Stmt} {sa : List S} {pos : Pos} (pas : PassesOwn (model X.prog X.w) X.A X.env X.xe) (hc : PT X e (tT X G CA cf W c)) (ha : PSs X a (tB X G CA cf W L sa)) : PS X (.While e a [] pos) (tS X G CA cf W L (.whl n c sa)) := PS.weak (ps_while pas hc ha) fun D σ H ⟨S, sr, fr, h⟩ => by
  rw [exS] at h
  refine ⟨fun m σ' H' => ∃ S', SRep X.K CA S' σ' H' ∧ Fr S' ∧ Step L S H S' H' ∧ DenS X.K CA W L S H (whileL (fun ρ => evB G cf ρ c) (fun ρ => exB G cf L ρ sa) m (envOf S')) D, ⟨n, S, sr, fr, Step.refl, h⟩, ?_⟩
  rintro m σ1 H1 ⟨S1, sr1, fr1, st1, h1⟩
  cases m with
  | zero => exact h1.elim
  | succ m =>
    unfold whileL at h1
    refine ⟨S1, sr1, ?_⟩
    cases e : evB G cf (envOf S1) c with
    | exc x => rw [e] at h1; exact fun cls dd H' s x => h1 S1 σ1 H' cls dd (sr1.same s) fr1 (st1.trans (Step.same s)) rfl x
    | bad => rw [e] at h1; exact h1.elim
    | ok b =>
      rw [e] at h1
      intro H2 s2
      cases b with
      | false => exact h1 S1 σ1 H2 (sr1.same s2) fr1 (st1.trans (Step.same s2)) rfl
      | true =>
        have st2 : Step L S H S1 H2 := st1.trans (Step.same s2)
        refine ⟨fun σ' H' => ∃ S', SRep X.K CA S' σ' H' ∧ Fr S' ∧ Step L S H S' H' ∧ DenS X.K CA W L S H (whileL (fun ρ => evB G cf ρ c) (fun ρ => exB G cf L ρ sa) m (envOf S')) D, fun σ' H' hN => ⟨m, by omega, hN⟩, S1, sr1.same s2, fr1, ?_⟩
        simp only at h1
        cases e2 : exB G cf L (envOf S1) sa with
        | nx ρ =>
          rw [e2] at h1
          intro S' σ' H' sr' fr' st' he
          exact ⟨S', sr', fr', st2.trans st', by rw [he]; exact h1⟩
        | rt p => rw [e2] at h1; exact DenS.nx' (D := D) rfl (fun _ z => by cases z) (DenS.step st2 h1)
        | exc x ρ => rw [e2] at h1; exact DenS.nx' (D := D) rfl (fun _ z => by cases z) (DenS.step st2 h1)
        | bad => rw [e2] at h1; exact h1.elim
end
end Vy

namespace Vy
open PySem PySem.Spec
open PyProof.Rows hiding St
open L2
theorem setV_len {ρ : Env} {i : Nat} {p : D × Nat} : (setV ρ i p).length = ρ.length := by unfold setV; simp
theorem frz_len : ∀ {is : List Nat} {ρ : Env}, (frz ρ is).length = ρ.length
  | [], _ => rfl
  | i :: is, ρ => by
    show (frz (frz1 ρ i) is).length = _
    rw [frz_len]
    unfold frz1
    split
    · exact setV_len
    · rfl
theorem put_len {tg : Tg} {ρ ρ' : Env} {d : D} (h : tg.put ρ d = .ok ρ') : ρ'.length = ρ.length := by
  cases tg with
  | one i => cases h; exact setV_len
  | tup l =>
    cases d <;> first | (cases h; done) | skip
    rename_i ds
    obtain ⟨_, h⟩ := gd_ok (show gd _ _ = .ok ρ' from h)
    cases h
    have : ∀ (ps : List (Nat × D)) (ρ : Env), (ps.foldl (fun r p => setV r p.1 (p.2, 0)) ρ).length = ρ.length := by
      intro ps
      induction ps with
      | nil => intro ρ; rfl
      | cons p ps ih => intro ρ; rw [List.foldl_cons, ih, setV_len]
    exact this _ _
theorem bindV_len {ρ : Env} {i : Nat} {p : D × Nat} {ns : List Nat} : (bindV ρ i p ns).length = ρ.length := by
  unfold bindV; split
  · exact setV_len
  · rw [setV_len, frz_len]
theorem onE_nx {α : Type} {o : Out α} {ρ ρ' : Env} {f : α → OS} (h : onE o ρ f = .nx ρ') : ∃ a, o = .ok a ∧ f a = .nx ρ' := by
  cases o with
  | ok a => exact ⟨a, rfl, h⟩
  | exc e => cases h
  | bad => cases h
theorem putS_nx {ρ ρ' : Env} {tg : Tg} {d : D} {f : Env → OS} (h : putS ρ tg d f = .nx ρ') : ∃ ρ1, tg.put ρ d = .ok ρ1 ∧ f ρ1 = .nx ρ' := by
  unfold putS at h
  split at h
  · exact ⟨_, by assumption, h⟩
  · cases h
theorem forL_len {f : Env → D → OS} (hf : ∀ ρ d ρ', f ρ d = .nx ρ' → ρ'.length = ρ.length) : ∀ {xs : List D} {ρ ρ' : Env}, forL f xs ρ = .nx ρ' → ρ'.length = ρ.length
  | [], ρ, ρ', h => by cases h; rfl
  | x :: xs, ρ, ρ', h => by
    unfold forL at h
    split at h
    · rename_i ρ1 e
      rw [forL_len hf h, hf _ _ _ e]
    · exact hf _ _ _ h
theorem whileL_len {c : Env → Out Bool} {f : Env → OS} (hf : ∀ ρ ρ', f ρ = .nx ρ' → ρ'.length = ρ.length) : ∀ {n : Nat} {ρ ρ' : Env}, whileL c f n ρ = .nx ρ' → ρ'.length = ρ.length
  | 0, ρ, ρ', h => by cases h
  | n + 1, ρ, ρ', h => by
    unfold whileL at h
    split at h
    · split at h
      · rename_i ρ1 e
        rw [whileL_len hf h, hf _ _ e]
      · exact hf _ _ h
    · cases h; rfl
    · cases h
    · cases h
theorem appD_len {L : List Nat} {ρ ρ' : Env} {i : Nat} {p : D × Nat} {ns : List Nat} (h : appD L ρ i p ns = .nx ρ') : ρ'.length = ρ.length := by
  unfold appD at h
  repeat' split at h
  all_goals first
    | (cases h; done)
    | (cases h; exact setV_len)
    | (cases h; rw [setV_len, frz_len])
section
variable {G : Glo} {cf : Nat → List D → Out (D × Nat)}
mutual
theorem exS_len : ∀ (s : S) (L : List Nat) (ρ ρ' : Env), exS G cf L ρ s = .nx ρ' → ρ'.length = ρ.length
  | .pass, L, ρ, ρ', h => by rw [exS] at h; cases h; rfl
  | .asg i e, L, ρ, ρ', h => by rw [exS] at h; obtain ⟨p, _, h⟩ := onE_nx h; cases h; exact bindV_len
  | .asgT is e, L, ρ, ρ', h => by
    rw [exS] at h
    obtain ⟨p, _, h⟩ := onE_nx h
    obtain ⟨ρ1, h1, h⟩ := putS_nx h
    cases h
    rw [put_len h1]
    split
    · rfl
    · exact frz_len
  | .exp e, L, ρ, ρ', h => by rw [exS] at h; obtain ⟨p, _, h⟩ := onE_nx h; cases h; rfl
  | .ret e, L, ρ, ρ', h => by rw [exS] at h; obtain ⟨p, _, h⟩ := onE_nx h; cases h
  | .retv i, L, ρ, ρ', h => by rw [exS] at h; split at h <;> cases h
  | .retN, L, ρ, ρ', h => by rw [exS] at h; cases h
  | .ife t a b, L, ρ, ρ', h => by
    rw [exS] at h
    obtain ⟨c, _, h⟩ := onE_nx h
    cases c with
    | true => exact exB_len a L ρ ρ' h
    | false => exact exB_len b L ρ ρ' h
  | .whl n t b, L, ρ, ρ', h => by rw [exS] at h; exact whileL_len (fun ρ ρ' h => exB_len b L ρ ρ' h) h
  | .for_ tg it b, L, ρ, ρ', h => by
    rw [exS] at h
    obtain ⟨p, _, h⟩ := onE_nx h
    have hb : ∀ L' ρ d ρ', (putS ρ tg d fun ρ => exB G cf L' ρ b) = .nx ρ' → ρ'.length = ρ.length := fun L' ρ d ρ' h => by
      obtain ⟨ρ1, h1, h⟩ := putS_nx h
      rw [exB_len b L' ρ1 ρ' h, put_len h1]
    split at h
    · cases h
    · split at h
      · exact forL_len (hb L) h
      · rw [forL_len (hb _) h]
        split
        · rfl
        · exact frz_len
  | .app i e, L, ρ, ρ', h => by
    rw [exS] at h
    split at h
    · obtain ⟨p, _, h⟩ := onE_nx h
      exact appD_len h
    · cases h
  | .par i j a b, L, ρ, ρ', h => by
    rw [exS] at h
    obtain ⟨ps, _, h⟩ := onE_nx h
    unfold parD at h
    split at h
    · cases h
      rw [setV_len, setV_len]
      split
      · rfl
      · exact frz_len
    · cases h
theorem exB_len : ∀ (b : List S) (L : List Nat) (ρ ρ' : Env), exB G cf L ρ b = .nx ρ' → ρ'.length = ρ.length
  | [], L, ρ, ρ', h => by rw [exB] at h; cases h; rfl
  | s :: r, L, ρ, ρ', h => by
    rw [exB] at h
    split at h
    · rename_i ρ1 e
      rw [exB_len r L ρ1 ρ' h, exS_len s L ρ ρ1 e]
    · exact exS_len s L ρ ρ' h
end
end
section
variable {K : PySem.W.Frag} {CA : Nat → Addr} {S0 S1 S' : Slots} {σ σ' : St} {H H1 H3 : Hp} {L : List Nat}
/-- a target took an item -/
theorem Fr.put {is : List Nat} {Z : List Addr} (f : Fr S1) (p : Put S1 σ S' σ' is Z) (hz : ∀ a ∈ Z, ¬ Own S1 a) : Fr S' ∧ (∀ j a, OwnAt S' j a → OwnAt S1 j a) ∧ ∀ a, Any S' a → Any S1 a ∨ a ∈ Z := by
  have ow : ∀ j a, OwnAt S' j a → OwnAt S1 j a := fun j a ⟨r, e, q⟩ => by
    by_cases h : j ∈ is
    · rw [(p.new j h r e).1] at q; simp at q
    · rw [(p.oth j h).1] at e; exact ⟨r, e, q⟩
  refine ⟨⟨fun j r e => ?_, fun i j a h1 h2 => f.sep i j a (ow i a h1) (ow j a h2), fun i a h j r e => ?_⟩, ow, fun a ⟨j, r, e, q⟩ => ?_⟩
  · by_cases h : j ∈ is
    · rw [(p.new j h r e).1]; simp
    · rw [(p.oth j h).1] at e; exact f.nd j r e
  · by_cases hj : j ∈ is
    · exact fun z => hz a ((p.new j hj r e).2 a z) (ow i a h).own
    · rw [(p.oth j hj).1] at e; exact f.zo i a (ow i a h) j r e
  · by_cases hj : j ∈ is
    · obtain ⟨e1, e2⟩ := p.new j hj r e
      rw [e1] at q
      exact .inr (e2 a (by simpa using q))
    · rw [(p.oth j hj).1] at e; exact .inl ⟨j, r, e, q⟩
end
section
variable {X : Cx} {nm : Nm} {G : Glo} {CA : Nat → Addr} {cf : Nat → List D → Out (D × Nat)} {W : WX} {L : List Nat}
/-- the loop itself -/
theorem for_core {tg : Tg} {g : TG} {S0 S1 : Slots} {σ : St} {H H1 : Hp} {D : Ends} {xs : List Vy.D} {J : It} {Ns : List Addr} {P : Hp → Prop} {L' : List Nat} {sa : List S} (hg : TgOk X.K CA tg g) (hlen : ∀ i ∈ tg.is, i < X.N.length) (hσ : ∀ {S : Slots} {σ' : St} {H' : Hp}, SRep X.K CA S σ' H' → S.length = S0.length → S.length = X.N.length)
    (hL : ∀ i ∈ L, i ∈ L') (sr : SRep X.K CA S1 σ H1) (f1 : Fr S1) (l1 : S1.length = S0.length) (st : Step L' S0 H S1 H1) (hP : P H1) (w : Walk X.K CA J xs Ns P)
    (n1 : ∀ a ∈ Ns, ¬ Ou S1 L' a) (n2 : mdepL xs = 0 ∨ ∀ a ∈ Ns, ¬ Own S1 a) (n3 : ∀ a ∈ Ns, Any S0 a ∨ H a = none)
    (h : DenS X.K CA W L S0 H (forL (fun ρ d => putS ρ tg d fun ρ => exB G cf L' ρ sa) xs (envOf S1)) D) :
    ∃ V : Nat → Nat → St → Hp → Prop, (∃ m, V 0 m σ H1) ∧ ∀ i m σ H, V i m σ H →
      (J.stop i H ∧ D.nx σ H) ∨ (J.go i H ∧ ∃ N : St → Hp → Prop, (∀ σ' H', N σ' H' → ∃ m', m' < m ∧ V (i + 1) m' σ' H') ∧ ∀ x H', J.yld i H x H' → g x σ H' fun σ2 H2 => tB X G CA cf W L' sa { D with nx := N, ct := N, bk := D.nx } σ2 H2) := by
  have hN0 : ∀ a ∈ Ns, H1 a ≠ none := w.there H1 hP
  refine ⟨fun i m σc Hc => m = xs.length - i ∧ i ≤ xs.length ∧ ∃ Sc, SRep X.K CA Sc σc Hc ∧ Fr Sc ∧ Sc.length = S0.length ∧ Step L' S0 H Sc Hc ∧ P Hc ∧ (∀ a ∈ Ns, ¬ Ou Sc L' a) ∧ (mdepL xs = 0 ∨ ∀ a ∈ Ns, ¬ Own Sc a) ∧ DenS X.K CA W L S0 H (forL (fun ρ d => putS ρ tg d fun ρ => exB G cf L' ρ sa) (xs.drop i) (envOf Sc)) D,
    ⟨xs.length, rfl, Nat.zero_le _, S1, sr, f1, l1, st, hP, n1, n2, h⟩, ?_⟩
  rintro i m σc Hc ⟨rfl, hil, Sc, src, fc, lc, stc, hPc, m1, m2, hd⟩
  by_cases hlt : i < xs.length
  · right
    rw [List.drop_eq_getElem_cons hlt] at hd
    have hxi : xs[i]? = some xs[i] := List.getElem?_eq_getElem hlt
    refine ⟨w.go i Hc hlt hPc, fun σ' H' => ∃ S', SRep X.K CA S' σ' H' ∧ Fr S' ∧ S'.length = S0.length ∧ Step L' S0 H S' H' ∧ P H' ∧ (∀ a ∈ Ns, ¬ Ou S' L' a) ∧ (mdepL xs = 0 ∨ ∀ a ∈ Ns, ¬ Own S' a) ∧ DenS X.K CA W L S0 H (forL (fun ρ d => putS ρ tg d fun ρ => exB G cf L' ρ sa) (xs.drop (i + 1)) (envOf S')) D,
      fun σ' H' hN => ⟨xs.length - (i + 1), by omega, rfl, by omega, hN⟩, fun x H2 hy => ?_⟩
    obtain ⟨s2, Z0, r0, hZ0⟩ := w.yld i Hc x H2 xs[i] hPc hxi hy
    obtain ⟨Z, rx, hZ, hZo⟩ : ∃ Z, Rep X.K CA H2 0 xs[i] x [] Z ∧ (∀ a ∈ Z, a ∈ Ns) ∧ ∀ a ∈ Z, ¬ Own Sc a := by
      rcases m2 with z | z
      · have hd0 : (xs[i]).mdep = 0 := Nat.le_zero.mp (z ▸ mdepL_mem (List.getElem_mem hlt))
        obtain ⟨_, e, r⟩ := r0.imm (m := 0) hd0
        exact ⟨[], r, by simp, by simp⟩
      · exact ⟨Z0, r0, hZ0, fun a ha => z a (hZ0 a ha)⟩
    simp only [forL] at hd
    cases hp : tg.put (envOf Sc) xs[i] with
    | exc e => simp only [putS, hp] at hd; exact hd.elim
    | bad => simp only [putS, hp] at hd; exact hd.elim
    | ok ρ' =>
    simp only [putS, hp] at hd
    refine hg Sc σc H2 xs[i] x Z ρ' _ (src.same s2) rx hp (fun j hj => by rw [hσ src lc]; exact hlen j hj) fun S' σ' sr' hρ pu => ?_
    obtain ⟨f', ow, an⟩ := fc.put pu hZo
    have l' : S'.length = S0.length := by rw [sr'.len, pu.len, ← src.len, lc]
    have stp : Step L' S0 H S' H2 := by
      refine ⟨fun a o e n => s2 a o (stc.keep a o e n), fun a h => same_there s2 (stc.there a h), fun j a h => stc.own j a (ow j a h), fun a h => ?_⟩
      rcases an a h with z | z
      · exact stc.any a z
      · exact n3 a (hZ a z)
    refine ⟨S', sr', f', ?_⟩
    rw [hρ]
    -- behind a turn
    have go : ∀ S2 σ2 H4, SRep X.K CA S2 σ2 H4 → Fr S2 → Step L' S' H2 S2 H4 → S2.length = S0.length → P H4 ∧ (∀ a ∈ Ns, ¬ Ou S2 L' a) ∧ (mdepL xs = 0 ∨ ∀ a ∈ Ns, ¬ Own S2 a) := fun S2 σ2 H4 sr2 f2 st2 l2 => by
      have nsu : ∀ a ∈ Ns, ¬ Ou S' L' a := fun a ha ⟨j, hj, q⟩ => m1 a ha ⟨j, hj, ow j a q⟩
      have nth : ∀ a ∈ Ns, H2 a ≠ none := fun a ha => same_there s2 (w.there Hc hPc a ha)
      have p2 : P H2 := w.keep [] Hc H2 hPc (keepS s2) (fun a z => by simp at z) (by simp)
      refine ⟨w.keep (ownL S' L') H2 H4 p2 st2.keepF sr'.fix fun a ha z => nsu a ha (ownL_mem.mp z), fun a ha z => ?_, m2.imp id fun z a ha q => ?_⟩
      · rcases st2.ou z with q | q
        · exact nsu a ha q
        · exact nth a ha q
      · rcases st2.ownA q with ⟨j, q⟩ | q
        · exact z a ha ⟨j, ow j a q⟩
        · exact nth a ha q
    cases e2 : exB G cf L' ρ' sa with
    | nx ρ2 =>
      rw [e2] at hd
      intro S2 σ2 H4 sr2 f2 st2 he
      have l2 : S2.length = S0.length := by
        have : (envOf S2).length = (envOf S').length := by
          rw [he, hρ]
          exact exB_len _ _ _ _ e2
        rw [envOf_len, envOf_len] at this
        rw [this, l']
      obtain ⟨q1, q2, q3⟩ := go S2 σ2 H4 sr2 f2 st2 l2
      exact ⟨S2, sr2, f2, l2, stp.trans st2, q1, q2, q3, by rw [he]; exact hd⟩
    | rt p => rw [e2] at hd; exact DenS.nx' (D := D) rfl (fun _ z => by cases z) (DenS.step stp (hd.lock hL))
    | exc x ρ => rw [e2] at hd; exact DenS.nx' (D := D) rfl (fun _ z => by cases z) (DenS.step stp (hd.lock hL))
    | bad => rw [e2] at hd; exact hd.elim
  · left
    have hie : i = xs.length := by omega
    subst hie
    rw [List.drop_length] at hd
    exact ⟨w.stop Hc hPc, hd Sc σc Hc src fc (stc.mono hL) rfl⟩
theorem s_for {tg : Tg} {g : TG} {it : C} {tge iter : Expr} {b : List Stmt} {sa : List S} {pos : Pos} (pas : PassesOwn (model X.prog X.w) X.A X.env X.xe) (hc : X.calm = true) (hg : TgOk X.K CA tg g) (hlen : ∀ i ∈ tg.is, i < X.N.length) (hi : PI X tge iter (tI X G CA cf W it)) (pg : PG X tge g)
    (ha : ∀ L, PSs X b (tB X G CA cf W L sa)) (hs : noSet iter = true) : PS X (.For tge iter b [] pos) (tS X G CA cf W L (.for_ tg it sa)) := ⟨fun pins s σ H D I ⟨S, sr, fr, h⟩ => by
  have hN : S.length = X.N.length := by rw [sr.len, I.len]
  rw [exS] at h
  cases e : ev G cf (envOf S) it with
  | exc x =>
    rw [e] at h
    refine (ps_for pas hc hi pg (ha L) (fold_no hs)).run pins s σ H D I ⟨S, sr, ?_⟩
    rw [e]
    exact fun cls dd H' s x => h S σ H' cls dd (sr.same s) fr (Step.same s) rfl x
  | bad => rw [e] at h; exact h.elim
  | ok p =>
    rw [e] at h
    simp only [onE_ok] at h
    cases hx : itemsOf p.1 with
    | none => rw [hx] at h; exact h.elim
    | some xs =>
      rw [hx] at h
      simp only at h
      by_cases hf : full p = true
      · rw [if_pos hf] at h
        refine (ps_for pas hc hi pg (ha L) (fold_no hs)).run pins s σ H D I ⟨S, sr, ?_⟩
        rw [e]
        refine ⟨xs, hx, fun J H1 Ns P s1 hP w hNs => ?_⟩
        have nf : ∀ a ∈ Ns, H a = none := fun a ha => (hNs a ha).elim id fun z => absurd (by simpa [full] using hf) z.1
        exact for_core hg hlen (fun _ l => by rw [l, hN]) (fun _ h => h) (sr.same s1) fr rfl (Step.same s1) hP w (fun a ha z => sr.own z.own (nf a ha)) (.inr fun a ha z => sr.own z (nf a ha)) (fun a ha => .inr (nf a ha)) h
      · rw [if_neg hf] at h
        refine (ps_for pas hc hi pg (ha (names it ++ L)) (fold_no hs)).run pins s σ H D I ⟨S, sr, ?_⟩
        rw [e]
        refine ⟨xs, hx, fun J H1 Ns P s1 hP w hNs => ?_⟩
        have n3 : ∀ a ∈ Ns, Any S a ∨ H a = none := fun a ha => (hNs a ha).elim .inr fun z => .inl z.2.any
        by_cases hm : mdepL xs = 0
        · rw [if_pos hm] at h
          refine for_core hg hlen (fun _ l => by rw [l, hN]) (fun j hj => List.mem_append_right _ hj) (sr.same s1) fr rfl (Step.same s1) hP w (fun a ha z => ?_) (.inl hm) n3 h
          obtain ⟨k, hk, q⟩ := z
          rcases hNs a ha with y | ⟨_, j, hj, r, hr, y⟩
          · exact sr.own q.own y
          · rcases List.mem_append.mp y with y | y
            · have := fr.sep k j a q ⟨r, hr, y⟩
              subst this
              exact hk (List.mem_append_left _ hj)
            · exact fr.zo k a q j r hr y
        · rw [if_neg hm] at h
          obtain ⟨S1, sr1, f1, z⟩ := frz_ok (names it) sr fr
          rw [← z.env] at h
          have nn : ∀ a ∈ Ns, ¬ Own S1 a := fun a ha q => by
            rcases hNs a ha with y | y
            · exact sr1.own q y
            · exact z.free fr y.2 q
          exact for_core hg hlen (fun _ l => by rw [l, hN]) (fun j hj => List.mem_append_right _ hj) (sr1.same s1) f1 z.len (z.step.trans (Step.same s1)) hP w (fun a ha q => nn a ha q.own) (.inr nn) n3 h⟩
theorem s_asgT {is : List Nat} {g : TG} {c : C} {tge e : Expr} {pos : Pos} (hg : TgOk X.K CA (.tup is) g) (hlen : ∀ i ∈ is, i < X.N.length) (he : PE X e (tE X G CA cf W c)) (pg : PG X tge g) (hs : swapsWithSole [tge] e pos.line X.env = pure false) (hw : swappedStores [tge] e X.env = pure none)
    (h1 : (assignEach [tge] X.env).map (·.2) = [assign tge X.env]) : PS X (.Assign [tge] e pos) (tS X G CA cf W L (.asgT is c)) := ⟨fun pins s σ H D I ⟨S, sr, fr, h⟩ => (ps_asg he pg hs hw h1).run pins s σ H D I (by
  have hN : S.length = X.N.length := by rw [sr.len, I.len]
  rw [exS] at h
  refine ⟨S, sr, h.onE sr fr fun p v H1 O Z e pv hd => ?_⟩
  obtain ⟨O1, Z1, p0, lw⟩ := pv.low (Nat.zero_le _)
  have hO1 := p0.rep.zero
  subst hO1
  have zz : ∀ a ∈ Z1, H a = none ∨ Nod S (names c) a := p0.zin
  have fin : ∀ S1, SRep X.K CA S1 σ H → Fr S1 → S1.length = S.length → (∀ j a, OwnAt S1 j a → OwnAt S j a) → (∀ a, Any S1 a → Any S a) → (∀ a ∈ Z1, ¬ Own S1 a) → DenS X.K CA W L S H (putS (envOf S1) (.tup is) p.1 .nx) D → g v σ H1 D.nx := fun S1 sr1 f1 l1 ow an hz hd => by
    cases hp : Tg.put (envOf S1) (.tup is) p.1 with
    | exc e => simp only [putS, hp] at hd; exact hd.elim
    | bad => simp only [putS, hp] at hd; exact hd.elim
    | ok ρ' =>
      simp only [putS, hp] at hd
      refine hg S1 σ H1 p.1 v Z1 ρ' _ (sr1.same pv.same) p0.rep hp (fun j hj => by rw [l1, hN]; exact hlen j hj) fun S' σ' sr' hρ pu => ?_
      obtain ⟨f', ow', an'⟩ := f1.put pu hz
      refine hd S' σ' H1 sr' f' ⟨fun a o e _ => pv.same a o e, fun a h => same_there pv.same h, fun j a h => .inl (ow j a (ow' j a h)), fun a h => ?_⟩ hρ
      rcases an' a h with z | z
      · exact .inl (an a z)
      · exact (zz a z).elim .inr fun w => .inl w.any
  by_cases hf : full p = true
  · rw [if_pos hf] at hd
    have hz : Z = [] := pv.rep.full (by simpa [full] using hf)
    refine fin S sr fr rfl (fun _ _ h => h) (fun _ h => h) (fun a ha q => ?_) hd
    rcases lw.all a ha with z | z
    · exact sr.own q (pv.fresh a z)
    · rw [hz] at z; simp at z
  · rw [if_neg hf] at hd
    obtain ⟨S1, sr1, f1, z⟩ := frz_ok (names c) sr fr
    rw [← z.env] at hd
    refine fin S1 sr1 f1 z.len z.own (fun a ⟨j, r, e, q⟩ => let ⟨r0, h1, h2⟩ := z.any j r e; ⟨j, r0, h1, h2 a q⟩) (fun a ha q => ?_) hd
    rcases zz a ha with y | y
    · exact sr1.own q y
    · exact z.free fr y q)⟩
end
end Vy

namespace Vy
open PySem PySem.Spec
open PyProof.Rows hiding St
open L2
section
variable {X : Cx} {nm : Nm} {G : Glo} {CA : Nat → Addr} {cf : Nat → List D → Out (D × Nat)} {W : WX} {L : List Nat}
/-- a list that is a slot's own -/
theorem Rep.lst_own {K : PySem.W.Frag} {H : Hp} {n : Nat} {xs : List D} {v : V} {O Z : List Addr} (r : Rep K CA H n (.lst xs) v O Z) (h : 1 ≤ n) : ∃ m a vs O', n = m + 1 ∧ v = .ref a ∧ H a = some (.lst vs) ∧ Reps K CA H m xs vs O' Z ∧ O = a :: O' := by
  cases r with
  | lstO e r => exact ⟨_, _, _, _, rfl, rfl, e, r, rfl⟩
  | lstZ e r => omega
theorem s_app {i : Nat} {x : Str} {c : C} {e : Expr} {p apos cpos pos : Pos} (hN : X.N[i]? = some x) (hv : Vis X.env.scope x) (hdb : (x == ("__debug__" : Str)) = false) (hcd : (x == ("__classdict__" : Str)) = false)
    (he : PE X e (tE X G CA cf W c)) (hs : noStar e = true) (hl : (apos.endLine == cpos.line) = true) : PS X (.Expr (.Call (.Attribute (.Name x p) "append" apos) [e] [] cpos) pos) (tS X G CA cf W L (.app i c)) := by
  have hs1 : [e].all noStar = true := by simp [hs]
  refine PS.weak (ps_expr (pe_bm F.plainAttrs_list F.slot_list_append F.type_list_append mt_append (pe_var (pos := p) hN hv hdb hcd) (a_cons he a_nil (star_cons hs)) rfl (back_few hs1 (by simp)) hl (star_cons hs) rfl) rfl) fun D σ H ⟨S, sr, fr, h⟩ => ?_
  rw [exS] at h
  cases e1 : ((envOf S)[i]?).bind id with
  | none => rw [e1] at h; exact h.elim
  | some q =>
  rw [e1] at h
  obtain ⟨d0, n0⟩ := q
  cases d0 <;> first | exact h.elim | skip
  rename_i xs
  simp only at h
  obtain ⟨r0, hr0, er⟩ := slot_get e1
  obtain ⟨q1, q2⟩ := sr.rep i r0 hr0
  obtain ⟨rd, rn, rv, rO, rZ⟩ := r0
  have er1 : rd = .lst xs := congrArg Prod.fst er
  have er2 : rn = n0 := congrArg Prod.snd er
  subst er1; subst er2
  have q2 : Rep X.K CA H rn (.lst xs) rv rO rZ := q2
  have q1 : σ[i]? = some (some rv) := q1
  obtain ⟨a0, vs0, O0, Z0, m0, ev0, hH0, rr0, _, _⟩ := q2.lst_inv
  refine ⟨rv, q1, by rw [ev0]; exact .inl ⟨rfl, vs0, .of hH0⟩, S, sr, ?_⟩
  have key : DenL X.K CA W (Nod S (namesL [c])) (evs G cf (envOf S) [c]) σ H fun vs H2 => ∃ p v O Z, ev G cf (envOf S) c = .ok p ∧ vs = [v] ∧ PVal X.K CA (Nod S (names c)) H H2 p.1 p.2 v O Z ∧ DenS X.K CA W L S H (appD L (envOf S) i p (names c)) D := by
    simp only [evs]
    cases e2 : ev G cf (envOf S) c with
    | exc y => rw [e2] at h; exact fun cls dd H' s x => h S σ H' cls dd (sr.same s) fr (Step.same s) rfl x
    | bad => rw [e2] at h; exact h.elim
    | ok p =>
      rw [e2] at h
      intro vs H2 O Z s pv
      obtain ⟨v, rfl, p1⟩ := pv.one_inv
      exact ⟨p, v, O, Z, rfl, rfl, p1.mono fun a ha => by simpa [namesL] using ha, h⟩
  have mono : ∀ {Q Q' : List V → Hp → Prop}, (∀ vs H2, Q vs H2 → Q' vs H2) → DenL X.K CA W (Nod S (namesL [c])) (evs G cf (envOf S) [c]) σ H Q → DenL X.K CA W (Nod S (namesL [c])) (evs G cf (envOf S) [c]) σ H Q' := fun {Q Q'} w h => by
    cases e2 : evs G cf (envOf S) [c] with
    | exc y => rw [e2] at h; exact h
    | bad => rw [e2] at h; exact h
    | ok ps => rw [e2] at h; exact fun vs H2 O Z s pv => w vs H2 (h vs H2 O Z s pv)
  refine mono (fun vs H2 ⟨p, v, O, Z, e2, ev1, pv, hd⟩ => ?_) key
  subst ev1
  unfold appD at hd
  by_cases hiL : i ∈ L
  · rw [if_pos hiL] at hd; exact hd.elim
  rw [if_neg hiL, e1] at hd
  simp only at hd
  by_cases hc : 1 ≤ rn ∧ xs.length + 1 ≤ SZ
  rotate_left
  · rw [if_neg hc] at hd; exact hd.elim
  rw [if_pos hc] at hd
  obtain ⟨m, a, vs, O', em, ea, hH, rr, eO⟩ := q2.lst_own hc.1
  subst em; subst ea; subst eO
  have own0 : ∀ y ∈ a :: O', OwnAt S i y := fun y hy => ⟨_, hr0, hy⟩
  have nd0 := List.nodup_cons.mp (fr.nd i _ hr0)
  have zo0 : ∀ y ∈ rZ, y ∉ a :: O' := fun y hy w => fr.zo i y (own0 y w) i _ hr0 hy
  have sz : vs.length < sizeLine := by rw [SZ_eq, ← rr.length]; omega
  have hH2 : H2 a = some (.lst vs) := pv.same _ _ hH
  have thO : ∀ y ∈ O', H y ≠ none := fun y hy => sr.own ⟨i, own0 y (by simp [hy])⟩
  have tha : H a ≠ none := by rw [hH]; simp
  refine ⟨a, vs, v, rfl, rfl, hH2, sz, ?_⟩
  have fin : ∀ (S1 : Slots) (k : Nat) (Op Zp : List Addr), SRep X.K CA S1 σ H → Fr S1 → Step L S H S1 H → S1[i]? = some (some ⟨.lst xs, m + 1, .ref a, a :: O', rZ⟩) → k ≤ m → Rep X.K CA H2 k p.1 v Op Zp → (∀ y ∈ Op, H y = none) → Op.Nodup → (∀ y ∈ Zp, y ∉ Op) → (∀ y ∈ Zp, H y = none ∨ (¬ Own S1 y ∧ Any S y)) →
      DenS X.K CA W L S H (.nx (setV (envOf S1) i (.lst (xs ++ [p.1]), k + 1))) D → D.nx σ (upd H2 a (.lst (vs ++ [v]))) := by
    intro S1 k Op Zp sr1 f1 st1 hr1 hk rp hOp ndp zop hZp hd
    obtain ⟨O2, Z2, r2, lw⟩ := rr.low hk
    have own1 : ∀ y ∈ a :: O', OwnAt S1 i y := fun y hy => ⟨_, hr1, hy⟩
    have zpn : ∀ y ∈ Zp, y ∉ a :: O' := fun y hy w => by
      rcases hZp y hy with z | ⟨z, _⟩
      · exact sr.own ⟨i, own0 y w⟩ z
      · exact z ⟨i, own1 y w⟩
    have z2 : ∀ y ∈ Z2, y ≠ a ∧ H y ≠ none := fun y hy => by
      rcases lw.all y hy with z | z
      · exact ⟨fun e => nd0.1 (e ▸ z), thO y z⟩
      · exact ⟨fun e => zo0 y z (by simp [e]), sr.any ⟨i, _, hr0, by simp [z]⟩⟩
    have same3 : ∀ y o, H2 y = some o → y ≠ a → upd H2 a (.lst (vs ++ [v])) y = some o := fun y o e hn => by rw [upd_ne hn]; exact e
    have k2 : Keep [a] H2 (upd H2 a (.lst (vs ++ [v]))) := fun y o e hn => same3 y o e (by simpa using hn)
    have fx2 : Fix [a] H2 := fun y hy => by simp at hy; subst hy; rw [hH2]; trivial
    have rep : Rep X.K CA (upd H2 a (.lst (vs ++ [v]))) (k + 1) (.lst (xs ++ [p.1])) (.ref a) (a :: (O2 ++ Op)) (Z2 ++ Zp) := by
      refine .lstO upd_same ?_
      have r2' : Reps X.K CA (upd H2 a (.lst (vs ++ [v]))) k xs vs O2 Z2 := (r2.same pv.same).keep k2 fx2 fun y hy z => by
        simp at z
        rcases List.mem_append.mp hy with q | q
        · exact nd0.1 (z ▸ lw.own y q)
        · exact (z2 y q).1 z
      have rp' : Rep X.K CA (upd H2 a (.lst (vs ++ [v]))) k p.1 v Op Zp := rp.keep k2 fx2 fun y hy z => by
        simp at z
        rcases List.mem_append.mp hy with q | q
        · exact tha (z ▸ hOp y q)
        · exact zpn y q (by simp [z])
      have := r2'.append (.cons rp' .nil)
      simpa using this
    have M1 : (a :: (O2 ++ Op)).Nodup ∧ (∀ y ∈ Z2 ++ Zp, y ∉ a :: (O2 ++ Op)) ∧ (∀ y ∈ a :: (O2 ++ Op), y ∈ a :: O' ∨ H y = none) ∧ ∀ y ∈ Z2 ++ Zp, y ∈ a :: O' ∨ y ∈ rZ ∨ H y = none ∨ (¬ Own S1 y ∧ Any S y) := by
      refine ⟨?_, ?_, ?_, ?_⟩
      · refine List.nodup_cons.mpr ⟨fun z => ?_, List.nodup_append.mpr ⟨lw.nd nd0.2, ndp, fun y hy w hw e => ?_⟩⟩
        · rcases List.mem_append.mp z with z | z
          · exact nd0.1 (lw.own a z)
          · exact tha (hOp a z)
        · subst e; exact thO y (lw.own y hy) (hOp y hw)
      · intro y hy z
        rcases List.mem_append.mp hy with q | q
        · rcases List.mem_cons.mp z with z | z
          · exact (z2 y q).1 z
          · rcases List.mem_append.mp z with z | z
            · exact lw.zo nd0.2 (fun y hy w => zo0 y hy (by simp [w])) y q z
            · exact (z2 y q).2 (hOp y z)
        · rcases List.mem_cons.mp z with z | z
          · exact zpn y q (by simp [z])
          · rcases List.mem_append.mp z with z | z
            · exact zpn y q (by simp [lw.own y z])
            · exact zop y q z
      · intro y hy
        rcases List.mem_cons.mp hy with q | q
        · exact .inl (by simp [q])
        · rcases List.mem_append.mp q with q | q
          · exact .inl (by simp [lw.own y q])
          · exact .inr (hOp y q)
      · intro y hy
        rcases List.mem_append.mp hy with q | q
        · rcases lw.all y q with q | q
          · exact .inl (by simp [q])
          · exact .inr (.inl q)
        · exact (hZp y q).elim (fun z => .inr (.inr (.inl z))) fun z => .inr (.inr (.inr z))
    obtain ⟨S', sr', f', st', he⟩ := mut_ok (L := L) (S0 := S) (S1 := S1) (F := [a]) (H3 := upd H2 a (.lst (vs ++ [v]))) sr1 f1 st1 hr1 hiL (by simp) (fun y o e hn => same3 y o (pv.same y o e) (by simpa using hn)) (fun y hy => by simp at hy; subst hy; rw [hH]; trivial)
      (fun y hy => by
        by_cases e : y = a
        · subst e; rw [upd_same]; simp
        · rw [upd_ne e]; exact same_there pv.same hy) rep M1.1 M1.2.1 M1.2.2.1 M1.2.2.2
    exact hd S' σ _ sr' f' st' he
  by_cases h0 : p.1.mdep = 0
  · rw [if_pos h0] at hd
    obtain ⟨_, _, rp⟩ := pv.rep.imm (m := m) h0
    exact fin S m [] [] sr fr Step.refl hr0 (Nat.le_refl _) rp (by simp) (by simp) (by simp) (by simp) hd
  rw [if_neg h0] at hd
  obtain ⟨Op, Zp, rp, lp⟩ := pv.rep.low (Nat.min_le_right m p.2)
  have ek : min (m + 1) (p.2 + 1) = min m p.2 + 1 := by omega
  rw [ek] at hd
  have hop : ∀ y ∈ Op, H y = none := fun y hy => pv.fresh y (lp.own y hy)
  by_cases hf : full p = true
  · rw [if_pos hf] at hd
    have hz : Z = [] := pv.rep.full (by simpa [full] using hf)
    refine fin S _ Op Zp sr fr Step.refl hr0 (Nat.min_le_left _ _) rp hop (lp.nd pv.nd) (lp.zo pv.nd pv.zo) (fun y hy => .inl ?_) hd
    rcases lp.all y hy with z | z
    · exact pv.fresh y z
    · rw [hz] at z; simp at z
  · rw [if_neg hf] at hd
    by_cases hin : i ∈ names c
    · rw [if_pos hin] at hd; exact hd.elim
    rw [if_neg hin] at hd
    obtain ⟨S1, sr1, f1, z⟩ := frz_ok (names c) sr fr
    rw [← z.env] at hd
    refine fin S1 _ Op Zp sr1 f1 z.step (by rw [z.oth i hin]; exact hr0) (Nat.min_le_left _ _) rp hop (lp.nd pv.nd) (lp.zo pv.nd pv.zo) (fun y hy => ?_) hd
    rcases lp.all y hy with q | q
    · exact .inl (pv.fresh y q)
    · rcases pv.zin y q with q | q
      · exact .inl q
      · exact .inr ⟨z.free fr q, q.any⟩
end
end Vy

namespace Vy
open PySem PySem.Spec
open PyProof.Rows hiding St
open L2
/-! ## defs -/
structure Def where
  np : Nat
  nl : Nat
  b : List S
def initE (nl : Nat) (ds : List D) : Env := ds.map (fun d => some (norm (d, 0))) ++ List.replicate (nl - ds.length) none
def outS : OS → Out (D × Nat)
  | .nx _ => .ok (.non, 9)
  | .rt p => .ok p
  | .exc e _ => .exc e
  | .bad => .bad
def run (G : Glo) (P : Nat → Option Def) : Nat → Nat → List D → Out (D × Nat)
  | 0, _, _ => .bad
  | k + 1, f, ds => match P f with
    | none => .bad
    | some d => if ds.length = d.np then outS (exB G (run G P k) [] (initE d.nl ds) d.b) else .bad
section
variable {K : PySem.W.Frag} {CA : Nat → Addr} {H : Hp}
theorem roots_of : ∀ {ds : List D} {vs : List V} {Z : List Addr}, Reps K CA H 0 ds vs [] Z → ∃ rs : List Root, rs.map (fun r => (r.d, r.n)) = ds.map (fun d => norm (d, 0)) ∧ rs.map (·.v) = vs ∧ ∀ r ∈ rs, Rep K CA H r.n r.d r.v r.O r.Z ∧ r.O = [] ∧ ∀ a ∈ r.Z, a ∈ Z
  | [], vs, Z, r => by
    cases r
    exact ⟨[], rfl, rfl, by simp⟩
  | d :: ds, vs, Z, r => by
    obtain ⟨v, vs', Z1, Z2, rfl, r1, r2, rfl⟩ : ∃ v vs' Z1 Z2, vs = v :: vs' ∧ Rep K CA H 0 d v [] Z1 ∧ Reps K CA H 0 ds vs' [] Z2 ∧ Z = Z1 ++ Z2 := by
      generalize hO : ([] : List Addr) = O at r
      generalize hX : d :: ds = dd at r
      cases r with
      | nil => cases hX
      | cons r1 r2 =>
        cases hX
        obtain ⟨e1, e2⟩ := List.append_eq_nil_iff.mp hO.symm
        subst e1; subst e2
        exact ⟨_, _, _, _, rfl, r1, r2, rfl⟩
    obtain ⟨rs, h1, h2, h3⟩ := roots_of r2
    refine ⟨⟨d, (norm (d, 0)).2, v, [], Z1⟩ :: rs, ?_, by rw [List.map_cons, h2], fun r hr => ?_⟩
    · rw [List.map_cons, List.map_cons, h1]
      congr 1
      show (d, (norm (d, 0)).2) = _
      rw [show norm (d, 0) = ((norm (d, 0)).1, (norm (d, 0)).2) from rfl, norm_fst]
    · rcases List.mem_cons.mp hr with rfl | hr
      · exact ⟨norm_rep r1, rfl, fun a h => by simp [h]⟩
      · obtain ⟨a, b, c⟩ := h3 r hr
        exact ⟨a, b, fun x h => by simp [c x h]⟩
/-- a def's slots at its entry -/
theorem start_ok {N : List Str} {ds : List D} {vs : List V} {Z : List Addr} (r : Reps K CA H 0 ds vs [] Z) : ∃ S, SRep K CA S (L2.start N vs) H ∧ Fr S ∧ envOf S = initE N.length ds ∧ (∀ i a, ¬ OwnAt S i a) ∧ ∀ a, Any S a → a ∈ Z := by
  obtain ⟨rs, h1, h2, h3⟩ := roots_of r
  have hl : rs.length = ds.length := by have := congrArg List.length h1; simpa using this
  have hv : vs.length = ds.length := r.length.symm
  have get : ∀ (i : Nat) (q : Root), (rs.map some ++ List.replicate (N.length - ds.length) none)[i]? = some (some q) → rs[i]? = some q := fun i q h => by
    by_cases hi : i < rs.length
    · rw [List.getElem?_append_left (by simpa using hi), List.getElem?_map] at h
      cases e : rs[i]? with
      | none => rw [e] at h; cases h
      | some x => rw [e] at h; cases h; rfl
    · rw [List.getElem?_append_right (by simpa using hi), List.getElem?_replicate] at h
      split at h <;> cases h
  have noown : ∀ i a, ¬ OwnAt (rs.map some ++ List.replicate (N.length - ds.length) none) i a := fun i a ⟨q, e, w⟩ => by
    rw [(h3 q (List.mem_of_getElem? (get i q e))).2.1] at w
    simp at w
  refine ⟨rs.map some ++ List.replicate (N.length - ds.length) none, ⟨?_, fun i q e => ?_⟩, ⟨fun i q e => ?_, fun i j a h => absurd h (noown i a), fun i a h => absurd h (noown i a)⟩, ?_, noown, fun a ⟨i, q, e, w⟩ => ?_⟩
  · unfold L2.start
    simp [hl, hv]
  · have g := get i q e
    refine ⟨?_, (h3 q (List.mem_of_getElem? g)).1⟩
    unfold L2.start
    have hi : i < rs.length := (List.getElem?_eq_some_iff.mp g).1
    rw [List.getElem?_append_left (by simp [hv, ← hl]; exact hi), List.getElem?_map, ← h2, List.getElem?_map, g]
    rfl
  · rw [(h3 q (List.mem_of_getElem? (get i q e))).2.1]; simp
  · unfold envOf initE
    rw [List.map_append, List.map_replicate, List.map_map]
    congr 1
    have := congrArg (List.map some) h1
    rw [List.map_map, List.map_map] at this
    exact this
  · obtain ⟨_, e1, e2⟩ := h3 q (List.mem_of_getElem? (get i q e))
    rw [e1] at w
    exact e2 a (by simpa using w)
end
/-- what the proof of a def's body asks of its context -/
structure Body (sc : Scope) (X : Cx) (nm : Nm) (G : Glo) (CA : Nat → Addr) (cf : Nat → List D → Out (D × Nat)) (np : Nat → Option Nat) (bl : List Str) (W : WX) : Prop where
  cx : CtxOk X nm G CA cf np bl
  sc : ScOk sc X
  tk : Takes X W
  pas : PassesOwn (model X.prog X.w) X.A X.env X.xe
  kd : X.env.scope.kind = .function
/-- names told apart from a def's own -/
structure Tb where
  fn : Nat → Str
  gn : Nat → Str
  cn : Nat → Str
def Tb.nm (T : Tb) (N : List Str) : Nm := ⟨N, T.fn, T.gn, T.cn⟩
/-- a def of the text, with its body proved -/
structure DefOk (P : Program) (w : World) (K : PySem.W.Frag) (mg : Str → Option Value) (T : Tb) (G : Glo) (CA : Nat → Addr) (Pr : Nat → Option Def) (np : Nat → Option Nat) (bl : List Str) (f n : Nat) (a : Addr) (fd : FuncData) (ps : List Str) : Prop where
  ex : ∃ (qual : Str) (st : Stmt) (N : List Str) (b : List S), mg (T.fn f) = some (.ref a) ∧ Fun K (T.fn f) qual st a fd ∧ Binds K fd ps [] ∧ ps.length = n ∧ FnScope N ps (defScope st) ∧ Pr f = some ⟨n, N.length, b⟩ ∧
    ∀ (X : Cx) (cf : Nat → List D → Out (D × Nat)) (W : WX), Body (defScope st) X (T.nm N) G CA cf np bl W → PSs X (defBody st) (tB X G CA cf W [] b)
section
variable {P : Program} {w : World} {K : PySem.W.Frag} {mg : Str → Option Value} {base : Heap} {T : Tb} {G : Glo} {CA : Nat → Addr} {Pr : Nat → Option Def} {np : Nat → Option Nat} {bl : List Str}
/-- all defs, at a level -/
def FnsOk (P : Program) (w : World) (K : PySem.W.Frag) (mg : Str → Option Value) (base : Heap) (T : Tb) (G : Glo) (CA : Nat → Addr) (Pr : Nat → Option Def) (np : Nat → Option Nat) (k : Nat) : Prop :=
  ∀ f n, np f = some n → ∃ (a : Addr) (fd : FuncData) (ps : List Str), mg (T.fn f) = some (.ref a) ∧ PySem.W.keepIn K (.ref a) = true ∧ Binds K fd ps [] ∧ ps.length = n ∧ FnOk P w K mg base (L2.CX P w) k a fd ps (spF K CA (run G Pr k) n f)
theorem fn_step {k f n : Nat} {a : Addr} {fd : FuncData} {ps : List Str} (ih : FnsOk P w K mg base T G CA Pr np k) (hd : DefOk P w K mg T G CA Pr np bl f n a fd ps) (hb : ∀ x ∈ bl, mg x = none) (hg : ∀ g d, G.gv g = some d → ∃ u v, mg (T.gn g) = some u ∧ RelV v u ∧ ∀ H, Rep K CA H 9 d v [] []) :
    FnOk P w K mg base (L2.CX P w) (k + 1) a fd ps (spF K CA (run G Pr (k + 1)) n f) := by
    obtain ⟨qual, st, N, b, h1, h2, h3, h4, h5, h6, h7⟩ := hd.ex
    refine Fun.okX h2 h5 (fun vs H Q E h => h.1.trans h4.symm) fun cdv A outer s H vs Q E hr h => ?_
    obtain ⟨hl, ds, Z, r, h⟩ := h
    refine ⟨tB (cxOf (L2.CX P w) P w K mg base N qual (defScope st) a cdv A outer s H E) G CA (run G Pr k) (fun cls d _ H => E cls d H) [] b, h7 _ (run G Pr k) _ ⟨⟨rfl, h5.nd, rfl, ⟨k, hr, fun f n e => ⟨?_⟩⟩, hb, hg⟩, ⟨fun x h => h, fun x h => ⟨h, rfl⟩, fun x h => .inl h, fun x h => h⟩, takes_of rfl rfl rfl rfl, passes_of rfl, h5.kind⟩, ?_⟩
    · obtain ⟨a, fd, ps, q1, q2, q3, q4, q5⟩ := ih f n e
      exact ⟨a, fd, ps, q1, q2, q3, q4, q5⟩
    · obtain ⟨S, sr, fr, he, no, an⟩ := start_ok (N := N) r
      refine ⟨S, sr, fr, ?_⟩
      rw [he]
      have er : run G Pr (k + 1) f ds = outS (exB G (run G Pr k) [] (initE N.length ds) b) := by
        unfold run
        rw [h6]
        simp only
        rw [if_pos (by rw [r.length, hl])]
      rw [er] at h
      have sm : ∀ H', (∀ a o, H a = some o → ¬ Ou S [] a → H' a = some o) → Same H H' := fun H' k a o e => k a o e fun ⟨i, _, q⟩ => no i a q
      cases e2 : exB G (run G Pr k) [] (initE N.length ds) b with
      | nx ρ =>
        rw [e2] at h
        intro S' σ' H' sr' fr' st' _
        exact h .non H' [] [] (.imm (sm H' st'.keep) .non)
      | rt p =>
        rw [e2] at h
        intro v H' O Z' k1 k2 rep ho hnd hz hzo
        exact h v H' O Z' ⟨sm H' k1, rep, fun a q => (ho a q).elim (fun ⟨i, q⟩ => absurd q (no i a)) id, hnd, fun a q => (hz a q).elim (fun q => .inr (an a q)) .inl, hzo⟩
      | exc x ρ =>
        rw [e2] at h
        intro S' σ' H' cls dd sr' fr' st' _ ex
        exact h cls dd H' (sm H' st'.keep) ex
      | bad => rw [e2] at h; exact h.elim
theorem fns_ok (hd : ∀ f n, np f = some n → ∃ a fd ps, DefOk P w K mg T G CA Pr np bl f n a fd ps) (hb : ∀ x ∈ bl, mg x = none) (hg : ∀ g d, G.gv g = some d → ∃ u v, mg (T.gn g) = some u ∧ RelV v u ∧ ∀ H, Rep K CA H 9 d v [] []) : ∀ k, FnsOk P w K mg base T G CA Pr np k
  | 0 => fun f n e => by
    obtain ⟨a, fd, ps, dd⟩ := hd f n e
    obtain ⟨qual, st, N, b, h1, h2, h3, h4, h5, h6, h7⟩ := dd.ex
    have no : ∀ vs H Q E, ¬ spF K CA (run G Pr 0) n f vs H Q E := fun vs H Q E ⟨_, ds, Z, _, h⟩ => h
    exact ⟨a, fd, ps, h1, h2.kp, h3, h4, fun vs H Q E h => absurd h (no _ _ _ _), fun A outer s H args us vs Q E _ _ _ _ h => absurd h (no _ _ _ _)⟩
  | k + 1 => fun f n e => by
    have ih := fns_ok hd hb hg k
    obtain ⟨a, fd, ps, dd⟩ := hd f n e
    obtain ⟨qual, st, N, b, h1, h2, h3, h4, h5, h6, h7⟩ := dd.ex
    exact ⟨a, fd, ps, h1, h2.kp, h3, h4, fn_step ih dd hb hg⟩
end
end Vy

namespace Vy
open PySem PySem.Spec
open PyProof.Rows hiding St
open L2
/-! ## displays of dicts -/
section
variable {K : PySem.W.Frag} {CA : Nat → Addr}
theorem PVal.updM {M : Addr → Prop} {H1 H : Hp} {d : D} {n : Nat} {v : V} {O Z : List Addr} {Dd : Addr} {o : HO} (p : PVal K CA M H1 H d n v O Z) (hD : Mut (H Dd)) (h1 : H1 Dd = none) (hn : Dd ∉ O ++ Z) : PVal K CA M H1 (upd H Dd o) d n v O Z := by
  refine ⟨fun c u e => ?_, ?_, p.fresh, p.nd, p.zin, p.zo⟩
  · have hc : c ≠ Dd := fun z => by rw [z, h1] at e; cases e
    rw [upd_ne hc]; exact p.same c u e
  · refine p.rep.keep (F := [Dd]) (fun c u e hc => ?_) (fun c hc => ?_) (fun c hc => ?_)
    · rw [upd_ne (by simpa using hc)]; exact e
    · simp at hc; subst hc; exact hD
    · intro z; simp at z; subst z; exact hn (by simp at hc ⊢; rcases hc with z | z <;> simp [z])
theorem PVs.updM {M : Addr → Prop} {H1 H : Hp} {ps : List (D × Nat)} {vs : List V} {O Z : List Addr} {Dd : Addr} {o : HO} (p : PVs K CA M H1 H ps vs O Z) (hD : Mut (H Dd)) (h1 : H1 Dd = none) (hn : Dd ∉ O ++ Z) : PVs K CA M H1 (upd H Dd o) ps vs O Z := by
  induction p with
  | nil => exact .nil
  | @cons q v O1 Z1 ps vs O2 Z2 pv _ a b ih =>
    refine .cons (pv.updM hD h1 fun z => hn (by simp at z ⊢; rcases z with z | z <;> simp [z])) (ih fun z => hn (by simp at z ⊢; rcases z with z | z <;> simp [z])) a b
/-- by turns -/
def unpairV : List V → List (V × V)
  | k :: v :: r => (k, v) :: unpairV r
  | _ => []
theorem key_of {H : Hp} {n : Nat} {d : D} {v : V} {O Z : List Addr} {k : L2.Key} (r : Rep K CA H n d v O Z) (h : vKey d = some k) : v = kV k ∧ O = [] ∧ Z = [] ∧ ∀ s, d = .str s → Bd s := by
  cases d <;> first | (cases h; done) | skip
  · cases h; obtain ⟨e, h1, h2⟩ := r.int_inv; exact ⟨e, h1, h2, fun s z => by cases z⟩
  · cases h; obtain ⟨e, h1, h2, h3⟩ := r.str_inv; exact ⟨e, h1, h2, fun s z => by cases z; exact h3⟩
theorem unpair_ok {M : Addr → Prop} {H H' : Hp} : ∀ (n : Nat) {ps : List (D × Nat)} {vs : List V} {O Z : List Addr} {r : List D × List (D × Nat)}, ps.length ≤ n → PVs K CA M H H' ps vs O Z → unpair ps = some r → (∀ k ∈ r.1, (vKey k).isSome = true) →
    ∃ kvs : List (L2.Key × V), unpairV vs = kvs.map (fun kv => (kV kv.1, kv.2)) ∧ r.1.map vKey = kvs.map (fun p => some p.1) ∧ PVs K CA M H H' r.2 (kvs.map (·.2)) O Z ∧ ∀ s, D.str s ∈ r.1 → Bd s
  | n, [], vs, O, Z, r, _, p, h, _ => by
    cases p; cases h
    exact ⟨[], rfl, rfl, .nil, by simp⟩
  | n, [x], vs, O, Z, r, _, p, h, _ => by cases h
  | 0, k :: v :: ps, vs, O, Z, r, hn, p, h, hk => by simp at hn
  | n + 1, k :: v :: ps, vs, O, Z, r, hn, p, h, hk => by
    rw [unpair] at h
    obtain ⟨q, hq, rfl⟩ := Option.map_eq_some_iff.mp h
    cases p with
    | @cons _ u O1 Z1 _ us O2 Z2 pk pr a b =>
      cases pr with
      | @cons _ w O3 Z3 _ ws O4 Z4 pv pr c d =>
        have hk0 := hk k.1 (by simp)
        obtain ⟨kk, hkk⟩ := Option.isSome_iff_exists.mp hk0
        obtain ⟨e1, e2, e3, e4⟩ := key_of pk.rep hkk
        subst e2; subst e3; subst e1
        obtain ⟨kvs, h1, h2, h3, h4⟩ := unpair_ok n (by simp at hn; omega) pr hq (fun k hk' => hk k (by simp [hk']))
        refine ⟨(kk, w) :: kvs, ?_, ?_, ?_, fun s hs => ?_⟩
        · rw [List.map_cons, ← h1]; rfl
        · rw [List.map_cons, List.map_cons, h2, hkk]
        · have := PVs.cons pv h3 c d
          simpa using this
        · rcases List.mem_cons.mp hs with z | z
          · exact e4 s z.symm
          · exact h4 s z
theorem mergeK_nodup : ∀ (kvs acc : List (L2.Key × V)), ((acc ++ kvs).map (·.1)).Nodup → mergeK acc kvs = acc ++ kvs
  | [], acc, _ => by simp [mergeK]
  | p :: r, acc, h => by
    have h1 : valV acc p.1 = none := by
      have : p.1 ∉ acc.map (·.1) := fun z => by
        rw [List.map_append, List.map_cons] at h
        exact (List.nodup_append.mp h).2.2 p.1 z p.1 (by simp) rfl
      unfold valV
      rw [Option.map_eq_none_iff, List.find?_eq_none]
      intro x hx e
      exact this (by have e : x.1 = p.1 := of_decide_eq_true e; rw [← e]; exact List.mem_map.mpr ⟨x, hx, rfl⟩)
    show mergeK (putK acc p.1 p.2) r = _
    rw [putK_new p.2 h1, mergeK_nodup r (acc ++ [(p.1, p.2)]) (by simpa using h)]
    simp
end
section
variable {X : Cx} {nm : Nm} {G : Glo} {CA : Nat → Addr} {cf : Nat → List D → Out (D × Nat)} {W : WX}
/-- pairs of a display -/
inductive DP (X : Cx) (G : Glo) (CA : Nat → Addr) (cf : Nat → List D → Out (D × Nat)) (W : WX) : List (Option Expr) → List Expr → List C → List (TE × TE) → Prop
  | nil : DP X G CA cf W [] [] [] []
  | cons {k v : Expr} {ck cv : C} {ks : List (Option Expr)} {vs : List Expr} {cs : List C} {trs : List (TE × TE)} : PE X k (tE X G CA cf W ck) → PE X v (tE X G CA cf W cv) → DP X G CA cf W ks vs cs trs → DP X G CA cf W (some k :: ks) (v :: vs) (ck :: cv :: cs) ((tE X G CA cf W ck, tE X G CA cf W cv) :: trs)
theorem DP.pps {pos : Pos} {ks : List (Option Expr)} {vs : List Expr} {cs : List C} {trs : List (TE × TE)} (h : DP X G CA cf W ks vs cs trs) : PPs X pos ks vs trs := by
  induction h with
  | nil => exact pps_nil
  | cons hk hv _ ih => exact pps_cons hk hv ih
/-- one ahead of the others -/
theorem dl_cons {c : C} {cs : List C} {σ : St} {H : Hp} {Q : List V → Hp → Prop} (h : tL X G CA cf W (c :: cs) σ H Q) : tE X G CA cf W c σ H fun v H1 => tL X G CA cf W cs σ H1 fun vs H2 => Q (v :: vs) H2 := by
  obtain ⟨S, sr, h⟩ := h
  rw [evs] at h
  refine ⟨S, sr, ?_⟩
  cases e1 : ev G cf (envOf S) c with
  | exc x => rw [e1] at h; exact h
  | bad => rw [e1] at h; exact h
  | ok p =>
    rw [e1] at h
    simp only [Out.bind_ok] at h
    intro v H1 O Z pv
    refine ⟨S, sr.same pv.same, ?_⟩
    cases e2 : evs G cf (envOf S) cs with
    | exc x => rw [e2] at h; exact fun cls dd H' s' r => h cls dd H' (pv.same.trans s') r
    | bad => rw [e2] at h; exact h
    | ok ps =>
      rw [e2] at h
      intro vs H2 O' Z' s2 pw
      refine h _ _ _ _ (pv.same.trans s2) (.cons ((pv.later s2).mono fun a => Nod.l) ((pw.ahead pv.same).mono fun a => Nod.r) (fun a ha hb => ?_) fun a ha hb => ?_)
      · exact pv.rep.there a hb (pw.fresh a ha)
      · rcases pw.zin a hb with z | z
        · exact pv.rep.there a (by simp [ha]) z
        · exact Nod.there sr z (pv.fresh a ha)
theorem tE.mono {c : C} {σ : St} {H : Hp} {Q Q' : VK} (w : ∀ v H, Q v H → Q' v H) (h : tE X G CA cf W c σ H Q) : tE X G CA cf W c σ H Q' := by
  obtain ⟨S, sr, h⟩ := h
  refine ⟨S, sr, ?_⟩
  cases e : ev G cf (envOf S) c with
  | ok p => rw [e] at h; exact fun v H1 O Z pv => w v H1 (h v H1 O Z pv)
  | exc x => rw [e] at h; exact h
  | bad => rw [e] at h; exact h
theorem DP.pairs {ks : List (Option Expr)} {vs : List Expr} {cs : List C} {trs : List (TE × TE)} (h : DP X G CA cf W ks vs cs trs) {σ : St} : ∀ {H : Hp} {Q : List (V × V) → Hp → Prop}, tL X G CA cf W cs σ H (fun us H2 => Q (unpairV us) H2) → tPairs trs σ H Q := by
  induction h with
  | nil => exact fun {H Q} ⟨S, sr, h⟩ => h [] H [] [] (Same.refl H) .nil
  | cons hk hv _ ih => exact fun {H Q} h => (dl_cons h).mono fun v H1 h1 => (dl_cons h1).mono fun w H2 h2 => ih h2
theorem e_disp {keys : List (Option Expr)} {values : List Expr} {cs : List C} {trs : List (TE × TE)} {pos : Pos} (h : DP X G CA cf W keys values cs trs) (hall : keys.all (·.isSome) = true) (hl : keys.length = values.length) (h0 : keys ≠ []) (h15 : keys.length ≤ 15) :
    PE X (.Dict keys values pos) (tE X G CA cf W (.dct [] cs)) := by
  refine PE.weak (pe_disp h.pps hall hl h0 h15) fun σ H Q ⟨S, sr, hd⟩ p hp => h.pairs ?_
  rw [ev] at hd
  have k : Same H (upd H p (.dK [])) := sameNew hp
  refine ⟨S, sr.same k, ?_⟩
  cases e : evs G cf (envOf S) cs with
  | exc x => rw [e] at hd; exact fun cls dd H' s r => hd cls dd H' (k.trans s) r
  | bad => rw [e] at hd; exact hd
  | ok ps =>
    rw [e] at hd
    intro vs H2 O Z s2 pv
    obtain ⟨z, hz, hd⟩ := Den.ofv (show Den _ _ _ _ (Out.of (dispD ps)) _ _ _ from hd)
    obtain ⟨r, hr, hz⟩ := Option.bind_eq_some_iff.mp (show (unpair ps).bind _ = some z from hz)
    obtain ⟨hk, hz⟩ := go_some hz
    cases hz
    simp only [keysOk, Bool.and_eq_true, decide_eq_true_eq] at hk
    obtain ⟨⟨k1, k2⟩, k3⟩ := hk
    have k1' : ∀ k ∈ r.1, (vKey k).isSome = true := fun k hk => List.all_eq_true.mp k1 (vKey k) (List.mem_map.mpr ⟨k, hk, rfl⟩)
    obtain ⟨kvs, e1, e2, e3, e4⟩ := unpair_ok ps.length (Nat.le_refl _) pv hr k1'
    have nd : (kvs.map (·.1)).Nodup := by
      have : (kvs.map (·.1)).map some = r.1.map vKey := by rw [e2, List.map_map]; rfl
      rw [← this] at k2
      exact (List.pairwise_map.mp k2).imp fun h e => h (by rw [e])
    have hp2 : H2 p = some (.dK []) := s2 _ _ upd_same
    have nO : p ∉ O ++ Z := fun z => by
      rcases List.mem_append.mp z with z | z
      · have := pv.fresh p z; rw [upd_same] at this; cases this
      · rcases pv.zin p z with z | z
        · rw [upd_same] at z; cases z
        · exact Nod.there sr z hp
    have len : kvs.length = r.1.length := by have := congrArg List.length e2; simpa using this.symm
    refine ⟨hp2, kvs, e1, by omega, ?_⟩
    have em : mergeK [] kvs = kvs := by have := mergeK_nodup kvs [] (by simpa using nd); simpa using this
    rw [em]
    have pv2 : PVs X.K CA (Nod S (namesL cs)) H (upd H2 p (.dK kvs)) r.2 (kvs.map (·.2)) O Z := (e3.ahead k).updM (by rw [hp2]; trivial) hp nO
    obtain ⟨O', Z', rr, lw⟩ := pv2.reps (lvL r.2) (Nat.le_refl _)
    have sm : Same H (upd H2 p (.dK kvs)) := fun c u hc => by
      have : c ≠ p := fun z => by rw [z, hp] at hc; cases hc
      rw [upd_ne this]
      exact s2 _ _ (k _ _ hc)
    refine hd (.ref p) _ (p :: O') Z' ⟨sm, .dctO upd_same ⟨e2, nd, e4⟩ rr, fun a ha => ?_, ?_, fun a ha => ?_, fun a ha z => ?_⟩
    · rcases List.mem_cons.mp ha with rfl | ha
      · exact hp
      · exact pv2.fresh a (lw.own a ha)
    · exact List.nodup_cons.mpr ⟨fun z => nO (by simp [lw.own _ z]), lw.nd pv2.nd⟩
    · rcases lw.all a ha with z | z
      · exact .inl (pv2.fresh a z)
      · exact (pv2.zin a z).imp id fun w => w.l
    · rcases List.mem_cons.mp z with rfl | z
      · rcases lw.all a ha with z | z <;> exact nO (by simp [z])
      · exact lw.zo pv2.nd pv2.zo a ha z
end
end Vy

namespace Vy
open PySem PySem.Spec
open PyProof.Rows hiding St
open L2
/-! ## the rules, as a text is written with them -/
structure En (sc : Scope) (X : Cx) (nm : Nm) (G : Glo) (CA : Nat → Addr) (cf : Nat → List D → Out (D × Nat)) (np : Nat → Option Nat) (bl : List Str) (W : WX) : Prop where
  cx : CtxOk X nm G CA cf np bl
  so : ScOk sc X
  tk : Takes X W
def dbg (x : Str) : Bool := !(x == ("__debug__" : Str)) && !(x == ("__classdict__" : Str)) && !(x == ("__name__" : Str))
def visB (sc : Scope) (x : Str) : Bool := match sc.names.lookup x with
  | some .local => true
  | some .cell => true
  | some .free => true
  | _ => false
def locB (sc : Scope) (x : Str) : Bool := match sc.names.lookup x with
  | some .local => true
  | some .cell => true
  | _ => false
def gloB (sc : Scope) (x : Str) : Bool := match sc.names.lookup x with
  | some .globalImplicit => true
  | _ => false
def freB (sc : Scope) (x : Str) : Bool := match sc.names.lookup x with
  | some .cell => true
  | some .free => true
  | _ => false
section
variable {sc : Scope} {X : Cx} {nm : Nm} {G : Glo} {CA : Nat → Addr} {cf : Nat → List D → Out (D × Nat)} {np : Nat → Option Nat} {bl : List Str} {W : WX} {L : List Nat}
theorem Body.en (B : Body sc X nm G CA cf np bl W) : En sc X nm G CA cf np bl W := ⟨B.cx, B.sc, B.tk⟩
theorem En.inn (B : En sc X nm G CA cf np bl W) {scope : Scope} {s : Shared} {H : Hp} {c : Addr} {cl : List (Str × Addr)} {fp : List Addr} : En scope (Cx.inn X scope s H c cl fp) nm G CA cf np bl W0 := ⟨B.cx.inn, ScOk.inn, L2.takes0⟩
theorem dbg_ok {x : Str} (h : dbg x = true) : (x == ("__debug__" : Str)) = false ∧ (x == ("__classdict__" : Str)) = false ∧ x ≠ "__name__" := by
  unfold dbg at h
  simp only [Bool.and_eq_true, Bool.not_eq_true'] at h
  exact ⟨h.1.1, h.1.2, fun e => by have := h.2; rw [e] at this; revert this; decide⟩
theorem En.vis (B : En sc X nm G CA cf np bl W) {x : Str} (h : visB sc x = true) : Vis X.env.scope x := by
  unfold visB at h
  split at h
  · rename_i e; exact .inl (B.so.loc x e)
  · rename_i e; exact .inr (.inl (B.so.cel x e).1)
  · rename_i e; rcases B.so.fre x e with z | z
    · exact .inr (.inr z)
    · exact .inr (.inl z)
  · cases h
theorem loc_or {x : Str} (h : locB sc x = true) : sc.names.lookup x = some .local ∨ sc.names.lookup x = some .cell := by
  unfold locB at h
  split at h
  · exact .inl (by assumption)
  · exact .inr (by assumption)
  · cases h
theorem En.gl (B : En sc X nm G CA cf np bl W) {x : Str} (h : gloB sc x = true) : Gl X x := by
  unfold gloB at h
  split at h
  · exact B.so.glo x (by assumption)
  · cases h
theorem x_var (B : En sc X nm G CA cf np bl W) (i : Nat) {x : Str} {pos : Pos} (hN : nm.N[i]? = some x) (h : visB sc x = true) (hd : dbg x = true) : PE X (.Name x pos) (tE X G CA cf W (.var i)) :=
  e_var (by rw [B.cx.N]; exact hN) (B.vis h) (dbg_ok hd).1 (dbg_ok hd).2.1
theorem x_glb (B : En sc X nm G CA cf np bl W) (g : Nat) {x : Str} {pos : Pos} (hx : x = nm.gn g) (h : gloB sc x = true) (hg : (G.gv g).isSome = true) (hd : dbg x = true) : PE X (.Name x pos) (tE X G CA cf W (.glb g)) :=
  e_glb B.cx hx (B.gl h) hg (dbg_ok hd).1
theorem x_cmp (B : En sc X nm G CA cf np bl W) (o : CO) {a b : C} {ea eb : Expr} {pos : Pos} (ha : PE X ea (tE X G CA cf W a)) (hb : PE X eb (tE X G CA cf W b)) (hm : behindInMarks o.op eb = false) : PE X (.Compare ea [o.op] [eb] pos) (tE X G CA cf W (.cmp o a b)) :=
  let ⟨_, hr, _⟩ := B.cx.lev; e_cmp hr ha hb hm
theorem y_cmp (B : En sc X nm G CA cf np bl W) (o : CO) {a b : C} {ea eb : Expr} {pos : Pos} (ha : PE X ea (tE X G CA cf W a)) (hb : PE X eb (tE X G CA cf W b)) (hm : behindInMarks o.op eb = false) : PT X (.Compare ea [o.op] [eb] pos) (tT X G CA cf W (.cmp o a b)) :=
  let ⟨_, hr, _⟩ := B.cx.lev; t_cmp hr ha hb hm
theorem x_chn (B : En sc X nm G CA cf np bl W) (o o' : CO) {a b c : C} {ea eb ec : Expr} {pos : Pos} (ha : PE X ea (tE X G CA cf W a)) (hb : PE X eb (tE X G CA cf W b)) (hc : PE X ec (tE X G CA cf W c)) (hm : lastMarks [o.op, o'.op] [eb, ec] = false) : PE X (.Compare ea [o.op, o'.op] [eb, ec] pos) (tE X G CA cf W (.chn o o' a b c)) :=
  let ⟨_, hr, _⟩ := B.cx.lev; e_chn hr ha hb hc hm
theorem y_chn (B : En sc X nm G CA cf np bl W) (o o' : CO) {a b c : C} {ea eb ec : Expr} {pos : Pos} (ha : PE X ea (tE X G CA cf W a)) (hb : PE X eb (tE X G CA cf W b)) (hc : PE X ec (tE X G CA cf W c)) (hm : lastMarks [o.op, o'.op] [eb, ec] = false) : PT X (.Compare ea [o.op, o'.op] [eb, ec] pos) (tT X G CA cf W (.chn o o' a b c)) :=
  let ⟨_, hr, _⟩ := B.cx.lev; t_chn hr ha hb hc hm
theorem x_sub (B : En sc X nm G CA cf np bl W) {a b : C} {ea eb : Expr} {pos : Pos} (ha : PE X ea (tE X G CA cf W a)) (hb : PE X eb (tE X G CA cf W b)) (hs : PlainIx eb) : PE X (.Subscript ea eb pos) (tE X G CA cf W (.sub a b)) :=
  let ⟨_, hr, _⟩ := B.cx.lev; e_sub hr ha hb hs
theorem x_cal (B : En sc X nm G CA cf np bl W) (f n : Nat) {x : Str} {cs : List C} {e : Expr} {es : List Expr} {p pos : Pos} (hf : np f = some n) (hx : x = nm.fn f) (hn : cs.length = n) (h : gloB sc x = true) (hd : dbg x = true) (hs : (e :: es).all noStar = true)
    (ha : PA X (e :: es) (tL X G CA cf W cs)) : PE X (.Call (.Name x p) (e :: es) [] pos) (tE X G CA cf W (.cal f cs)) := e_cal B.cx B.tk hf hx hn (B.gl h) ha (dbg_ok hd).1 hs
theorem x_cal0 (B : En sc X nm G CA cf np bl W) (f : Nat) {x : Str} {p pos : Pos} (hf : np f = some 0) (hx : x = nm.fn f) (h : gloB sc x = true) (hd : dbg x = true) : PE X (.Call (.Name x p) [] [] pos) (tE X G CA cf W (.cal f [])) := e_cal0 B.cx B.tk hf hx rfl (B.gl h) (dbg_ok hd).1
theorem x_bif (B : En sc X nm G CA cf np bl W) (f : Bi) {x : Str} {cs : List C} {e : Expr} {es : List Expr} {p pos : Pos} (hf : biOk f = true) (hx : x = Str.ofString (biS f)) (hb : bl.contains x = true) (h : gloB sc x = true) (hd : dbg x = true) (hs : (e :: es).all noStar = true)
    (ha : PA X (e :: es) (tL X G CA cf W cs)) : PE X (.Call (.Name x p) (e :: es) [] pos) (tE X G CA cf W (.bif f cs)) := e_bif B.cx hf hx (by simpa using hb) (B.gl h) ha (dbg_ok hd).1 (dbg_ok hd).2.2 hs
theorem x_isi (B : En sc X nm G CA cf np bl W) (k : IK) {c : C} {e : Expr} {x : Str} {pp p2 pos : Pos} (hk : ikOk k = true) (hx : x = Str.ofString (ikS k)) (hb : bl.contains x = true) (hi : bl.contains ("isinstance" : Str) = true) (h : gloB sc x = true) (hg : gloB sc "isinstance" = true) (hs : noStar e = true) (hd : dbg x = true)
    (he : PE X e (tE X G CA cf W c)) : PE X (.Call (.Name "isinstance" pp) [e, .Name x p2] [] pos) (tE X G CA cf W (.isi c k)) := e_isi B.cx hk hx (by simpa using hb) (by simpa using hi) (B.gl h) (B.gl hg) he hs (dbg_ok hd).2.2 (dbg_ok hd).1
theorem a_c {c : C} {cs : List C} {e : Expr} {es : List Expr} (hs : noStar e = true) (ha : PE X e (tE X G CA cf W c)) (hr : PA X es (tL X G CA cf W cs)) : PA X (e :: es) (tL X G CA cf W (c :: cs)) := a_cons ha hr (star_cons hs)
theorem r_1 (B : En sc X nm G CA cf np bl W) {tg : Expr} {c : C} {e : Expr} {p pos : Pos} (hr : bl.contains ("range" : Str) = true) (hg : gloB sc "range" = true) (hs : noStar e = true) (h : PE X e (tE X G CA cf W c)) : PI X tg (.Call (.Name "range" p) [e] [] pos) (tI X G CA cf W (.rng [c])) := i_rng1 B.cx (by simpa using hr) (B.gl hg) h hs
theorem r_2 (B : En sc X nm G CA cf np bl W) {tg : Expr} {c c2 : C} {e e2 : Expr} {p pos : Pos} (hr : bl.contains ("range" : Str) = true) (hg : gloB sc "range" = true) (hs : noStar e = true) (hs2 : noStar e2 = true) (h : PE X e (tE X G CA cf W c)) (h2 : PE X e2 (tE X G CA cf W c2)) : PI X tg (.Call (.Name "range" p) [e, e2] [] pos) (tI X G CA cf W (.rng [c, c2])) := i_rng2 B.cx (by simpa using hr) (B.gl hg) h hs h2 hs2
theorem r_enu (B : En sc X nm G CA cf np bl W) {c : C} {e : Expr} {p pos tpos : Pos} {elts : List Expr} {kk : Nat} (hr : bl.contains ("enumerate" : Str) = true) (hg : gloB sc "enumerate" = true) (hs : noStar e = true) (h : PE X e (tE X G CA cf W c)) :
    PI X (.Tuple elts kk tpos) (.Call (.Name "enumerate" p) [e] [] pos) (tI X G CA cf W (.enu c)) := i_enu B.cx (by simpa using hr) (B.gl hg) h hs
/-- a comprehension's names, seen of the text -/
def blkB (N : List Str) (sc scope : Scope) (own : List (Str × Nat)) : Bool :=
  (match scope.kind with | .function => true | _ => false) && scope.names.all (fun y => scope.names.lookup y.1 == some y.2) && own.all (fun p => N[p.2]? == some p.1) &&
  scope.names.all (fun y => !(y.2 == .free) || freB sc y.1) && scope.names.all (fun y => !(y.2 == .local || y.2 == .cell) || (own.map (·.1)).contains y.1 || !N.contains y.1)
theorem blk_ok (B : En sc X nm G CA cf np bl W) {scope : Scope} {own : List (Str × Nat)} (h : blkB nm.N sc scope own = true) : BlkOk X.N X.env.scope scope own := by
  unfold blkB at h
  simp only [Bool.and_eq_true] at h
  obtain ⟨⟨⟨⟨h1, h2⟩, h3⟩, h4⟩, h5⟩ := h
  refine ⟨?_, fun y hy => ?_, fun p hp => ?_, fun y hy e => ?_, fun y hy e => ?_⟩
  · cases e : scope.kind <;> rw [e] at h1 <;> first | rfl | cases h1
  · simpa using List.all_eq_true.mp h2 y hy
  · rw [B.cx.N]; simpa using List.all_eq_true.mp h3 p hp
  · have := List.all_eq_true.mp h4 y hy
    rw [e] at this
    have hf : freB sc y.1 = true := by simpa using this
    unfold freB at hf
    split at hf
    · rename_i z; exact .inl (B.so.cel y.1 z).1
    · rename_i z; exact (B.so.fre y.1 z).symm
    · cases hf
  · have := List.all_eq_true.mp h5 y hy
    have h0 : (y.2 == NameKind.local || y.2 == NameKind.cell) = true := by rcases e with e | e <;> rw [e] <;> rfl
    rw [h0] at this
    simp only [Bool.not_true, Bool.false_or, Bool.or_eq_true, Bool.not_eq_true'] at this
    rcases this with z | z
    · exact .inl (by simpa using z)
    · right; rw [B.cx.N]; intro w; rw [List.contains_iff_mem.mpr w] at z; cases z
/-- [elt for name in iter if ..] -/
theorem x_lc1 (B : En sc X nm G CA cf np bl W) (i : Nat) {x : Str} {it : C} {t : Option C} {e : C} {elt iter : Expr} {ifs : List Expr} {scope : Scope} {pos px : Pos} (hb : blkB nm.N sc scope [(x, i)] = true) (hx : nm.N[i]? = some x) (hl : locB scope x = true) (hs : noSet iter = true)
    (hi : PI X (.Name x px) iter (tI X G CA cf W it)) (ht : ∀ s H c cl fp, En scope (Cx.inn X scope s H c cl fp) nm G CA cf np bl W0 → PTs (Cx.inn X scope s H c cl fp) ifs (tTo (Cx.inn X scope s H c cl fp) G CA cf W0 t))
    (he : ∀ s H c cl fp, En scope (Cx.inn X scope s H c cl fp) nm G CA cf np bl W0 → PE (Cx.inn X scope s H c cl fp) elt (tE (Cx.inn X scope s H c cl fp) G CA cf W0 e)) :
    PE X (.ListComp elt [⟨.Name x px, iter, ifs, 0⟩] scope pos) (tE X G CA cf W (.lc it (.one i) t e)) :=
  e_lc B.cx hi (blk_ok B hb) rfl (fun l z => by cases z) tg_one (fun s H c cl fp => g_one (B.inn).so B.cx.nd (by show X.N[i]? = _; rw [B.cx.N]; exact hx) (loc_or hl)) (fun s H c cl fp => ht s H c cl fp B.inn) (fun s H c cl fp => he s H c cl fp B.inn) hs
theorem x_lcT (B : En sc X nm G CA cf np bl W) (own : List (Str × Nat)) {it : C} {t : Option C} {e : C} {elt iter : Expr} {ifs tes : List Expr} {scope : Scope} {pos px : Pos} {kk : Nat} (hb : blkB nm.N sc scope own = true) (hn : (own.map (·.2)).Nodup) (hT : TgNames scope nm.N tes (own.map (·.2))) (hs : noSet iter = true)
    (hi : PI X (.Tuple tes kk px) iter (tI X G CA cf W it)) (ht : ∀ s H c cl fp, En scope (Cx.inn X scope s H c cl fp) nm G CA cf np bl W0 → PTs (Cx.inn X scope s H c cl fp) ifs (tTo (Cx.inn X scope s H c cl fp) G CA cf W0 t))
    (he : ∀ s H c cl fp, En scope (Cx.inn X scope s H c cl fp) nm G CA cf np bl W0 → PE (Cx.inn X scope s H c cl fp) elt (tE (Cx.inn X scope s H c cl fp) G CA cf W0 e)) :
    PE X (.ListComp elt [⟨.Tuple tes kk px, iter, ifs, 0⟩] scope pos) (tE X G CA cf W (.lc it (.tup (own.map (·.2))) t e)) :=
  e_lc B.cx hi (blk_ok B hb) rfl (fun l z => by cases z; exact hn) (tg_tup hn) (fun s H c cl fp => g_tup (B.inn).so B.cx.nd B.cx.calm (by show TgNames scope X.N tes _; rw [B.cx.N]; exact hT)) (fun s H c cl fp => ht s H c cl fp B.inn) (fun s H c cl fp => he s H c cl fp B.inn) hs
/-! ### statements -/
theorem z_asg (B : En sc X nm G CA cf np bl W) (i : Nat) {x : Str} {c : C} {e : Expr} {p pos : Pos} (hx : nm.N[i]? = some x) (hl : locB sc x = true) (hc : noLc e = true) (he : PE X e (tE X G CA cf W c)) : PS X (.Assign [.Name x p] e pos) (tS X G CA cf W L (.asg i c)) :=
  s_asg B.so B.cx.nd (by rw [B.cx.N]; exact hx) (loc_or hl) he hc
/-- name = [..] where they stand on one line -/
def swB (sc scope : Scope) (y : Str) (py pos : Pos) : Bool := (match sc.kind with | .function => true | _ => false) && (sc.names.lookup y == some .local) && (py.line == pos.line) && !(scope.names.any fun (n, k) => n == y && (k == .local || k == .cell))
theorem z_lc1 (B : En sc X nm G CA cf np bl W) (hk : X.env.scope.kind = .function) (j : Nat) {y : Str} {py spos : Pos} (hy : nm.N[j]? = some y) (i : Nat) {x : Str} {it : C} {t : Option C} {e : C} {elt iter : Expr} {ifs : List Expr} {scope : Scope} {pos px : Pos} (hw : swB sc scope y py pos = true) (hb : blkB nm.N sc scope [(x, i)] = true) (hx : nm.N[i]? = some x) (hl : locB scope x = true) (hs : noSet iter = true)
    (hi : PI X (.Name x px) iter (tI X G CA cf W it)) (ht : ∀ s H c cl fp, En scope (Cx.inn X scope s H c cl fp) nm G CA cf np bl W0 → PTs (Cx.inn X scope s H c cl fp) ifs (tTo (Cx.inn X scope s H c cl fp) G CA cf W0 t))
    (he : ∀ s H c cl fp, En scope (Cx.inn X scope s H c cl fp) nm G CA cf np bl W0 → PE (Cx.inn X scope s H c cl fp) elt (tE (Cx.inn X scope s H c cl fp) G CA cf W0 e)) :
    PS X (.Assign [.Name y py] (.ListComp elt [⟨.Name x px, iter, ifs, 0⟩] scope pos) spos) (tS X G CA cf W L (.asg j (.lc it (.one i) t e))) := by
  unfold swB at hw
  simp only [Bool.and_eq_true, Bool.not_eq_true'] at hw
  obtain ⟨⟨⟨_, w2⟩, w3⟩, w4⟩ := hw
  have hyl : X.env.scope.names.lookup y = some .local := B.so.loc y (by simpa using w2)
  exact asg_of (by rw [B.cx.N]; exact hy) (s_lc B.cx (by rw [B.cx.N]; exact hy) hyl (sw_true hk hyl w3 w4) hi (blk_ok B hb) rfl (fun l z => by cases z) tg_one (fun s H c cl fp => g_one (B.inn).so B.cx.nd (by show X.N[i]? = _; rw [B.cx.N]; exact hx) (loc_or hl)) (fun s H c cl fp => ht s H c cl fp B.inn) (fun s H c cl fp => he s H c cl fp B.inn) hs)
theorem z_lcT (B : En sc X nm G CA cf np bl W) (hk : X.env.scope.kind = .function) (j : Nat) {y : Str} {py spos : Pos} (hy : nm.N[j]? = some y) (own : List (Str × Nat)) {it : C} {t : Option C} {e : C} {elt iter : Expr} {ifs tes : List Expr} {scope : Scope} {pos px : Pos} {kk : Nat} (hw : swB sc scope y py pos = true) (hb : blkB nm.N sc scope own = true) (hn : (own.map (·.2)).Nodup) (hT : TgNames scope nm.N tes (own.map (·.2))) (hs : noSet iter = true)
    (hi : PI X (.Tuple tes kk px) iter (tI X G CA cf W it)) (ht : ∀ s H c cl fp, En scope (Cx.inn X scope s H c cl fp) nm G CA cf np bl W0 → PTs (Cx.inn X scope s H c cl fp) ifs (tTo (Cx.inn X scope s H c cl fp) G CA cf W0 t))
    (he : ∀ s H c cl fp, En scope (Cx.inn X scope s H c cl fp) nm G CA cf np bl W0 → PE (Cx.inn X scope s H c cl fp) elt (tE (Cx.inn X scope s H c cl fp) G CA cf W0 e)) :
    PS X (.Assign [.Name y py] (.ListComp elt [⟨.Tuple tes kk px, iter, ifs, 0⟩] scope pos) spos) (tS X G CA cf W L (.asg j (.lc it (.tup (own.map (·.2))) t e))) := by
  unfold swB at hw
  simp only [Bool.and_eq_true, Bool.not_eq_true'] at hw
  obtain ⟨⟨⟨_, w2⟩, w3⟩, w4⟩ := hw
  have hyl : X.env.scope.names.lookup y = some .local := B.so.loc y (by simpa using w2)
  exact asg_of (by rw [B.cx.N]; exact hy) (s_lc B.cx (by rw [B.cx.N]; exact hy) hyl (sw_true hk hyl w3 w4) hi (blk_ok B hb) rfl (fun l z => by cases z; exact hn) (tg_tup hn) (fun s H c cl fp => g_tup (B.inn).so B.cx.nd B.cx.calm (by show TgNames scope X.N tes _; rw [B.cx.N]; exact hT)) (fun s H c cl fp => ht s H c cl fp B.inn) (fun s H c cl fp => he s H c cl fp B.inn) hs)
theorem z_retv (B : En sc X nm G CA cf np bl W) (i : Nat) {x : Str} {p pos : Pos} (hx : nm.N[i]? = some x) (h : visB sc x = true) (hd : dbg x = true) : PS X (.Return (some (.Name x p)) pos) (tS X G CA cf W L (.retv i)) :=
  s_retv (by rw [B.cx.N]; exact hx) (B.vis h) (dbg_ok hd).1 (dbg_ok hd).2.1
theorem z_app (B : En sc X nm G CA cf np bl W) (i : Nat) {x : Str} {c : C} {e : Expr} {p apos cpos pos : Pos} (hx : nm.N[i]? = some x) (h : visB sc x = true) (hd : dbg x = true) (hs : noStar e = true) (hl : (apos.endLine == cpos.line) = true) (he : PE X e (tE X G CA cf W c)) :
    PS X (.Expr (.Call (.Attribute (.Name x p) "append" apos) [e] [] cpos) pos) (tS X G CA cf W L (.app i c)) := s_app (by rw [B.cx.N]; exact hx) (B.vis h) (dbg_ok hd).1 (dbg_ok hd).2.1 he hs hl
theorem z_for1 (B : En sc X nm G CA cf np bl W) (pas : PassesOwn (model X.prog X.w) X.A X.env X.xe) (i : Nat) {x : Str} {it : C} {iter : Expr} {b : List Stmt} {sa : List S} {px pos : Pos} (hx : nm.N[i]? = some x) (hl : locB sc x = true) (hs : noSet iter = true) (hi : PI X (.Name x px) iter (tI X G CA cf W it)) (ha : ∀ L, PSs X b (tB X G CA cf W L sa)) :
    PS X (.For (.Name x px) iter b [] pos) (tS X G CA cf W L (.for_ (.one i) it sa)) :=
  s_for pas B.cx.calm tg_one (fun j hj => by simp [Tg.is] at hj; subst hj; rw [B.cx.N]; exact (List.getElem?_eq_some_iff.mp hx).1) hi (g_one B.so B.cx.nd (by rw [B.cx.N]; exact hx) (loc_or hl)) ha hs
theorem TgNames.lt {sc : Scope} {N : List Str} {es : List Expr} {is : List Nat} (h : TgNames sc N es is) : ∀ i ∈ is, i < N.length := by
  induction h with
  | nil => simp
  | cons h1 _ _ ih =>
    intro j hj
    rcases List.mem_cons.mp hj with e | hj
    · rw [e]; exact (List.getElem?_eq_some_iff.mp h1).1
    · exact ih j hj
theorem z_forT (B : En sc X nm G CA cf np bl W) (pas : PassesOwn (model X.prog X.w) X.A X.env X.xe) (is : List Nat) {tes : List Expr} {it : C} {iter : Expr} {b : List Stmt} {sa : List S} {px pos : Pos} {kk : Nat} (hn : is.Nodup) (hT : TgNames sc nm.N tes is) (hs : noSet iter = true) (hi : PI X (.Tuple tes kk px) iter (tI X G CA cf W it)) (ha : ∀ L, PSs X b (tB X G CA cf W L sa)) :
    PS X (.For (.Tuple tes kk px) iter b [] pos) (tS X G CA cf W L (.for_ (.tup is) it sa)) := by
  rw [← B.cx.N] at hT
  exact s_for pas B.cx.calm (tg_tup hn) hT.lt hi (g_tup B.so B.cx.nd B.cx.calm hT) ha hs
/-- a, b = e -/
theorem z_asgT (B : En sc X nm G CA cf np bl W) (is : List Nat) {tes : List Expr} {c : C} {e : Expr} {px pos : Pos} {kk : Nat} (hn : is.Nodup) (hT : TgNames sc nm.N tes is) (hl : noLc e = true) (hw : swappedStores [.Tuple tes kk px] e X.env = pure none) (he : PE X e (tE X G CA cf W c)) :
    PS X (.Assign [.Tuple tes kk px] e pos) (tS X G CA cf W L (.asgT is c)) := by
  rw [← B.cx.N] at hT
  exact s_asgT (tg_tup hn) hT.lt he (g_tup B.so B.cx.nd B.cx.calm hT) (no_swap (t := some (.Tuple tes kk px)) (l := pos.line) (env := X.env) hl) hw rfl
end
/-! ### the end -/
section
variable {P : Program} {w : World} {K : PySem.W.Frag} {mg : Str → Option Value} {base : Heap} {T : Tb} {G : Glo} {CA : Nat → Addr} {Pr : Nat → Option Def} {np : Nat → Option Nat} {bl : List Str}
def spLaw (K : PySem.W.Frag) : Sp := fun vs H Q _ => ∃ (a : Addr) (ns : List Int), vs = [.ref a] ∧ SqZ K H a (ns.map V.int) ∧ ns.length ≤ 63 ∧ ∀ H', Q (.bl true) H'
theorem law_ok {k f : Nat} {a : Addr} {fd : FuncData} {ps : List Str} (F : FnOk P w K mg base (L2.CX P w) k a fd ps (spF K CA (run G Pr k) 1 f)) (h : ∀ ns : List Int, ns.length ≤ 63 → ∃ n, run G Pr k f [.scr ns] = .ok (.bl true, n)) : FnOk P w K mg base (L2.CX P w) k a fd ps (spLaw K) :=
  F.imp fun vs H Q E ⟨a, ns, hv, hq, hl, q⟩ => by
    subst hv
    obtain ⟨n, e⟩ := h ns hl
    refine ⟨rfl, [.scr ns], [], ?_, ?_⟩
    · have := Reps.cons (K := K) (CA := CA) (H := H) (n := 0) (.scr hq) .nil
      simpa using this
    · rw [e]
      intro v H' O Z pv
      rw [pv.rep.bl_inv.1]
      exact q H'
theorem sp_end {H : Hp} {a : Addr} {ns : List Int} (hl : ns.length ≤ 63) (hO : Only H) (hS : SqL K H a (ns.map V.int)) : spLaw K [.ref a] H (fun v _ => v = .bl true) fun _ _ _ => False := by
  refine ⟨a, ns, rfl, ?_, hl, fun _ => rfl⟩
  rcases hS with (e | ⟨o, e⟩) | e
  · rcases hO a with z | ⟨o, xs, z⟩
    · rw [z] at e; cases e
    · rw [z] at e; cases e
  · exact .inl ⟨o, e⟩
  · exact .inr fun H' => .inr e
theorem cx_end (H : Hp) (s : Shared) (e : Value) (s' : Shared) (h : L2.CX P w [] H s (fun _ _ _ => False) e s') : False := by
  obtain ⟨_, _, _, _, _, _, _, _, _, _, _, _, z⟩ := h
  exact z
end
end Vy

namespace Vy
open PySem PySem.Spec
open PyProof.Rows hiding St
open L2
inductive NoneAll (mg : Str → Option Value) : List Str → Prop
  | nil : NoneAll mg []
  | cons {x : Str} {xs : List Str} : mg x = none → NoneAll mg xs → NoneAll mg (x :: xs)
theorem NoneAll.all {mg : Str → Option Value} {xs : List Str} (h : NoneAll mg xs) : ∀ x ∈ xs, mg x = none := by
  induction h with
  | nil => simp
  | cons h _ ih =>
    intro y hy
    rcases List.mem_cons.mp hy with e | hy
    · rw [e]; exact h
    · exact ih y hy
section
variable {sc : Scope} {X : Cx} {nm : Nm} {G : Glo} {CA : Nat → Addr} {cf : Nat → List D → Out (D × Nat)} {np : Nat → Option Nat} {bl : List Str} {W : WX} {L : List Nat}
/-- a tuple of texts that the top has written -/
def tupStrs : List Cs → Array Value → Bool
  | ss, its => go ss its.toList
where go : List Cs → List Value → Bool
  | [], [] => true
  | s :: r, .str x _ :: q => x == mkS s && bdB s && go r q
  | _, _ => false
theorem tupStrs_go {K : PySem.W.Frag} {CA : Nat → Addr} {H : Hp} : ∀ {ss : List Cs} {l : List Value}, tupStrs.go ss l = true → Vals (ss.map fun s => V.str (mkS s)) l ∧ Reps K CA H 9 (ss.map D.str) (ss.map fun s => V.str (mkS s)) [] []
  | [], [], _ => ⟨.nil, .nil⟩
  | s :: r, .str x t :: q, h => by
    simp only [tupStrs.go, Bool.and_eq_true] at h
    obtain ⟨⟨h1, h2⟩, h3⟩ := h
    obtain ⟨a, b⟩ := tupStrs_go (K := K) (CA := CA) (H := H) h3
    have e : x = mkS s := by simpa using h1
    refine ⟨.cons ⟨t, by rw [e]⟩ a, ?_⟩
    have := Reps.cons (K := K) (CA := CA) (H := H) (n := 9) (.str (bdB_ok h2)) b
    simpa using this
theorem rep_tup {K : PySem.W.Frag} {CA : Nat → Addr} {H : Hp} {a : Addr} {o : Obj} {its : Array Value} {ss : List Cs} (hl : K.lookup a = some o) (hc : o.cls = .type "tuple") (hd : o.data = .seq its 0) (h : tupStrs ss its = true) (hz : ss.length ≤ 1000) : Rep K CA H 9 (.tup (ss.map D.str)) (.ref a) [] [] := by
  obtain ⟨q1, q2⟩ := tupStrs_go (K := K) (CA := CA) (H := H) h
  exact .tup (.inr ⟨o, its, 0, hl, hc, hd, by
    have := q1.length
    simp at this
    rw [SZ_eq]; unfold SZ; omega, q1⟩) q2
end
theorem same_fn {mg : Str → Option Value} {x : Str} {a b : Addr} (h1 : mg x = some (.ref a)) (h2 : mg x = some (.ref b)) : a = b := by rw [h1] at h2; cases h2; rfl
end Vy

namespace Vy
/-! ## the language, for simp -/
section
variable (G : Glo) (cf : Nat → List D → Out (D × Nat)) (ρ : Env)
@[simp] theorem ev_cst (d : D) : ev G cf ρ (.cst d) = .ok (d, 9) := by rw [ev]
@[simp] theorem ev_var (i : Nat) : ev G cf ρ (.var i) = .of ((ρ[i]?).bind id |>.map fun p => (p.1, 0)) := by rw [ev]
@[simp] theorem ev_glb (g : Nat) : ev G cf ρ (.glb g) = .of ((G.gv g).map fun d => (d, 9)) := by rw [ev]
@[simp] theorem ev_bin (o : BO) (a b : C) : ev G cf ρ (.bin o a b) = (ev G cf ρ a).bind fun x => (ev G cf ρ b).bind fun y => .of (binD o x y) := by rw [ev]
@[simp] theorem ev_cmp (o : CO) (a b : C) : ev G cf ρ (.cmp o a b) = (ev G cf ρ a).bind fun x => (ev G cf ρ b).bind fun y => (Out.of (cmpD o x.1 y.1)).bind fun r => .ok (.bl r, 9) := by rw [ev]
@[simp] theorem ev_chn (o p : CO) (a b c : C) : ev G cf ρ (.chn o p a b c) = (ev G cf ρ a).bind fun x => (ev G cf ρ b).bind fun y => (Out.of (cmpD o x.1 y.1)).bind fun r => if r = true then (ev G cf ρ c).bind fun z => (Out.of (cmpD p y.1 z.1)).bind fun q => .ok (.bl q, 9) else .ok (.bl false, 9) := by rw [ev]
@[simp] theorem ev_not (a : C) : ev G cf ρ (.not a) = (ev G cf ρ a).bind fun x => (Out.of (truth x.1)).bind fun b => .ok (.bl (!b), 9) := by rw [ev]
@[simp] theorem ev_neg (a : C) : ev G cf ρ (.neg a) = (ev G cf ρ a).bind fun x => match x.1 with | .int i => .ok (.int (-i), 9) | _ => .bad := by rw [ev] <;> rfl
@[simp] theorem ev_and (a b : C) : ev G cf ρ (.and a b) = (ev G cf ρ a).bind fun x => (Out.of (truth x.1)).bind fun r => if r = true then ev G cf ρ b else .ok x := by rw [ev]
@[simp] theorem ev_or (a b : C) : ev G cf ρ (.or a b) = (ev G cf ρ a).bind fun x => (Out.of (truth x.1)).bind fun r => if r = true then .ok x else ev G cf ρ b := by rw [ev]
@[simp] theorem ev_ife (t a b : C) : ev G cf ρ (.ife t a b) = (ev G cf ρ t).bind fun x => (Out.of (truth x.1)).bind fun r => if r = true then ev G cf ρ a else ev G cf ρ b := by rw [ev]
@[simp] theorem ev_tup (es : List C) : ev G cf ρ (.tup es) = (evs G cf ρ es).bind fun ps => gd (ps.length ≤ SZ) (.ok (.tup (ps.map (·.1)), lvL ps)) := by rw [ev]
@[simp] theorem ev_lst (es : List C) : ev G cf ρ (.lst es) = (evs G cf ρ es).bind fun ps => gd (ps.length ≤ SZ) (.ok (.lst (ps.map (·.1)), lvL ps + 1)) := by rw [ev]
@[simp] theorem ev_dct (ks es : List C) : ev G cf ρ (.dct ks es) = (evs G cf ρ es).bind fun ps => .of (dispD ps) := by rw [ev]
@[simp] theorem ev_sub (a i : C) : ev G cf ρ (.sub a i) = (ev G cf ρ a).bind fun x => (ev G cf ρ i).bind fun y => .of (subD x.1 y.1) := by rw [ev]
@[simp] theorem ev_slc (a : C) (lo hi : Option C) : ev G cf ρ (.slc a lo hi) = (ev G cf ρ a).bind fun x => (evo G cf ρ lo).bind fun l => (evo G cf ρ hi).bind fun h => .of (slcD x.1 l h) := by rw [ev]
@[simp] theorem ev_cal (f : Nat) (es : List C) : ev G cf ρ (.cal f es) = (evs G cf ρ es).bind fun ps => cf f (ps.map (·.1)) := by rw [ev]
@[simp] theorem ev_bif (f : Bi) (es : List C) : ev G cf ρ (.bif f es) = (evs G cf ρ es).bind fun ps => .of (bifD f ps) := by rw [ev]
@[simp] theorem ev_mth (m : Me) (o : C) (es : List C) : ev G cf ρ (.mth m o es) = (ev G cf ρ o).bind fun x => gd (recvOk m x.1 = true) ((evs G cf ρ es).bind fun ps => .of (methD m x ps)) := by rw [ev]
@[simp] theorem ev_isi (a : C) (k : IK) : ev G cf ρ (.isi a k) = (ev G cf ρ a).bind fun x => gd (isiOk x.1 k = true) (.ok (.bl (isaD G.cm x.1 k), 9)) := by rw [ev]
@[simp] theorem ev_lc (it : C) (tg : Tg) (t : Option C) (e : C) : ev G cf ρ (.lc it tg t e) = (ev G cf ρ it).bind fun x => (Out.of (itemsOf x.1)).bind fun xs => (compL (turnF G cf ρ tg t e) xs).bind fun ps => .ok (.lst (ps.map (·.1)), lvL ps + 1) := by rw [ev] <;> rfl
@[simp] theorem ev_rng (es : List C) : ev G cf ρ (.rng es) = (evs G cf ρ es).bind fun ps => (rngD (ps.map (·.1))).bind fun xs => .ok (.lst xs, 9) := by rw [ev]
@[simp] theorem ev_enu (e : C) : ev G cf ρ (.enu e) = (ev G cf ρ e).bind fun x => .of ((lsqOf x.1).map fun xs => (.lst (enumD xs), x.2)) := by rw [ev]
@[simp] theorem evs_nil : evs G cf ρ [] = .ok [] := by rw [evs]
@[simp] theorem evs_cons (e : C) (es : List C) : evs G cf ρ (e :: es) = (ev G cf ρ e).bind fun x => (evs G cf ρ es).bind fun xs => .ok (x :: xs) := by rw [evs]
@[simp] theorem evo_none : evo G cf ρ none = .ok none := by rw [evo]
@[simp] theorem evo_some (e : C) : evo G cf ρ (some e) = (ev G cf ρ e).bind fun x => match x.1 with | .int i => .ok (some i) | _ => .bad := by rw [evo] <;> rfl
@[simp] theorem evt_none : evt G cf ρ none = .ok true := by rw [evt]
@[simp] theorem evt_some (e : C) : evt G cf ρ (some e) = (ev G cf ρ e).bind fun x => .of (truth x.1) := by rw [evt]
@[simp] theorem evB_eq (e : C) : evB G cf ρ e = (ev G cf ρ e).bind fun x => .of (truth x.1) := id rfl
variable (L : List Nat)
@[simp] theorem exB_nil : exB G cf L ρ [] = .nx ρ := by rw [exB]
/-- on to the next statement -/
theorem exB_cons (s : S) (r : List S) : exB G cf L ρ (s :: r) = match exS G cf L ρ s with | .nx ρ' => exB G cf L ρ' r | o => o := by rw [exB] <;> rfl
def thenB (o : OS) (f : Env → OS) : OS := match o with | .nx ρ => f ρ | o => o
@[simp] theorem thenB_nx (f : Env → OS) : thenB (.nx ρ) f = f ρ := id rfl
@[simp] theorem thenB_rt (p : D × Nat) (f : Env → OS) : thenB (.rt p) f = .rt p := id rfl
@[simp] theorem thenB_exc (e : Exn) (f : Env → OS) : thenB (.exc e ρ) f = .exc e ρ := id rfl
@[simp] theorem thenB_bad (f : Env → OS) : thenB .bad f = .bad := id rfl
@[simp] theorem exB_cons' (s : S) (r : List S) : exB G cf L ρ (s :: r) = thenB (exS G cf L ρ s) fun ρ' => exB G cf L ρ' r := by rw [exB] <;> rfl
theorem exB_app : ∀ (a b : List S) (ρ : Env), exB G cf L ρ (a ++ b) = thenB (exB G cf L ρ a) fun ρ' => exB G cf L ρ' b
  | [], b, ρ => by simp
  | s :: r, b, ρ => by
    rw [List.cons_append, exB_cons', exB_cons']
    cases exS G cf L ρ s with
    | nx ρ' => simp only [thenB_nx]; rw [exB_app r b]
    | _ => rfl
/-- the first i statements, then the others -/
theorem exB_at (i : Nat) (b : List S) (ρ : Env) {ρ' : Env} (h : exB G cf L ρ (b.take i) = .nx ρ') : exB G cf L ρ b = exB G cf L ρ' (b.drop i) := by
  have := exB_app G cf L (b.take i) (b.drop i) ρ
  rw [List.take_append_drop] at this
  rw [this, h]; rfl
@[simp] theorem exS_pass : exS G cf L ρ .pass = .nx ρ := by rw [exS]
@[simp] theorem exS_asg (i : Nat) (e : C) : exS G cf L ρ (.asg i e) = onE (ev G cf ρ e) ρ fun p => .nx (bindV ρ i p (names e)) := by rw [exS]
@[simp] theorem exS_asgT (is : List Nat) (e : C) : exS G cf L ρ (.asgT is e) = onE (ev G cf ρ e) ρ fun p => putS (if full p = true then ρ else frz ρ (names e)) (.tup is) p.1 .nx := by rw [exS]
@[simp] theorem exS_exp (e : C) : exS G cf L ρ (.exp e) = onE (ev G cf ρ e) ρ fun _ => .nx ρ := by rw [exS]
@[simp] theorem exS_ret (e : C) : exS G cf L ρ (.ret e) = onE (ev G cf ρ e) ρ fun p => .rt p := by rw [exS]
@[simp] theorem exS_retv (i : Nat) : exS G cf L ρ (.retv i) = match (ρ[i]?).bind id with | some p => .rt p | none => .bad := by rw [exS] <;> rfl
@[simp] theorem exS_retN : exS G cf L ρ .retN = .rt (.non, 9) := by rw [exS]
@[simp] theorem exS_ife (t : C) (a b : List S) : exS G cf L ρ (.ife t a b) = onE (evB G cf ρ t) ρ fun c => if c = true then exB G cf L ρ a else exB G cf L ρ b := by rw [exS]
@[simp] theorem exS_whl (n : Nat) (t : C) (b : List S) : exS G cf L ρ (.whl n t b) = whileL (fun ρ => evB G cf ρ t) (fun ρ => exB G cf L ρ b) n ρ := by rw [exS]
/-- a for's turns -/
def forS (tg : Tg) (it : C) (b : List S) (p : D × Nat) : OS := match itemsOf p.1 with
  | none => .bad
  | some xs => if full p = true then forL (fun ρ d => putS ρ tg d fun ρ => exB G cf L ρ b) xs ρ
    else forL (fun ρ d => putS ρ tg d fun ρ => exB G cf (names it ++ L) ρ b) xs (if mdepL xs = 0 then ρ else frz ρ (names it))
theorem exS_for (tg : Tg) (it : C) (b : List S) : exS G cf L ρ (.for_ tg it b) = onE (ev G cf ρ it) ρ (forS G cf ρ L tg it b) := by rw [exS] <;> rfl
@[simp] theorem exS_par (i j : Nat) (a b : C) : exS G cf L ρ (.par i j a b) = onE (evs G cf ρ [a, b]) ρ fun ps => parD ρ i j ps (namesL [a, b]) := by rw [exS]
@[simp] theorem exS_app (i : Nat) (e : C) : exS G cf L ρ (.app i e) = match (ρ[i]?).bind id with
    | some (.lst _, _) => onE (ev G cf ρ e) ρ fun p => appD L ρ i p (names e)
    | _ => .bad := by rw [exS] <;> rfl
end
@[simp] theorem outS_nx (ρ : Env) : outS (.nx ρ) = .ok (.non, 9) := id rfl
@[simp] theorem outS_rt (p : D × Nat) : outS (.rt p) = .ok p := id rfl
@[simp] theorem outS_exc (e : Exn) (ρ : Env) : outS (.exc e ρ) = .exc e := id rfl
@[simp] theorem outS_bad : outS .bad = .bad := id rfl
theorem run_eq (G : Glo) (P : Nat → Option Def) (k f : Nat) (ds : List D) (d : Def) (h : P f = some d) (hl : ds.length = d.np) : run G P (k + 1) f ds = outS (exB G (run G P k) [] (initE d.nl ds) d.b) := by
  rw [run, h]; simp only; rw [if_pos hl]
/-! ### values -/
@[simp] theorem go_true {α : Type} (x : Option α) : go True x = x := by simp [go]
@[simp] theorem go_false {α : Type} (x : Option α) : go False x = none := by simp [go]
@[simp] theorem gd_true {α : Type} (x : Out α) : gd True x = x := by simp [gd]
@[simp] theorem gd_false {α : Type} (x : Out α) : gd False x = .bad := by simp [gd]
@[simp] theorem truth_bl (b : Bool) : truth (.bl b) = some b := id rfl
@[simp] theorem truth_non : truth .non = some false := id rfl
@[simp] theorem truth_int (i : Int) : truth (.int i) = some (i != 0) := id rfl
@[simp] theorem truth_lst (xs : List D) : truth (.lst xs) = some (!xs.isEmpty) := id rfl
@[simp] theorem truth_tup (xs : List D) : truth (.tup xs) = some (!xs.isEmpty) := id rfl
@[simp] theorem norm_str (s : Cs) (n : Nat) : norm (.str s, n) = (.str s, 9) := by simp [norm, D.mdep]
@[simp] theorem norm_int (i : Int) (n : Nat) : norm (.int i, n) = (.int i, 9) := by simp [norm, D.mdep]
@[simp] theorem norm_bl (b : Bool) (n : Nat) : norm (.bl b, n) = (.bl b, 9) := by simp [norm, D.mdep]
@[simp] theorem norm_non (n : Nat) : norm (.non, n) = (.non, 9) := by simp [norm, D.mdep]
@[simp] theorem norm_scr (ns : List Int) (n : Nat) : norm (.scr ns, n) = (.scr ns, 9) := by simp [norm, D.mdep]
@[simp] theorem norm_lst (xs : List D) (n : Nat) : norm (.lst xs, n) = (.lst xs, n) := by simp [norm, D.mdep]
@[simp] theorem norm_dct (ks xs : List D) (n : Nat) : norm (.dct ks xs, n) = (.dct ks xs, n) := by simp [norm, D.mdep]
@[simp] theorem full_str (s : Cs) (n : Nat) : full (.str s, n) = true := by simp [full, D.mdep]
@[simp] theorem full_int (i : Int) (n : Nat) : full (.int i, n) = true := by simp [full, D.mdep]
@[simp] theorem full_bl (b : Bool) (n : Nat) : full (.bl b, n) = true := by simp [full, D.mdep]
@[simp] theorem full_non (n : Nat) : full (.non, n) = true := by simp [full, D.mdep]
@[simp] theorem full_scr (ns : List Int) (n : Nat) : full (.scr ns, n) = true := by simp [full, D.mdep]
theorem bind_full {ρ : Env} {i : Nat} {p : D × Nat} {ns : List Nat} (h : full p = true) : bindV ρ i p ns = setV ρ i p := by unfold bindV; rw [if_pos h]
@[simp] theorem bind_str (ρ : Env) (i : Nat) (s : Cs) (n : Nat) (ns : List Nat) : bindV ρ i (.str s, n) ns = ρ.set i (some (.str s, 9)) := by rw [bind_full (by simp)]; simp [setV]
@[simp] theorem bind_int (ρ : Env) (i : Nat) (s : Int) (n : Nat) (ns : List Nat) : bindV ρ i (.int s, n) ns = ρ.set i (some (.int s, 9)) := by rw [bind_full (by simp)]; simp [setV]
@[simp] theorem bind_bl (ρ : Env) (i : Nat) (s : Bool) (n : Nat) (ns : List Nat) : bindV ρ i (.bl s, n) ns = ρ.set i (some (.bl s, 9)) := by rw [bind_full (by simp)]; simp [setV]
@[simp] theorem bind_non (ρ : Env) (i : Nat) (n : Nat) (ns : List Nat) : bindV ρ i (.non, n) ns = ρ.set i (some (.non, 9)) := by rw [bind_full (by simp)]; simp [setV]
@[simp] theorem put_str (ρ : Env) (i : Nat) (s : Cs) : Tg.put ρ (.one i) (.str s) = .ok (ρ.set i (some (.str s, 9))) := by simp [Tg.put, setV]
@[simp] theorem put_int (ρ : Env) (i : Nat) (s : Int) : Tg.put ρ (.one i) (.int s) = .ok (ρ.set i (some (.int s, 9))) := by simp [Tg.put, setV]
@[simp] theorem initE_eq (nl : Nat) (ds : List D) : initE nl ds = ds.map (fun d => some (norm (d, 0))) ++ List.replicate (nl - ds.length) none := id rfl
@[simp] theorem add_int (i j : Int) (m n : Nat) : binD .add (.int i, m) (.int j, n) = some (.int (i + j), 9) := id rfl
@[simp] theorem sub_int (i j : Int) (m n : Nat) : binD .sub (.int i, m) (.int j, n) = some (.int (i - j), 9) := id rfl
theorem mul_int {i j : Int} {m n : Nat} (h : mulOk i j) : binD .mul (.int i, m) (.int j, n) = some (.int (i * j), 9) := go_pos h
theorem mod_int {i j : Int} {m n : Nat} (h : 0 < j) : binD .mod (.int i, m) (.int j, n) = some (.int (i % j), 9) := by
  show go (j ≠ 0) _ = _
  rw [go_pos (by omega), Int.fmod_eq_emod_of_nonneg _ (by omega)]
theorem fdv_int {i j : Int} {m n : Nat} (h : 0 < j) (h2 : j < 1073741824) : binD .fdv (.int i, m) (.int j, n) = some (.int (i / j), 9) := by
  show go (j ≠ 0 ∧ _) _ = _
  rw [go_pos (by omega), Int.fdiv_eq_ediv_of_nonneg _ (by omega)]
theorem add_str {s t : Cs} {m n : Nat} (h : s.length + t.length ≤ SZ) : binD .add (.str s, m) (.str t, n) = some (.str (s ++ t), 9) := go_pos h
@[simp] theorem lt_int (i j : Int) : cmpD .lt (.int i) (.int j) = some (decide (i < j)) := id rfl
@[simp] theorem le_int (i j : Int) : cmpD .le (.int i) (.int j) = some (decide (i ≤ j)) := id rfl
@[simp] theorem gt_int (i j : Int) : cmpD .gt (.int i) (.int j) = some (decide (j < i)) := id rfl
@[simp] theorem ge_int (i j : Int) : cmpD .ge (.int i) (.int j) = some (decide (j ≤ i)) := id rfl
@[simp] theorem eq_int (i j : Int) : cmpD .eq (.int i) (.int j) = some (i == j) := by simp [cmpD, eqOk, pyEq, D.dep]
@[simp] theorem ne_int (i j : Int) : cmpD .ne (.int i) (.int j) = some (!(i == j)) := by simp [cmpD, eqOk, pyEq, D.dep]
@[simp] theorem eq_str (i j : Cs) : cmpD .eq (.str i) (.str j) = some (i == j) := by simp [cmpD, eqOk, pyEq, D.dep]
@[simp] theorem ne_str (i j : Cs) : cmpD .ne (.str i) (.str j) = some (!(i == j)) := by simp [cmpD, eqOk, pyEq, D.dep]
@[simp] theorem eq_bl (i j : Bool) : cmpD .eq (.bl i) (.bl j) = some (i == j) := by simp [cmpD, eqOk, pyEq, D.dep]
@[simp] theorem ne_bl (i j : Bool) : cmpD .ne (.bl i) (.bl j) = some (!(i == j)) := by simp [cmpD, eqOk, pyEq, D.dep]
@[simp] theorem lt_str (i j : Cs) : cmpD .lt (.str i) (.str j) = some (decide (i < j)) := id rfl
@[simp] theorem le_str (i j : Cs) : cmpD .le (.str i) (.str j) = some (!decide (j < i)) := id rfl
@[simp] theorem len_scr (ns : List Int) (n : Nat) : bifD .len [(.scr ns, n)] = some (.int ns.length, 9) := id rfl
@[simp] theorem len_lst (ns : List D) (n : Nat) : bifD .len [(.lst ns, n)] = some (.int ns.length, 9) := id rfl
@[simp] theorem len_tup (ns : List D) (n : Nat) : bifD .len [(.tup ns, n)] = some (.int ns.length, 9) := id rfl
theorem len_str {s : Cs} {n : Nat} (h : s.length ≤ SZ) : bifD .len [(.str s, n)] = some (.int s.length, 9) := go_pos h
@[simp] theorem ord_str (c n : Nat) : bifD .ord [(.str [c], n)] = some (.int c, 9) := id rfl
theorem sub_scr {ns : List Int} {i : Int} (h0 : 0 ≤ i) (h : i < ns.length) : subD (.scr ns) (.int i) = some (.int (ns.getD i.toNat 0), 9) := by
  have : i.toNat < ns.length := by omega
  simp [subD, at?, ix, h0, h, this]
theorem sub_str {s : Cs} {i : Int} (hl : s.length ≤ SZ) (h0 : 0 ≤ i) (h : i < s.length) : subD (.str s) (.int i) = some (.str [s.getD i.toNat 0], 9) := by
  have : i.toNat < s.length := by omega
  simp [subD, at?, ix, h0, h, this, go, hl]
@[simp] theorem lt1 (a b : Nat) : (([a] : Cs) < [b]) ↔ a < b := by
  rw [List.cons_lt_cons_iff]
  simp
@[simp] theorem le1 (a b : Nat) : (([a] : Cs) ≤ [b]) ↔ a ≤ b := by
  rw [← List.not_lt, lt1]; omega
@[simp] theorem castBeq (a b : Nat) : (((a : Nat) : Int) == ((b : Nat) : Int)) = (a == b) := by
  rw [Bool.eq_iff_iff, beq_iff_eq, beq_iff_eq]
  omega
theorem compL_map {f : D → Out (Option (D × Nat))} {h : D → D × Nat} : ∀ {xs : List D}, (∀ x ∈ xs, f x = .ok (some (h x))) → xs.length ≤ SZ → compL f xs = .ok (xs.map h)
  | [], _, _ => rfl
  | x :: xs, hf, hl => by
    rw [compL, hf x (by simp)]
    simp only
    rw [compL_map (fun y hy => hf y (by simp [hy])) (by simp at hl; omega)]
    simp only [Out.bind_ok, List.length_map]
    rw [gd_pos (by simpa using hl)]
    rfl
theorem compL_mp {α : Type} {f : D → Out (Option (D × Nat))} {g : α → D} {h : α → D × Nat} {l : List α} (hf : ∀ a ∈ l, f (g a) = .ok (some (h a))) (hl : l.length ≤ SZ) : compL f (l.map g) = .ok (l.map h) := by
  induction l with
  | nil => rfl
  | cons a l ih =>
    rw [List.map_cons, compL, hf a (by simp)]
    simp only
    rw [ih (fun b hb => hf b (by simp [hb])) (by simp at hl; omega)]
    simp only [Out.bind_ok, List.length_map]
    rw [gd_pos (by simpa using hl)]
    rfl
theorem strsOf_map (l : List Cs) : strsOf (l.map D.str) = some l := by
  induction l with
  | nil => rfl
  | cons s r ih => rw [List.map_cons, strsOf, ih]; rfl
theorem boolsOf_map (l : List Bool) : boolsOf (l.map D.bl) = some l := by
  induction l with
  | nil => rfl
  | cons s r ih => rw [List.map_cons, boolsOf, ih]; rfl
@[simp] theorem all_mp {α : Type} (p : α → Bool) (l : List α) (n : Nat) : bifD .all [(.lst (l.map fun a => D.bl (p a)), n)] = some (.bl (l.all p), 9) := by
  have : boolsOf (l.map fun a => D.bl (p a)) = some (l.map p) := by
    have := boolsOf_map (l.map p)
    rwa [List.map_map] at this
  simp only [bifD, this]
  simp
theorem joinL_nil : ∀ l : List Cs, TL.joinL [] l = l.flatten
  | [] => rfl
  | [p] => by simp [TL.joinL]
  | p :: q :: r => by
    show p ++ ([] ++ TL.joinL [] (q :: r)) = _
    rw [joinL_nil (q :: r)]; simp
theorem join_ok {s : Cs} {l : List Cs} {m n : Nat} (h : (l.map (·.length)).sum + l.length * s.length ≤ SZ) : methD .join (.str s, m) [(.lst (l.map D.str), n)] = some (.str (TL.joinL s l), 9) := by
  simp only [methD, seqOf, Option.bind_some, strsOf_map]
  rw [if_pos h]
theorem slc_to {s : Cs} {i : Int} (hl : s.length ≤ SZ) (h : 0 ≤ i) : slcD (.str s) none (some i) = some (.str (s.take i.toNat), 9) := by
  have : (sx s.length s.length (some i)) = min i.toNat s.length := by simp [sx, h]
  simp only [slcD, go_pos hl, cut, this]
  simp [sx, List.take_eq_take_iff]
theorem slc_from {s : Cs} {i : Int} (hl : s.length ≤ SZ) (h : 0 ≤ i) : slcD (.str s) (some i) none = some (.str (s.drop i.toNat), 9) := by
  have : (sx s.length 0 (some i)) = min i.toNat s.length := by simp [sx, h]
  simp only [slcD, go_pos hl, cut, this]
  have e : s.drop (min i.toNat s.length) = s.drop i.toNat := by
    by_cases hh : i.toNat ≤ s.length
    · rw [Nat.min_eq_left hh]
    · rw [Nat.min_eq_right (by omega), List.drop_length, List.drop_of_length_le (by omega)]
  rw [e, show sx s.length s.length none = s.length from rfl]
  rw [List.take_of_length_le (by rw [List.length_drop]; omega)]
theorem rng_nat {n : Nat} (h : n ≤ 1000000) : rngD [.int (n : Int)] = .ok ((List.range n).map fun (j : Nat) => D.int (j : Int)) := by
  simp only [rngD]
  rw [gd_pos (by omega)]
  simp [rangeD]
theorem flat1 {α β : Type} (f : α → β) (l : List α) : (l.map fun j => [f j]).flatten = l.map f := by
  induction l with
  | nil => rfl
  | cons a l ih => simp [ih]
/-- the signs of a row, as a text -/
theorem join1 {α : Type} (f : α → Nat) (l : List α) (m n : Nat) (h : l.length ≤ 1000000) : methD .join (.str [], m) [(.lst (l.map fun j => D.str [f j]), n)] = some (.str (l.map f), 9) := by
  have e := join_ok (s := []) (l := l.map fun j => [f j]) (m := m) (n := n) ?_
  · rw [List.map_map] at e
    rw [show (D.str ∘ fun j => [f j]) = fun j => D.str [f j] from rfl] at e
    rw [e, joinL_nil, flat1]
  · rw [List.map_map, show ((fun x : Cs => x.length) ∘ fun j => [f j]) = fun _ => 1 from rfl]
    rw [List.map_const', List.sum_replicate_nat]
    simp only [List.length_map, List.length_nil]
    unfold SZ
    omega
theorem dec_cast {p q : Prop} [Decidable p] [Decidable q] (h : p ↔ q) : decide p = decide q := decide_eq_decide.mpr h
theorem sub_lst {xs : List D} {i : Int} {d : D} (h0 : 0 ≤ i) (h : xs[i.toNat]? = some d) : subD (.lst xs) (.int i) = some (d, 0) := by
  have hl : i.toNat < xs.length := (List.getElem?_eq_some_iff.mp h).1
  have : i < xs.length := by omega
  simp only [subD, at?, ix, h0, this, if_true, Option.bind_some, h, Option.map_some]
theorem sub_tup {xs : List D} {i : Int} {d : D} (h0 : 0 ≤ i) (h : xs[i.toNat]? = some d) : subD (.tup xs) (.int i) = some (d, 0) := by
  have hl : i.toNat < xs.length := (List.getElem?_eq_some_iff.mp h).1
  have : i < xs.length := by omega
  simp only [subD, at?, ix, h0, this, if_true, Option.bind_some, h, Option.map_some]
/-- a comprehension whose values are known to be there -/
theorem compL_ex {α : Type} {f : D → Out (Option (D × Nat))} {g : α → D} {P : α → D × Nat → Prop} : ∀ {l : List α}, (∀ a ∈ l, ∃ y, f (g a) = .ok (some y) ∧ P a y) → l.length ≤ SZ → ∃ h : List (D × Nat), compL f (l.map g) = .ok h ∧ h.length = l.length ∧ ∀ (i : Nat) (a : α) (y : D × Nat), l[i]? = some a → h[i]? = some y → P a y
  | [], _, _ => ⟨[], rfl, rfl, by simp⟩
  | a :: l, hf, hl => by
    obtain ⟨y, h1, h2⟩ := hf a (by simp)
    obtain ⟨h, h3, h4, h5⟩ := compL_ex (l := l) (fun b hb => hf b (by simp [hb])) (by simp at hl; omega)
    refine ⟨y :: h, ?_, by simp [h4], fun i b z hb hz => ?_⟩
    · rw [List.map_cons, compL, h1]
      simp only
      rw [h3]
      simp only [Out.bind_ok]
      rw [gd_pos (by rw [h4]; simpa using hl)]
    · cases i with
      | zero => simp at hb hz; subst hb; subst hz; exact h2
      | succ i => exact h5 i b z (by simpa using hb) (by simpa using hz)
/-- with a test: some are kept -/
theorem compL_if {α : Type} {f : D → Out (Option (D × Nat))} {g : α → D} {p : α → Bool} {h : α → D × Nat} {l : List α} (hf : ∀ a ∈ l, f (g a) = .ok (if p a = true then some (h a) else none)) (hl : l.length ≤ SZ) : compL f (l.map g) = .ok ((l.filter p).map h) := by
  induction l with
  | nil => rfl
  | cons a l ih =>
    have ih := ih (fun b hb => hf b (by simp [hb])) (by simp at hl; omega)
    rw [List.map_cons, compL, hf a (by simp)]
    cases hp : p a with
    | true =>
      simp only [if_true]
      rw [ih]
      simp only [Out.bind_ok, List.length_map]
      rw [gd_pos (by have := List.length_filter_le p l; simp at hl; omega), List.filter_cons_of_pos hp]
      rfl
    | false =>
      simp only [Bool.false_eq_true, if_false]
      rw [ih, List.filter_cons_of_neg (by simp [hp])]
theorem forL_inv {f : Env → D → OS} {I : Env → Prop} : ∀ {xs : List D}, (∀ x ∈ xs, ∀ ρ, I ρ → ∃ ρ', f ρ x = .nx ρ' ∧ I ρ') → ∀ ρ, I ρ → ∃ ρ', forL f xs ρ = .nx ρ' ∧ I ρ'
  | [], _, ρ, h => ⟨ρ, rfl, h⟩
  | x :: xs, hf, ρ, h => by
    obtain ⟨ρ1, h1, h2⟩ := hf x (by simp) ρ h
    obtain ⟨ρ2, h3, h4⟩ := forL_inv (xs := xs) (fun y hy => hf y (by simp [hy])) ρ1 h2
    exact ⟨ρ2, by rw [forL, h1]; exact h3, h4⟩
theorem split_ok {s p : Cs} {m n : Nat} (h1 : p ≠ []) (h2 : p.all (· < 256) = true) (h3 : s.length + 2 ≤ SZ) : methD .split (.str s, m) [(.str p, n)] = some (.lst ((TL.spl p 0 [] s).map .str), 9) := go_pos ⟨h1, h2, h3⟩
theorem part_ok {s p : Cs} {m n : Nat} (h1 : p ≠ []) (h3 : s.length ≤ SZ) : methD .partition (.str s, m) [(.str p, n)] = (match TL.par p [] s with
    | some (a, b) => some (.tup [.str a, .str p, .str b], 9)
    | none => some (.tup [.str s, .str [], .str []], 9)) := go_pos ⟨h1, h3⟩
/-- one sign in a text -/
theorem findC1 (c : Nat) : ∀ (t : Cs) (k : Nat), (findC [c] k t).isSome = t.contains c
  | [], k => by simp [findC]
  | d :: t, k => by
    rw [findC]
    by_cases h : c = d
    · subst h; simp [List.isPrefixOf]
    · have h' : ¬ d = c := fun e => h e.symm
      have : ([c] : Cs).isPrefixOf (d :: t) = false := by simp [List.isPrefixOf, h]
      rw [this]
      simp only [Bool.false_eq_true, if_false]
      rw [findC1 c t (k + 1)]
      simp [h, h']
theorem in_str1 (c : Nat) (t : Cs) : cmpD .isin (.str [c]) (.str t) = some (t.contains c) := by
  simp only [cmpD, inD]
  rw [findC1]
theorem eqOkL_strs (l : List Cs) : eqOkL (l.map D.str) = true := by
  induction l with
  | nil => rfl
  | cons s r ih => rw [List.map_cons, eqOkL, ih]; rfl
theorem any_strs (s : Cs) (l : List Cs) : (l.map D.str).any (fun y => pyEq y (.str s)) = l.contains s := by
  induction l with
  | nil => rfl
  | cons t r ih =>
    rw [List.map_cons, List.any_cons, ih, List.contains_cons]
    congr 1
    show (t == s) = (s == t)
    rw [Bool.eq_iff_iff, beq_iff_eq, beq_iff_eq]
    exact eq_comm
theorem in_strs (s : Cs) (l : List Cs) : cmpD .isin (.str s) (.lst (l.map D.str)) = some (l.contains s) := by
  simp only [cmpD, inD]
  rw [go_pos ⟨rfl, eqOkL_strs l, by rw [show (D.str s).dep = 0 from rfl]; omega⟩, any_strs]
theorem notin_tup (s : Cs) (l : List Cs) : cmpD .notin (.str s) (.tup (l.map D.str)) = some (!l.contains s) := by
  simp only [cmpD, inD]
  rw [go_pos ⟨rfl, eqOkL_strs l, by rw [show (D.str s).dep = 0 from rfl]; omega⟩, any_strs]
  rfl
@[simp] theorem mdepL_nil : mdepL [] = 0 := by rw [mdepL]
@[simp] theorem mdepL_cons (d : D) (r : List D) : mdepL (d :: r) = max d.mdep (mdepL r) := by rw [mdepL]
@[simp] theorem mdep_non : D.mdep .non = 0 := by rw [D.mdep] <;> simp
@[simp] theorem mdep_bl (b : Bool) : D.mdep (.bl b) = 0 := by rw [D.mdep] <;> simp
@[simp] theorem mdep_int (b : Int) : D.mdep (.int b) = 0 := by rw [D.mdep] <;> simp
@[simp] theorem mdep_str (b : Cs) : D.mdep (.str b) = 0 := by rw [D.mdep] <;> simp
@[simp] theorem mdep_scr (b : List Int) : D.mdep (.scr b) = 0 := by rw [D.mdep] <;> simp
@[simp] theorem mdep_tup (b : List D) : D.mdep (.tup b) = mdepL b := by rw [D.mdep]
@[simp] theorem mdep_lst (b : List D) : D.mdep (.lst b) = mdepL b + 1 := by rw [D.mdep]
@[simp] theorem mdep_dct (k b : List D) : D.mdep (.dct k b) = mdepL b + 1 := by rw [D.mdep]
@[simp] theorem lvL_nil : lvL [] = 9 := by rw [lvL]
@[simp] theorem lvL_cons (d : D) (n : Nat) (r : List (D × Nat)) : lvL ((d, n) :: r) = if d.mdep = 0 then lvL r else min n (lvL r) := by rw [lvL]
theorem bind_tup {ρ : Env} {i n : Nat} {xs : List D} {ns : List Nat} (h : mdepL xs = 0) : bindV ρ i (.tup xs, n) ns = ρ.set i (some (.tup xs, 9)) := by
  rw [bind_full (by simp [full, h])]; simp [setV, norm, h]
theorem bind_lst {ρ : Env} {i n : Nat} {xs : List D} {ns : List Nat} (h : mdepL xs + 1 ≤ n) : bindV ρ i (.lst xs, n) ns = ρ.set i (some (.lst xs, n)) := by
  rw [bind_full (by simp [full]; omega)]; simp [setV]
@[simp] theorem sub_tup0 (x : D) (r : List D) : subD (.tup (x :: r)) (.int 0) = some (x, 0) := sub_tup (by omega) rfl
@[simp] theorem sub_tup1 (x y : D) (r : List D) : subD (.tup (x :: y :: r)) (.int 1) = some (y, 0) := sub_tup (by omega) rfl
@[simp] theorem sub_tup2 (x y z : D) (r : List D) : subD (.tup (x :: y :: z :: r)) (.int 2) = some (z, 0) := sub_tup (by omega) rfl
@[simp] theorem sub_lst0 (x : D) (r : List D) : subD (.lst (x :: r)) (.int 0) = some (x, 0) := sub_lst (by omega) rfl
@[simp] theorem sub_lst1 (x y : D) (r : List D) : subD (.lst (x :: y :: r)) (.int 1) = some (y, 0) := sub_lst (by omega) rfl
@[simp] theorem sub_lst2 (x y z : D) (r : List D) : subD (.lst (x :: y :: z :: r)) (.int 2) = some (z, 0) := sub_lst (by omega) rfl
@[simp] theorem isiOk_str (s : Cs) (k : IK) (h : ikOk k = true) : isiOk (.str s) k = true := by cases k <;> first | rfl | cases h
@[simp] theorem isiOk_bl (s : Bool) (k : IK) (h : ikOk k = true) : isiOk (.bl s) k = true := by cases k <;> first | rfl | cases h
@[simp] theorem isiOk_int (s : Int) (k : IK) (h : ikOk k = true) : isiOk (.int s) k = true := by cases k <;> first | rfl | cases h
@[simp] theorem isiOk_non (k : IK) (h : ikOk k = true) : isiOk .non k = true := by cases k <;> first | rfl | cases h
@[simp] theorem isiOk_tup (s : List D) (k : IK) (h : ikOk k = true) : isiOk (.tup s) k = true := by cases k <;> first | rfl | cases h
@[simp] theorem isiOk_lst (s : List D) (k : IK) (h : ikOk k = true) : isiOk (.lst s) k = true := by cases k <;> first | rfl | cases h
@[simp] theorem isiOk_dct (s t : List D) (k : IK) (h : ikOk k = true) : isiOk (.dct s t) k = true := by cases k <;> first | rfl | cases h
@[simp] theorem ik_str : ikOk .str = true := id rfl
@[simp] theorem ik_int : ikOk .int = true := id rfl
@[simp] theorem ik_bool : ikOk .bool = true := id rfl
@[simp] theorem ik_tuple : ikOk .tuple = true := id rfl
@[simp] theorem ik_list : ikOk .list = true := id rfl
@[simp] theorem ik_dict : ikOk .dict = true := id rfl
section
variable (cm : Nat → List Nat)
@[simp] theorem isa_bl_bool (b : Bool) : isaD cm (.bl b) .bool = true := id rfl
@[simp] theorem isa_bl_int (b : Bool) : isaD cm (.bl b) .int = true := id rfl
@[simp] theorem isa_bl_str (b : Bool) : isaD cm (.bl b) .str = false := id rfl
@[simp] theorem isa_bl_tup (b : Bool) : isaD cm (.bl b) .tuple = false := id rfl
@[simp] theorem isa_bl_lst (b : Bool) : isaD cm (.bl b) .list = false := id rfl
@[simp] theorem isa_int_bool (b : Int) : isaD cm (.int b) .bool = false := id rfl
@[simp] theorem isa_int_int (b : Int) : isaD cm (.int b) .int = true := id rfl
@[simp] theorem isa_int_str (b : Int) : isaD cm (.int b) .str = false := id rfl
@[simp] theorem isa_int_tup (b : Int) : isaD cm (.int b) .tuple = false := id rfl
@[simp] theorem isa_str_bool (b : Cs) : isaD cm (.str b) .bool = false := id rfl
@[simp] theorem isa_str_int (b : Cs) : isaD cm (.str b) .int = false := id rfl
@[simp] theorem isa_str_str (b : Cs) : isaD cm (.str b) .str = true := id rfl
@[simp] theorem isa_str_tup (b : Cs) : isaD cm (.str b) .tuple = false := id rfl
@[simp] theorem isa_str_lst (b : Cs) : isaD cm (.str b) .list = false := id rfl
@[simp] theorem isa_lst_lst (b : List D) : isaD cm (.lst b) .list = true := id rfl
@[simp] theorem isa_lst_str (b : List D) : isaD cm (.lst b) .str = false := id rfl
@[simp] theorem isa_tup_str (b : List D) : isaD cm (.tup b) .str = false := id rfl
@[simp] theorem isa_tup_tup (b : List D) : isaD cm (.tup b) .tuple = true := id rfl
@[simp] theorem isa_tup_lst (b : List D) : isaD cm (.tup b) .list = false := id rfl
@[simp] theorem isa_non_str : isaD cm .non .str = false := id rfl
end
@[simp] theorem isnot_non (d : D) : cmpD .isnot d .non = some (match d with | .non => false | _ => true) := by cases d <;> rfl
@[simp] theorem is_non (d : D) : cmpD .is_ d .non = some (match d with | .non => true | _ => false) := by cases d <;> rfl
theorem ne_bb (p q r s : Bool) : cmpD .ne (.tup [.bl p, .bl q]) (.tup [.bl r, .bl s]) = some (!(p == r && q == s)) := by
  cases p <;> cases q <;> cases r <;> cases s <;> rfl
section
variable {α : Type}
theorem mdepL_map (f : α → D) (l : List α) (h : ∀ a, (f a).mdep = 0) : mdepL (l.map f) = 0 := by
  induction l with
  | nil => simp
  | cons a l ih => simp [ih, h]
theorem lvL_map (f : α → D) (n : Nat) (l : List α) (h : ∀ a, (f a).mdep = 0) : lvL (l.map fun a => (f a, n)) = 9 := by
  induction l with
  | nil => simp
  | cons a l ih => simp [ih, h]
@[simp] theorem mdepL_mapS (f : α → Cs) (l : List α) : mdepL (l.map fun a => D.str (f a)) = 0 := mdepL_map _ l fun _ => by simp
@[simp] theorem mdepL_mapI (f : α → Int) (l : List α) : mdepL (l.map fun a => D.int (f a)) = 0 := mdepL_map _ l fun _ => by simp
@[simp] theorem mdepL_mapB (f : α → Bool) (l : List α) : mdepL (l.map fun a => D.bl (f a)) = 0 := mdepL_map _ l fun _ => by simp
@[simp] theorem lvL_mapS (f : α → Cs) (n : Nat) (l : List α) : lvL (l.map fun a => (D.str (f a), n)) = 9 := lvL_map _ n l fun _ => by simp
@[simp] theorem lvL_mapI (f : α → Int) (n : Nat) (l : List α) : lvL (l.map fun a => (D.int (f a), n)) = 9 := lvL_map _ n l fun _ => by simp
@[simp] theorem lvL_mapB (f : α → Bool) (n : Nat) (l : List α) : lvL (l.map fun a => (D.bl (f a), n)) = 9 := lvL_map _ n l fun _ => by simp
end
end Vy

namespace Vy
open PySem PySem.Spec
open PyProof.Rows hiding St
open L2
section
variable {X : Cx} {nm : Nm} {G : Glo} {CA : Nat → Addr} {cf : Nat → List D → Out (D × Nat)} {W : WX}
theorem hold_ints {h : Heap} : ∀ {ns : List Int} {its : List Value}, Vals (ns.map V.int) its → PySem.W.HoldAll h its ns
  | [], its, r => by cases r; exact PySem.W.HoldAll.nil
  | n :: ns, its, r => by
    rw [List.map_cons] at r
    cases r with
    | cons p q =>
      obtain ⟨t, rfl⟩ := p
      exact PySem.W.HoldAll.cons ⟨_, .int n t⟩ (hold_ints q)
theorem hold_strs {h : Heap} : ∀ {ns : List Str} {its : List Value}, Vals (ns.map V.str) its → PySem.W.HoldAll h its ns
  | [], its, r => by cases r; exact PySem.W.HoldAll.nil
  | n :: ns, its, r => by
    rw [List.map_cons] at r
    cases r with
    | cons p q =>
      obtain ⟨t, rfl⟩ := p
      exact PySem.W.HoldAll.cons ⟨_, .str n t⟩ (hold_strs q)
theorem maxOf_I : ∀ (ns : List Int) (n : Int), PySem.W.maxOf n ns = maxI n ns
  | [], n => rfl
  | m :: ns, n => by
    show PySem.W.maxOf (if PySem.W.DatumOrd.lt n m = true then m else n) ns = _
    rw [maxOf_I ns, maxI]
    congr 1
    have : PySem.W.DatumOrd.lt n m = decide (n < m) := rfl
    rw [this]
    by_cases h : n < m <;> simp [h]
theorem cr_maxDef {k : Nat} (hc : X.calm = true) (hr : Room k X.A) : CallRK X (.builtin "max") [Str.ofString "default"] (fun vs zs H Q => ∃ (a : Addr) (ns : List Int) (i : Int), vs = [V.ref a] ∧ zs = [V.int i] ∧ SqL X.K H a (ns.map V.int) ∧ Q (.int (match ns with | [] => i | n :: r => maxI n r)) H) := by
  intro pins s σ H vs zs us ws Q I r rz ⟨a, ns, i, e1, e2, hs, q⟩
  subst e1; subst e2
  obtain ⟨its, rv, hl, _⟩ := I.list hs
  rw [Vals.ref1 r]
  obtain ⟨w, rfl, t, rfl⟩ : ∃ w, ws = [w] ∧ RelV (V.int i) w := by
    cases rz with
    | cons p q => cases q; exact ⟨_, rfl, p⟩
  refine PySem.W.max_list_datum_default (α := Int) (I.ok.hd hc) hl.isList (hold_ints (by simpa using rv)) ?_ (fun e h' tk hk => ?_) fun y ys j v h' tk e hj hv hk => ?_
  · have := hr.un
    show X.A.units + 1 + 0 < cLine
    omega
  · subst e
    exact ⟨.int i, H, I.kept hk, ⟨t, rfl⟩, q⟩
  · subst e
    rw [maxOf_I] at hv
    obtain ⟨as, hv⟩ := hv
    have : ∃ t, v = .int (maxI y ys) t := by
      generalize hd : (PySem.W.Datum.toD (maxI y ys) : PyData) = d at hv
      cases hv <;> first | (cases hd; exact ⟨_, rfl⟩) | cases hd
    obtain ⟨t', rfl⟩ := this
    exact ⟨.int (maxI y ys), H, I.kept hk, ⟨t', rfl⟩, q⟩
/-- max(e, default=0) -/
theorem e_maxd {np : Nat → Option Nat} {bl : List Str} {c : C} {e : Expr} {j : Nat} {p kp kpos pos : Pos} (cx : CtxOk X nm G CA cf np bl) (hb : ("max" : Str) ∈ bl) (hg : Gl X "max") (he : PE X e (tE X G CA cf W c)) (hs : noStar e = true) :
    PE X (.Call (.Name "max" p) [e] [⟨some "default", .Constant (.int 0) j kp, kpos⟩] pos) (tE X G CA cf W (.bif .maxd [c])) := by
  obtain ⟨k, hr, _⟩ := cx.lev
  have hs1 : [e].all noStar = true := by simp [hs]
  refine PE.weak (pe_callBK (cr_maxDef cx.calm hr) hg (cx.blt _ hb) (by decide +kernel) (a_cons he a_nil (star_cons hs)) (pk_cons pe_int pk_nil) (by decide) (by decide) (by rw [star_cons hs]; rfl) (back_any hs1) rfl rfl rfl) fun σ H Q ⟨S, sr, h⟩ => ?_
  rw [ev] at h
  refine ⟨S, sr, DenL.seq (Same.refl H) h fun ps vs H2 O Z e1 s2 pv hd => ?_⟩
  obtain ⟨z, hz, hd⟩ := Den.ofv hd
  have hp : ∃ q, ps = [q] := by
    simp only [evs] at e1
    obtain ⟨q, _, e1⟩ := Out.bind_eq_ok e1
    obtain ⟨l, e3, e1⟩ := Out.bind_eq_ok e1
    cases e3; cases e1
    exact ⟨q, rfl⟩
  obtain ⟨⟨d, n⟩, rfl⟩ := hp
  obtain ⟨v, rfl, pv1⟩ := pv.one_inv
  obtain ⟨xs, rfl⟩ : ∃ xs, d = .lst xs := by
    cases d <;> first | (cases hz; done) | exact ⟨_, rfl⟩
  have hz : (match intsOf xs with | some (i :: is) => some (D.int (maxI i is), 9) | some [] => some (D.int 0, 9) | _ => none) = some z := hz
  obtain ⟨a, vs, Z0, rfl, h1, r, _⟩ := pv1.lst_inv
  cases hi : intsOf xs with
  | none => rw [hi] at hz; cases hz
  | some l =>
    rw [hi] at hz
    have hl := int_list r hi
    subst hl
    cases l with
    | nil => cases hz; exact ⟨a, [], 0, rfl, rfl, .of h1, hd.val s2 (.int _)⟩
    | cons i is => cases hz; exact ⟨a, i :: is, 0, rfl, rfl, .of h1, hd.val s2 (.int _)⟩
theorem x_maxd {sc : Scope} {np : Nat → Option Nat} {bl : List Str} {c : C} {e : Expr} {j : Nat} {p kp kpos pos : Pos} (B : En sc X nm G CA cf np bl W) (hb : bl.contains ("max" : Str) = true) (hg : gloB sc "max" = true) (hs : noStar e = true) (he : PE X e (tE X G CA cf W c)) :
    PE X (.Call (.Name "max" p) [e] [⟨some "default", .Constant (.int 0) j kp, kpos⟩] pos) (tE X G CA cf W (.bif .maxd [c])) := e_maxd B.cx (by simpa using hb) (B.gl hg) he hs
end
section
variable {X : Cx} {nm : Nm} {G : Glo} {CA : Nat → Addr} {cf : Nat → List D → Out (D × Nat)} {W : WX} {L : List Nat}
theorem setR_len {S : Slots} {i : Nat} {d : D} {n : Nat} {v : V} {O Z : List Addr} : (setR S i d n v O Z).length = S.length := by unfold setR; simp
/-- a, b = x, y -/
theorem s_par {i j : Nat} {x y : Str} {a b : C} {ea eb : Expr} {px py pt pt2 pos : Pos} {kt k2 : Nat} (hc : X.calm = true) (hN : X.N.Nodup) (hi : X.N[i]? = some x) (hj : X.N[j]? = some y) (hij : i ≠ j) (hx : X.env.scope.names.lookup x = some .local) (hy : X.env.scope.names.lookup y = some .local)
    (ha : PA X [ea, eb] (tL X G CA cf W [a, b])) (hw : swappedStores [.Tuple [.Name x px, .Name y py] kt pt] (.Tuple [ea, eb] k2 pt2) X.env = pure (some [x, y])) :
    PS X (.Assign [.Tuple [.Name x px, .Name y py] kt pt] (.Tuple [ea, eb] k2 pt2) pos) (tS X G CA cf W L (.par i j a b)) := ⟨fun pins s σ H D I ⟨S, sr, fr, h⟩ => (ps_par hc hN hi hj hij hx hy ha hw rfl).run pins s σ H D I (by
  have hil : i < S.length := by rw [sr.len, I.len]; exact (List.getElem?_eq_some_iff.mp hi).1
  have hjl : j < S.length := by rw [sr.len, I.len]; exact (List.getElem?_eq_some_iff.mp hj).1
  rw [exS] at h
  refine ⟨S, sr, ?_⟩
  cases e : evs G cf (envOf S) [a, b] with
  | exc z => rw [e] at h; exact fun cls dd H' s x => h S σ H' cls dd (sr.same s) fr (Step.same s) rfl x
  | bad => rw [e] at h; exact h.elim
  | ok ps =>
    rw [e] at h
    intro vs H1 O Z sm pv
    have hp : ∃ p q, ps = [p, q] := by
      simp only [evs] at e
      obtain ⟨p, _, e⟩ := Out.bind_eq_ok e
      obtain ⟨l, e3, e⟩ := Out.bind_eq_ok e
      obtain ⟨q, _, e3⟩ := Out.bind_eq_ok e3
      cases e3; cases e
      exact ⟨p, q, rfl⟩
    obtain ⟨p, q, rfl⟩ := hp
    cases pv with
    | @cons _ v O1 Z1 _ vs' O2 Z2 p1 pr d1 d2 =>
    obtain ⟨w, rfl, p2⟩ := pr.one_inv
    refine ⟨v, w, rfl, ?_⟩
    have h : DenS X.K CA W L S H (.nx (setV (setV (if full p = true ∧ full q = true then envOf S else frz (envOf S) (namesL [a, b])) i p) j q)) D := h
    have fin : ∀ S1, SRep X.K CA S1 σ H → Fr S1 → S1.length = S.length → (∀ j a, OwnAt S1 j a → OwnAt S j a) → (∀ a, Any S1 a → Any S a) → (∀ a ∈ Z1, ¬ Own S1 a) → (∀ a ∈ Z2, ¬ Own S1 a) → DenS X.K CA W L S H (.nx (setV (setV (envOf S1) i p) j q)) D → D.nx ((σ.set i (some v)).set j (some w)) H1 := by
      intro S1 sr1 f1 l1 ow an z1 z2 hd
      have any1 : ∀ a (k : Nat) (r : Root), S1[k]? = some (some r) → a ∈ r.O ++ r.Z → H a ≠ none := fun a k r e q => sr1.any ⟨k, r, e, q⟩
      have f2 : Fr (setR S1 i p.1 p.2 v O1 Z1) := f1.setR p1.nd p1.zo (fun a ha k r _ e q => any1 a k r e q (p1.fresh a ha)) fun a ha k _ w => z1 a ha w.own
      have sr2 : SRep X.K CA (setR S1 i p.1 p.2 v O1 Z1) (σ.set i (some v)) H1 := (sr1.same sm).setR p1.rep (by rw [l1]; exact hil)
      have f3 : Fr (setR (setR S1 i p.1 p.2 v O1 Z1) j q.1 q.2 w O2 Z2) := f2.setR p2.nd p2.zo (fun a ha k r _ e q => by
        rcases setR_some e with ⟨_, e1, e2⟩ | ⟨_, e1⟩
        · rw [e1, e2] at q; exact d1 a ha q
        · exact any1 a k r e1 q (p2.fresh a ha)) fun a ha k _ w => by
        rcases setR_own w with ⟨_, z⟩ | ⟨_, z⟩
        · exact d2 a z ha
        · exact z2 a ha z.own
      have sr3 := sr2.setR p2.rep (i := j) (by rw [setR_len, l1]; exact hjl)
      refine hd _ _ H1 sr3 f3 ⟨fun a o e _ => sm a o e, fun a h => same_there sm h, fun k a h => ?_, fun a h => ?_⟩ (by rw [envOf_setR, envOf_setR])
      · rcases setR_own h with ⟨_, z⟩ | ⟨_, z⟩
        · exact .inr (.inr (p2.fresh a z))
        · rcases setR_own z with ⟨_, z⟩ | ⟨_, z⟩
          · exact .inr (.inr (p1.fresh a z))
          · exact .inl (ow k a z)
      · rcases setR_any h with z | z
        · rcases List.mem_append.mp z with z | z
          · exact .inr (p2.fresh a z)
          · exact (p2.zin a z).elim .inr fun w => .inl w.any
        · rcases setR_any z with z | z
          · rcases List.mem_append.mp z with z | z
            · exact .inr (p1.fresh a z)
            · exact (p1.zin a z).elim .inr fun w => .inl w.any
          · exact .inl (an a z)
    by_cases hf : full p = true ∧ full q = true
    · rw [if_pos hf] at h
      have y1 : Z1 = [] := p1.rep.full (by simpa [full] using hf.1)
      have y2 : Z2 = [] := p2.rep.full (by simpa [full] using hf.2)
      exact fin S sr fr rfl (fun _ _ h => h) (fun _ h => h) (by rw [y1]; simp) (by rw [y2]; simp) h
    · rw [if_neg hf] at h
      obtain ⟨S1, sr1, f1, z⟩ := frz_ok (namesL [a, b]) sr fr
      rw [← z.env] at h
      have nn : ∀ (Z : List Addr), (∀ a' ∈ Z, H a' = none ∨ Nod S (namesL [a, b]) a') → ∀ a' ∈ Z, ¬ Own S1 a' := fun Z hz a' ha w => by
        rcases hz a' ha with q | q
        · exact sr1.own w q
        · exact z.free fr q w
      exact fin S1 sr1 f1 z.len z.own (fun a ⟨k, r, e, q⟩ => let ⟨r0, h1, h2⟩ := z.any k r e; ⟨k, r0, h1, h2 a q⟩) (nn Z1 p1.zin) (nn Z2 p2.zin) h)⟩
theorem sw_par {x y : Str} {ea eb : Expr} {px py pt pt2 : Pos} {kt k2 : Nat} {env : PySem.Env} (hk : env.scope.kind = .function) (hx : env.scope.names.lookup x = some .local) (hy : env.scope.names.lookup y = some .local) (hl : (py.line == px.line) = true) (hxy : (x == y) = false)
    (h1 : noStar ea = true) (h2 : noStar eb = true) (h3 : [ea, eb].all (foldedForSure 8) = false) (h4 : [ea, eb].all (constantsAlone 8) = false) : swappedStores [.Tuple [.Name x px, .Name y py] kt pt] (.Tuple [ea, eb] k2 pt2) env = pure (some [x, y]) := by
  have kx : env.kindOf x = some .local := hx
  have ky : env.kindOf y = some .local := hy
  have hb : env.blockKind = .function := by unfold Env.blockKind; rw [hk]; rfl
  have hxy' : (y == x) = false := by
    rw [beq_eq_false_iff_ne] at hxy ⊢
    exact fun e => hxy e.symm
  have hl' : py.line = px.line := by simpa using hl
  have xy' : ¬ y = x := by simpa using hxy'
  unfold swappedStores
  simp [hb, kx, ky, hl', h3, h4, Expr.pos, List.eraseDups_cons, hxy, hxy', List.filterMap_cons, xy']
  intro h
  rcases h with h | h
  · cases ea <;> first | (cases h1; done) | (cases h; done)
  · cases eb <;> first | (cases h2; done) | (cases h; done)
theorem z_par {sc : Scope} {np : Nat → Option Nat} {bl : List Str} (B : En sc X nm G CA cf np bl W) (hk : X.env.scope.kind = .function) (i j : Nat) {x y : Str} {a b : C} {ea eb : Expr} {px py pt pt2 pos : Pos} {kt k2 : Nat} (hi : nm.N[i]? = some x) (hj : nm.N[j]? = some y) (hij : i ≠ j) (hx : sc.names.lookup x = some .local) (hy : sc.names.lookup y = some .local)
    (hl : (py.line == px.line) = true) (hxy : (x == y) = false) (h1 : noStar ea = true) (h2 : noStar eb = true) (h3 : [ea, eb].all (foldedForSure 8) = false) (h4 : [ea, eb].all (constantsAlone 8) = false) (ha : PA X [ea, eb] (tL X G CA cf W [a, b])) :
    PS X (.Assign [.Tuple [.Name x px, .Name y py] kt pt] (.Tuple [ea, eb] k2 pt2) pos) (tS X G CA cf W L (.par i j a b)) :=
  s_par B.cx.calm B.cx.nd (by rw [B.cx.N]; exact hi) (by rw [B.cx.N]; exact hj) hij (B.so.loc x hx) (B.so.loc y hy) ha (sw_par hk (B.so.loc x hx) (B.so.loc y hy) hl hxy h1 h2 h3 h4)
end
end Vy

namespace K21
open PySem PySem.Spec
open PyProof.Rows hiding St
open L2 Vy
def topS (i : Nat) : Stmt := PySem.Challenge.pw_thingyard_k21_trees_measured.main.body.getD i (.Pass ⟨0, 0, 0, 0⟩)
abbrev s0 : Stmt := topS 1
abbrev N0 : List Str := ["tree"]
abbrev P0 : List Str := ["tree"]
/-- parts_of -/
def c0 : List Vy.S := [.ife (.cmp .isin (.sub (.var 0) (.cst (.int 0))) (.tup [.cst (.str [116, 101, 120, 116]), .cst (.str [116, 104, 105, 110, 103]), .cst (.str [107, 105, 110])])) [.ret (.lst [])] [], .ret (.bif .list [.slc (.var 0) (some (.cst (.int 1))) none])]
theorem sc0 : FnScope N0 P0 (defScope s0) := ⟨rfl, rfl, rfl, by decide +kernel, rfl, by decide +kernel, by decide +kernel⟩
abbrev s1 : Stmt := topS 2
abbrev N1 : List Str := ["tree", "part"]
abbrev P1 : List Str := ["tree"]
/-- height_of -/
def c1 : List Vy.S := [.ret (.bin .add (.cst (.int 1)) (.bif .maxd [.lc (.cal 0 [.var 0]) (.one 1) none (.cal 1 [.var 1])]))]
theorem sc1 : FnScope N1 P1 (defScope s1) := ⟨rfl, rfl, rfl, by decide +kernel, rfl, by decide +kernel, by decide +kernel⟩
abbrev s2 : Stmt := topS 3
abbrev N2 : List Str := ["tree", "part"]
abbrev P2 : List Str := ["tree"]
/-- size_of -/
def c2 : List Vy.S := [.ret (.bin .add (.cst (.int 1)) (.bif .sum [.lc (.cal 0 [.var 0]) (.one 1) none (.cal 2 [.var 1])]))]
theorem sc2 : FnScope N2 P2 (defScope s2) := ⟨rfl, rfl, rfl, by decide +kernel, rfl, by decide +kernel, by decide +kernel⟩
abbrev s3 : Stmt := topS 5
abbrev N3 : List Str := ["_law_script", "_law_k"]
abbrev P3 : List Str := ["_law_script", "_law_k"]
/-- _law_cell -/
def c3 : List Vy.S := [.ife (.cmp .lt (.var 1) (.bif .len [.var 0])) [.ret (.sub (.var 0) (.var 1))] [], .ret (.cst (.int 0))]
theorem sc3 : FnScope N3 P3 (defScope s3) := ⟨rfl, rfl, rfl, by decide +kernel, rfl, by decide +kernel, by decide +kernel⟩
abbrev s4 : Stmt := topS 6
abbrev N4 : List Str := ["_law_cell_here", "_law_k", "_law_number"]
abbrev P4 : List Str := ["_law_cell_here", "_law_k"]
/-- _law_mixed -/
def c4 : List Vy.S := [.asg 2 (.bin .mod (.bin .mul (.bin .add (.var 0) (.bin .mul (.cst (.int 7919)) (.var 1))) (.cst (.int 48271))) (.cst (.int 2147483647))), .ret (.bin .mod (.bin .mul (.var 2) (.bin .add (.bin .add (.var 2) (.bin .mul (.cst (.int 2)) (.var 1))) (.cst (.int 1)))) (.cst (.int 2147483629)))]
theorem sc4 : FnScope N4 P4 (defScope s4) := ⟨rfl, rfl, rfl, by decide +kernel, rfl, by decide +kernel, by decide +kernel⟩
abbrev s5 : Stmt := topS 7
abbrev N5 : List Str := []
abbrev P5 : List Str := []
/-- _law_kept -/
def c5 : List Vy.S := [.ret (.mth .split (.cst (.str [111, 102, 32, 105, 102, 32, 105, 115, 32, 116, 104, 101, 110, 32, 101, 108, 115, 101, 32, 101, 97, 99, 104, 32, 100, 111, 32, 105, 116, 32, 98, 97, 99, 107, 32, 102, 105, 114, 115, 116, 32, 114, 101, 115, 116, 32, 99, 111, 117, 110, 116, 32, 115, 111, 114, 116, 101, 100, 32, 102, 97, 105, 108, 32, 108, 105, 110, 101, 32, 109, 111, 114, 101])) [.cst (.str [32])])]
theorem sc5 : FnScope N5 P5 (defScope s5) := ⟨rfl, rfl, rfl, by decide +kernel, rfl, by decide +kernel, by decide +kernel⟩
abbrev s6 : Stmt := topS 8
abbrev N6 : List Str := ["_law_cell_here", "_law_letters", "_law_left", "_law_found", "_law_j"]
abbrev P6 : List Str := ["_law_cell_here"]
/-- _law_plain -/
def c6 : List Vy.S := [.asg 1 (.cst (.str [97, 98, 99, 100, 101, 102, 103, 104, 105, 106, 107, 108, 109, 110, 111, 112, 113, 114, 115, 116, 117, 118, 119, 120, 121, 122])), .asg 2 (.cal 4 [.var 0, .cst (.int 3)]), .asg 3 (.mth .join (.cst (.str [])) [.lc (.rng [.bin .add (.cst (.int 1)) (.bin .mod (.var 2) (.cst (.int 8)))]) (.one 4) none (.sub (.var 1) (.bin .mod (.bin .fdv (.cal 4 [.var 0, .var 4]) (.cst (.int 7))) (.cst (.int 26))))]), .ife (.cmp .eq (.bin .mod (.bin .fdv (.var 2) (.cst (.int 8))) (.cst (.int 6))) (.cst (.int 1))) [.asg 3 (.sub (.cal 5 []) (.bin .mod (.bin .fdv (.var 2) (.cst (.int 48))) (.cst (.int 16))))] [], .ife (.cmp .isin (.var 3) (.cal 5 [])) [.ret (.bin .add (.var 3) (.cst (.str [120])))] [], .retv 3]
theorem sc6 : FnScope N6 P6 (defScope s6) := ⟨rfl, rfl, rfl, by decide +kernel, rfl, by decide +kernel, by decide +kernel⟩
abbrev s7 : Stmt := topS 9
abbrev N7 : List Str := ["_law_cell_here"]
abbrev P7 : List Str := ["_law_cell_here"]
/-- _law_name -/
def c7 : List Vy.S := [.ife (.cmp .eq (.bin .mod (.cal 4 [.var 0, .cst (.int 5)]) (.cst (.int 3))) (.cst (.int 1))) [.ret (.bin .add (.bin .add (.cal 6 [.var 0]) (.cst (.str [46]))) (.cal 6 [.cal 4 [.var 0, .cst (.int 6)]]))] [], .ret (.cal 6 [.var 0])]
theorem sc7 : FnScope N7 P7 (defScope s7) := ⟨rfl, rfl, rfl, by decide +kernel, rfl, by decide +kernel, by decide +kernel⟩
abbrev s8 : Stmt := topS 10
abbrev N8 : List Str := ["_law_some"]
abbrev P8 : List Str := []
/-- _law_signs -/
def c8 : List Vy.S := [.asg 0 (.cst (.str [32, 33, 35, 36, 38, 39, 40, 41, 42, 43, 44, 45, 46, 47, 48, 49, 50, 51, 52, 53, 54, 55, 56, 57, 58, 59, 60, 61, 62, 63, 64, 65, 66, 67, 68, 69, 70, 71, 72, 73, 74, 75, 76, 77, 78, 79, 80, 81, 82, 83, 84, 85, 86, 87, 88, 89, 90, 91, 92, 93, 94, 95, 96])), .ret (.bin .add (.var 0) (.cst (.str [97, 98, 99, 100, 101, 102, 103, 104, 105, 106, 107, 108, 109, 110, 111, 112, 113, 114, 115, 116, 117, 118, 119, 120, 121, 122, 123, 124, 125, 126])))]
theorem sc8 : FnScope N8 P8 (defScope s8) := ⟨rfl, rfl, rfl, by decide +kernel, rfl, by decide +kernel, by decide +kernel⟩
abbrev s9 : Stmt := topS 11
abbrev N9 : List Str := ["_law_cell_here", "_law_family", "_law_left", "_law_some", "_law_size", "_law_inner", "_law_j"]
abbrev P9 : List Str := ["_law_cell_here", "_law_family"]
/-- _law_leaf -/
def c9 : List Vy.S := [.asg 2 (.cal 4 [.var 0, .cst (.int 4)]), .ife (.cmp .eq (.bin .mod (.var 2) (.cst (.int 5))) (.cst (.int 0))) [.asg 3 (.cal 8 []), .asg 4 (.bin .mod (.bin .fdv (.var 2) (.cst (.int 5))) (.cst (.int 4))), .ife (.cmp .eq (.bin .mod (.bin .fdv (.var 2) (.cst (.int 20))) (.cst (.int 7))) (.cst (.int 1))) [.asg 4 (.bin .mod (.bin .fdv (.var 2) (.cst (.int 140))) (.cst (.int 61)))] [], .asg 5 (.lc (.rng [.var 4]) (.one 6) none (.sub (.var 3) (.bin .mod (.bin .add (.bin .fdv (.var 2) (.cst (.int 7))) (.bin .mul (.var 6) (.bin .add (.cst (.int 1)) (.bin .mod (.var 2) (.cst (.int 3)))))) (.cst (.int 93))))), .ret (.tup [.tup [.cst (.str [116, 101, 120, 116]), .mth .join (.cst (.str [])) [.var 5]], .cst (.int 1), .cst (.int 1), .cst (.bl false)])] [], .ife (.cmp .eq (.bin .mod (.var 2) (.cst (.int 5))) (.cst (.int 1))) [.ret (.tup [.tup [.cst (.str [108, 105, 110, 101])], .cst (.int 1), .cst (.int 1), .cst (.bl false)])] [], .ife (.cmp .eq (.bin .mod (.var 2) (.cst (.int 5))) (.cst (.int 2))) [.ret (.tup [.tup [.cst (.str [105, 116])], .cst (.int 1), .cst (.int 1), .cst (.bl true)])] [], .ife (.and (.cmp .eq (.bin .mod (.var 2) (.cst (.int 5))) (.cst (.int 3))) (.var 1)) [.ret (.tup [.sub (.lst [.tup [.cst (.str [115, 116, 101, 109])], .tup [.cst (.str [107, 105, 110]), .cal 6 [.bin .fdv (.var 2) (.cst (.int 5))]]]) (.bin .mod (.bin .fdv (.var 2) (.cst (.int 5))) (.cst (.int 2))), .cst (.int 1), .cst (.int 1), .cst (.bl false)])] [], .ret (.tup [.tup [.cst (.str [116, 104, 105, 110, 103]), .cal 7 [.bin .fdv (.var 2) (.cst (.int 5))]], .cst (.int 1), .cst (.int 1), .cst (.bl false)])]
theorem sc9 : FnScope N9 P9 (defScope s9) := ⟨rfl, rfl, rfl, by decide +kernel, rfl, by decide +kernel, by decide +kernel⟩
abbrev s10 : Stmt := topS 12
abbrev N10 : List Str := ["_law_word", "_law_under", "_law_high", "_law_one", "_law_many", "_law_free"]
abbrev P10 : List Str := ["_law_word", "_law_under"]
/-- _law_above -/
def c10 : List Vy.S := [.asg 2 (.bin .add (.cst (.int 1)) (.bif .max [.lc (.var 1) (.one 3) none (.sub (.var 3) (.cst (.int 1)))])), .asg 4 (.bin .add (.cst (.int 1)) (.bif .sum [.lc (.var 1) (.one 3) none (.sub (.var 3) (.cst (.int 2)))])), .asg 5 (.bif .any [.lc (.var 1) (.one 3) none (.sub (.var 3) (.cst (.int 3)))]), .ife (.cmp .eq (.var 0) (.cst (.str [101, 97, 99, 104]))) [.asg 5 (.sub (.sub (.var 1) (.cst (.int 0))) (.cst (.int 3)))] [], .ret (.tup [.bif .tuple [.bin .add (.lst [.var 0]) (.lc (.var 1) (.one 3) none (.sub (.var 3) (.cst (.int 0))))], .var 2, .var 4, .var 5])]
theorem sc10 : FnScope N10 P10 (defScope s10) := ⟨rfl, rfl, rfl, by decide +kernel, rfl, by decide +kernel, by decide +kernel⟩
abbrev s11 : Stmt := topS 13
abbrev N11 : List Str := ["_law_stack", "_law_cell_here", "_law_family", "_law_left", "_law_words", "_law_word", "_law_many", "_law_made"]
abbrev P11 : List Str := ["_law_stack", "_law_cell_here", "_law_family"]
/-- _law_grown -/
def c11 : List Vy.S := [.asg 3 (.cal 4 [.var 1, .cst (.int 1)]), .asg 4 (.lst [.cst (.str [111, 102]), .cst (.str [98, 97, 99, 107]), .cst (.str [102, 105, 114, 115, 116]), .cst (.str [114, 101, 115, 116]), .cst (.str [99, 111, 117, 110, 116]), .cst (.str [115, 111, 114, 116, 101, 100]), .cst (.str [102, 97, 105, 108]), .cst (.str [101, 97, 99, 104]), .cst (.str [101, 97, 99, 104]), .cst (.str [105, 102]), .cst (.str [106, 111, 105, 110]), .cst (.str [106, 111, 105, 110])]), .asg 5 (.sub (.var 4) (.bin .mod (.var 3) (.cst (.int 12)))), .asg 6 (.sub (.lst [.cst (.int 1), .cst (.int 1), .cst (.int 1), .cst (.int 1), .cst (.int 1), .cst (.int 1), .cst (.int 1), .cst (.int 2), .cst (.int 2), .cst (.int 4), .bin .add (.cst (.int 2)) (.bin .mod (.bin .fdv (.var 3) (.cst (.int 12))) (.cst (.int 2))), .bin .add (.cst (.int 2)) (.bin .mod (.bin .fdv (.var 3) (.cst (.int 12))) (.cst (.int 3)))]) (.bin .mod (.var 3) (.cst (.int 12)))), .ife (.or (.cmp .eq (.bin .mod (.bin .fdv (.var 3) (.cst (.int 60))) (.cst (.int 2))) (.cst (.int 0))) (.cmp .lt (.bif .len [.var 0]) (.var 6))) [.ret (.bin .add (.var 0) (.lst [.cal 9 [.var 1, .var 2]]))] [], .asg 7 (.cal 10 [.var 5, .slc (.var 0) (some (.bin .sub (.bif .len [.var 0]) (.var 6))) none]), .ife (.or (.cmp .gt (.sub (.var 7) (.cst (.int 1))) (.cst (.int 12))) (.cmp .gt (.sub (.var 7) (.cst (.int 2))) (.cst (.int 98)))) [.ret (.bin .add (.var 0) (.lst [.cal 9 [.var 1, .var 2]]))] [], .ret (.bin .add (.slc (.var 0) none (some (.bin .sub (.bif .len [.var 0]) (.var 6)))) (.lst [.var 7]))]
theorem sc11 : FnScope N11 P11 (defScope s11) := ⟨rfl, rfl, rfl, by decide +kernel, rfl, by decide +kernel, by decide +kernel⟩
abbrev s12 : Stmt := topS 14
abbrev N12 : List Str := ["_law_cells", "_law_family", "_law_stack", "_law_k", "_law_cell_here", "_law_made", "_law_one"]
abbrev P12 : List Str := ["_law_cells", "_law_family"]
/-- _law_tree -/
def c12 : List Vy.S := [.asg 2 (.lst [.cal 9 [.bif .len [.var 0], .var 1]]), .for_ (.tup [3, 4]) (.enu (.var 0)) [.asg 2 (.cal 11 [.slc (.var 2) (some (.neg (.cst (.int 20)))) none, .bin .add (.var 4) (.bin .mul (.cst (.int 7919)) (.var 3)), .var 1])], .asg 5 (.sub (.var 2) (.neg (.cst (.int 1)))), .ife (.and (.cmp .gt (.bif .len [.var 2]) (.cst (.int 1))) (.and (.cmp .lt (.bif .sum [.lc (.var 2) (.one 6) none (.sub (.var 6) (.cst (.int 2)))]) (.cst (.int 98))) (.cmp .lt (.bif .max [.lc (.var 2) (.one 6) none (.sub (.var 6) (.cst (.int 1)))]) (.cst (.int 12))))) [.asg 5 (.cal 10 [.cst (.str [106, 111, 105, 110]), .var 2])] [], .ife (.and (.sub (.var 5) (.cst (.int 3))) (.cmp .lt (.sub (.var 5) (.cst (.int 1))) (.cst (.int 12)))) [.asg 5 (.cal 10 [.cst (.str [101, 97, 99, 104]), .lst [.tup [.tup [.cst (.str [108, 105, 110, 101])], .cst (.int 1), .cst (.int 1), .cst (.bl false)], .var 5]])] [], .ife (.sub (.var 5) (.cst (.int 3))) [.ret (.tup [.tup [.cst (.str [108, 105, 110, 101])], .cst (.int 1), .cst (.int 1), .cst (.bl false)])] [], .retv 5]
theorem sc12 : FnScope N12 P12 (defScope s12) := ⟨rfl, rfl, rfl, by decide +kernel, rfl, by decide +kernel, by decide +kernel⟩
abbrev s13 : Stmt := topS 15
abbrev N13 : List Str := ["_law_found", "_law_due"]
abbrev P13 : List Str := ["_law_found", "_law_due"]
/-- _law_whole -/
def c13 : List Vy.S := [.ret (.and (.isi (.var 0) .int) (.and (.not (.isi (.var 0) .bool)) (.cmp .eq (.var 0) (.var 1))))]
theorem sc13 : FnScope N13 P13 (defScope s13) := ⟨rfl, rfl, rfl, by decide +kernel, rfl, by decide +kernel, by decide +kernel⟩
abbrev s14 : Stmt := topS 16
abbrev N14 : List Str := ["_law_script", "_law_tree_here", "_law_high", "_law_many", "_law_free", "_law_more", "_law_k", "_law_wide", "_law_turn"]
abbrev P14 : List Str := ["_law_script"]
/-- law -/
def c14 : List Vy.S := [.asgT [1, 2, 3, 4] (.cal 12 [.slc (.var 0) (some (.cst (.int 2))) none, .cmp .eq (.bin .mod (.cal 3 [.var 0, .cst (.int 1)]) (.cst (.int 2))) (.cst (.int 1))]), .asg 5 (.bin .fdv (.cal 3 [.var 0, .cst (.int 0)]) (.cst (.int 3))), .ife (.cmp .eq (.bin .mod (.cal 3 [.var 0, .cst (.int 0)]) (.cst (.int 3))) (.cst (.int 1))) [.for_ (.one 6) (.rng [.bin .mod (.var 5) (.cst (.int 31))]) [.asg 1 (.tup [.sub (.lst [.cst (.str [111, 102]), .cst (.str [98, 97, 99, 107]), .cst (.str [102, 105, 114, 115, 116]), .cst (.str [114, 101, 115, 116]), .cst (.str [99, 111, 117, 110, 116]), .cst (.str [115, 111, 114, 116, 101, 100]), .cst (.str [102, 97, 105, 108])]) (.bin .mod (.bin .add (.var 5) (.var 6)) (.cst (.int 7))), .var 1]), .par 2 3 (.bin .add (.var 2) (.cst (.int 1))) (.bin .add (.var 3) (.cst (.int 1)))]] [], .ife (.cmp .eq (.bin .mod (.cal 3 [.var 0, .cst (.int 0)]) (.cst (.int 3))) (.cst (.int 2))) [.asg 7 (.bin .add (.cst (.int 1)) (.bin .mod (.var 5) (.cst (.int 150)))), .asg 1 (.bif .tuple [.bin .add (.bin .add (.lst [.cst (.str [106, 111, 105, 110])]) (.bin .mul (.lst [.tup [.cst (.str [108, 105, 110, 101])]]) (.var 7))) (.lst [.var 1])]), .par 2 3 (.bin .add (.bif .max [.var 2, .cst (.int 1)]) (.cst (.int 1))) (.bin .add (.bin .add (.var 3) (.var 7)) (.cst (.int 1)))] [], .for_ (.one 8) (.rng [.cst (.int 2)]) [.ife (.or (.not (.cal 13 [.cal 1 [.var 1], .var 2])) (.not (.cal 13 [.cal 2 [.var 1], .var 3]))) [.ret (.cst (.bl false))] []], .ret (.cst (.bl true))]
theorem sc14 : FnScope N14 P14 (defScope s14) := ⟨rfl, rfl, rfl, by decide +kernel, rfl, by decide +kernel, by decide +kernel⟩
abbrev fns : List Str := ["parts_of", "height_of", "size_of", "_law_cell", "_law_mixed", "_law_kept", "_law_plain", "_law_name", "_law_signs", "_law_leaf", "_law_above", "_law_grown", "_law_tree", "_law_whole", "law"]
abbrev nps : List Nat := [1, 1, 1, 2, 2, 0, 1, 1, 0, 2, 2, 3, 2, 2, 1]
abbrev gns : List Str := []
def gvs : List D := []
def Pr (f : Nat) : Option Def := ([⟨1, 1, c0⟩, ⟨1, 2, c1⟩, ⟨1, 2, c2⟩, ⟨2, 2, c3⟩, ⟨2, 3, c4⟩, ⟨0, 0, c5⟩, ⟨1, 5, c6⟩, ⟨1, 1, c7⟩, ⟨0, 1, c8⟩, ⟨2, 7, c9⟩, ⟨2, 6, c10⟩, ⟨3, 8, c11⟩, ⟨2, 7, c12⟩, ⟨2, 2, c13⟩, ⟨1, 9, c14⟩] : List Def)[f]?
def np (f : Nat) : Option Nat := nps[f]?
def T : Tb := ⟨fun f => fns.getD f "", fun g => gns.getD g "", fun _ => ""⟩
def G : Glo := ⟨fun g => gvs[g]?, fun _ => []⟩
def bl : List Str := ["any", "bool", "enumerate", "int", "isinstance", "len", "list", "max", "range", "sum", "tuple"]
set_option maxHeartbeats 4000000 in
theorem body0 {CA : Nat → Addr} {X : Cx} {cf : Nat → List D → Out (D × Nat)} {W : WX} (Y : Body (defScope s0) X (T.nm N0) G CA cf np bl W)   : PSs X (defBody s0) (tB X G CA cf W [] c0) :=
  have B := Y.en; have pas := Y.pas; have hk := Y.kd; (b_cons (s_if (y_cmp B .isin (x_sub B (x_var B 0 rfl rfl rfl) e_int (fun _ _ => rfl)) (e_tup (a_c rfl (e_str (s := [116, 101, 120, 116]) rfl rfl) (a_c rfl (e_str (s := [116, 104, 105, 110, 103]) rfl rfl) (a_c rfl (e_str (s := [107, 105, 110]) rfl rfl) a_nil)))) rfl) (b_cons (s_ret (e_lst a_nil)) b_nil) b_nil) (b_cons (s_ret (x_bif B .list rfl rfl rfl rfl rfl rfl (a_c rfl (e_slc (x_var B 0 rfl rfl rfl) (o_some e_int) o_none) a_nil))) b_nil))
set_option maxHeartbeats 4000000 in
theorem body1 {CA : Nat → Addr} {X : Cx} {cf : Nat → List D → Out (D × Nat)} {W : WX} (Y : Body (defScope s1) X (T.nm N1) G CA cf np bl W)   : PSs X (defBody s1) (tB X G CA cf W [] c1) :=
  have B := Y.en; have pas := Y.pas; have hk := Y.kd; (b_cons (s_ret (e_bin (o := .add) e_int (x_maxd B rfl rfl rfl (x_lc1 B 1 rfl rfl rfl rfl (i_val (x_cal B 0 1 rfl rfl rfl rfl rfl rfl (a_c rfl (x_var B 0 rfl rfl rfl) a_nil))) (fun _ _ _ _ _ _ => ts_nil) (fun _ _ _ _ _ I => (x_cal I 1 1 rfl rfl rfl rfl rfl rfl (a_c rfl (x_var I 1 rfl rfl rfl) a_nil))))))) b_nil)
set_option maxHeartbeats 4000000 in
theorem body2 {CA : Nat → Addr} {X : Cx} {cf : Nat → List D → Out (D × Nat)} {W : WX} (Y : Body (defScope s2) X (T.nm N2) G CA cf np bl W)   : PSs X (defBody s2) (tB X G CA cf W [] c2) :=
  have B := Y.en; have pas := Y.pas; have hk := Y.kd; (b_cons (s_ret (e_bin (o := .add) e_int (x_bif B .sum rfl rfl rfl rfl rfl rfl (a_c rfl (x_lc1 B 1 rfl rfl rfl rfl (i_val (x_cal B 0 1 rfl rfl rfl rfl rfl rfl (a_c rfl (x_var B 0 rfl rfl rfl) a_nil))) (fun _ _ _ _ _ _ => ts_nil) (fun _ _ _ _ _ I => (x_cal I 2 1 rfl rfl rfl rfl rfl rfl (a_c rfl (x_var I 1 rfl rfl rfl) a_nil)))) a_nil)))) b_nil)
set_option maxHeartbeats 4000000 in
theorem body3 {CA : Nat → Addr} {X : Cx} {cf : Nat → List D → Out (D × Nat)} {W : WX} (Y : Body (defScope s3) X (T.nm N3) G CA cf np bl W)   : PSs X (defBody s3) (tB X G CA cf W [] c3) :=
  have B := Y.en; have pas := Y.pas; have hk := Y.kd; (b_cons (s_if (y_cmp B .lt (x_var B 1 rfl rfl rfl) (x_bif B .len rfl rfl rfl rfl rfl rfl (a_c rfl (x_var B 0 rfl rfl rfl) a_nil)) rfl) (b_cons (s_ret (x_sub B (x_var B 0 rfl rfl rfl) (x_var B 1 rfl rfl rfl) (fun _ _ => rfl))) b_nil) b_nil) (b_cons (s_ret e_int) b_nil))
set_option maxHeartbeats 4000000 in
theorem body4 {CA : Nat → Addr} {X : Cx} {cf : Nat → List D → Out (D × Nat)} {W : WX} (Y : Body (defScope s4) X (T.nm N4) G CA cf np bl W)   : PSs X (defBody s4) (tB X G CA cf W [] c4) :=
  have B := Y.en; have pas := Y.pas; have hk := Y.kd; (b_cons (z_asg B 2 rfl rfl rfl (e_bin (o := .mod) (e_bin (o := .mul) (e_bin (o := .add) (x_var B 0 rfl rfl rfl) (e_bin (o := .mul) e_int (x_var B 1 rfl rfl rfl))) e_int) e_int)) (b_cons (s_ret (e_bin (o := .mod) (e_bin (o := .mul) (x_var B 2 rfl rfl rfl) (e_bin (o := .add) (e_bin (o := .add) (x_var B 2 rfl rfl rfl) (e_bin (o := .mul) e_int (x_var B 1 rfl rfl rfl))) e_int)) e_int)) b_nil))
set_option maxHeartbeats 4000000 in
theorem body5 {CA : Nat → Addr} {X : Cx} {cf : Nat → List D → Out (D × Nat)} {W : WX} (Y : Body (defScope s5) X (T.nm N5) G CA cf np bl W)   : PSs X (defBody s5) (tB X G CA cf W [] c5) :=
  have B := Y.en; have pas := Y.pas; have hk := Y.kd; (b_cons (s_ret (e_split (e_str (s := [111, 102, 32, 105, 102, 32, 105, 115, 32, 116, 104, 101, 110, 32, 101, 108, 115, 101, 32, 101, 97, 99, 104, 32, 100, 111, 32, 105, 116, 32, 98, 97, 99, 107, 32, 102, 105, 114, 115, 116, 32, 114, 101, 115, 116, 32, 99, 111, 117, 110, 116, 32, 115, 111, 114, 116, 101, 100, 32, 102, 97, 105, 108, 32, 108, 105, 110, 101, 32, 109, 111, 114, 101]) rfl rfl) (e_str (s := [32]) rfl rfl) rfl rfl rfl)) b_nil)
set_option maxHeartbeats 4000000 in
theorem body6 {CA : Nat → Addr} {X : Cx} {cf : Nat → List D → Out (D × Nat)} {W : WX} (Y : Body (defScope s6) X (T.nm N6) G CA cf np bl W)   : PSs X (defBody s6) (tB X G CA cf W [] c6) :=
  have B := Y.en; have pas := Y.pas; have hk := Y.kd; (b_cons (z_asg B 1 rfl rfl rfl (e_str (s := [97, 98, 99, 100, 101, 102, 103, 104, 105, 106, 107, 108, 109, 110, 111, 112, 113, 114, 115, 116, 117, 118, 119, 120, 121, 122]) rfl rfl)) (b_cons (z_asg B 2 rfl rfl rfl (x_cal B 4 2 rfl rfl rfl rfl rfl rfl (a_c rfl (x_var B 0 rfl rfl rfl) (a_c rfl e_int a_nil)))) (b_cons (z_asg B 3 rfl rfl rfl (e_join (e_str (s := []) rfl rfl) (x_lc1 B 4 rfl rfl rfl rfl (r_1 B rfl rfl rfl (e_bin (o := .add) e_int (e_bin (o := .mod) (x_var B 2 rfl rfl rfl) e_int))) (fun _ _ _ _ _ _ => ts_nil) (fun _ _ _ _ _ I => (x_sub I (x_var I 1 rfl rfl rfl) (e_bin (o := .mod) (e_bin (o := .fdv) (x_cal I 4 2 rfl rfl rfl rfl rfl rfl (a_c rfl (x_var I 0 rfl rfl rfl) (a_c rfl (x_var I 4 rfl rfl rfl) a_nil))) e_int) e_int) (fun _ _ => rfl)))) rfl rfl rfl)) (b_cons (s_if (y_cmp B .eq (e_bin (o := .mod) (e_bin (o := .fdv) (x_var B 2 rfl rfl rfl) e_int) e_int) e_int rfl) (b_cons (z_asg B 3 rfl rfl rfl (x_sub B (x_cal0 B 5 rfl rfl rfl rfl) (e_bin (o := .mod) (e_bin (o := .fdv) (x_var B 2 rfl rfl rfl) e_int) e_int) (fun _ _ => rfl))) b_nil) b_nil) (b_cons (s_if (y_cmp B .isin (x_var B 3 rfl rfl rfl) (x_cal0 B 5 rfl rfl rfl rfl) rfl) (b_cons (s_ret (e_bin (o := .add) (x_var B 3 rfl rfl rfl) (e_str (s := [120]) rfl rfl))) b_nil) b_nil) (b_cons (z_retv B 3 rfl rfl rfl) b_nil))))))
set_option maxHeartbeats 4000000 in
theorem body7 {CA : Nat → Addr} {X : Cx} {cf : Nat → List D → Out (D × Nat)} {W : WX} (Y : Body (defScope s7) X (T.nm N7) G CA cf np bl W)   : PSs X (defBody s7) (tB X G CA cf W [] c7) :=
  have B := Y.en; have pas := Y.pas; have hk := Y.kd; (b_cons (s_if (y_cmp B .eq (e_bin (o := .mod) (x_cal B 4 2 rfl rfl rfl rfl rfl rfl (a_c rfl (x_var B 0 rfl rfl rfl) (a_c rfl e_int a_nil))) e_int) e_int rfl) (b_cons (s_ret (e_bin (o := .add) (e_bin (o := .add) (x_cal B 6 1 rfl rfl rfl rfl rfl rfl (a_c rfl (x_var B 0 rfl rfl rfl) a_nil)) (e_str (s := [46]) rfl rfl)) (x_cal B 6 1 rfl rfl rfl rfl rfl rfl (a_c rfl (x_cal B 4 2 rfl rfl rfl rfl rfl rfl (a_c rfl (x_var B 0 rfl rfl rfl) (a_c rfl e_int a_nil))) a_nil)))) b_nil) b_nil) (b_cons (s_ret (x_cal B 6 1 rfl rfl rfl rfl rfl rfl (a_c rfl (x_var B 0 rfl rfl rfl) a_nil))) b_nil))
set_option maxHeartbeats 4000000 in
theorem body8 {CA : Nat → Addr} {X : Cx} {cf : Nat → List D → Out (D × Nat)} {W : WX} (Y : Body (defScope s8) X (T.nm N8) G CA cf np bl W)   : PSs X (defBody s8) (tB X G CA cf W [] c8) :=
  have B := Y.en; have pas := Y.pas; have hk := Y.kd; (b_cons (z_asg B 0 rfl rfl rfl (e_str (s := [32, 33, 35, 36, 38, 39, 40, 41, 42, 43, 44, 45, 46, 47, 48, 49, 50, 51, 52, 53, 54, 55, 56, 57, 58, 59, 60, 61, 62, 63, 64, 65, 66, 67, 68, 69, 70, 71, 72, 73, 74, 75, 76, 77, 78, 79, 80, 81, 82, 83, 84, 85, 86, 87, 88, 89, 90, 91, 92, 93, 94, 95, 96]) rfl rfl)) (b_cons (s_ret (e_bin (o := .add) (x_var B 0 rfl rfl rfl) (e_str (s := [97, 98, 99, 100, 101, 102, 103, 104, 105, 106, 107, 108, 109, 110, 111, 112, 113, 114, 115, 116, 117, 118, 119, 120, 121, 122, 123, 124, 125, 126]) rfl rfl))) b_nil))
set_option maxHeartbeats 4000000 in
theorem body9 {CA : Nat → Addr} {X : Cx} {cf : Nat → List D → Out (D × Nat)} {W : WX} (Y : Body (defScope s9) X (T.nm N9) G CA cf np bl W)   : PSs X (defBody s9) (tB X G CA cf W [] c9) :=
  have B := Y.en; have pas := Y.pas; have hk := Y.kd; (b_cons (z_asg B 2 rfl rfl rfl (x_cal B 4 2 rfl rfl rfl rfl rfl rfl (a_c rfl (x_var B 0 rfl rfl rfl) (a_c rfl e_int a_nil)))) (b_cons (s_if (y_cmp B .eq (e_bin (o := .mod) (x_var B 2 rfl rfl rfl) e_int) e_int rfl) (b_cons (z_asg B 3 rfl rfl rfl (x_cal0 B 8 rfl rfl rfl rfl)) (b_cons (z_asg B 4 rfl rfl rfl (e_bin (o := .mod) (e_bin (o := .fdv) (x_var B 2 rfl rfl rfl) e_int) e_int)) (b_cons (s_if (y_cmp B .eq (e_bin (o := .mod) (e_bin (o := .fdv) (x_var B 2 rfl rfl rfl) e_int) e_int) e_int rfl) (b_cons (z_asg B 4 rfl rfl rfl (e_bin (o := .mod) (e_bin (o := .fdv) (x_var B 2 rfl rfl rfl) e_int) e_int)) b_nil) b_nil) (b_cons (z_lc1 B hk 5 rfl 6 rfl rfl rfl rfl rfl (r_1 B rfl rfl rfl (x_var B 4 rfl rfl rfl)) (fun _ _ _ _ _ _ => ts_nil) (fun _ _ _ _ _ I => (x_sub I (x_var I 3 rfl rfl rfl) (e_bin (o := .mod) (e_bin (o := .add) (e_bin (o := .fdv) (x_var I 2 rfl rfl rfl) e_int) (e_bin (o := .mul) (x_var I 6 rfl rfl rfl) (e_bin (o := .add) e_int (e_bin (o := .mod) (x_var I 2 rfl rfl rfl) e_int)))) e_int) (fun _ _ => rfl)))) (b_cons (s_ret (e_tup (a_c rfl (e_tup (a_c rfl (e_str (s := [116, 101, 120, 116]) rfl rfl) (a_c rfl (e_join (e_str (s := []) rfl rfl) (x_var B 5 rfl rfl rfl) rfl rfl rfl) a_nil))) (a_c rfl e_int (a_c rfl e_int (a_c rfl e_bl a_nil)))))) b_nil))))) b_nil) (b_cons (s_if (y_cmp B .eq (e_bin (o := .mod) (x_var B 2 rfl rfl rfl) e_int) e_int rfl) (b_cons (s_ret (e_tup (a_c rfl (e_tup (a_c rfl (e_str (s := [108, 105, 110, 101]) rfl rfl) a_nil)) (a_c rfl e_int (a_c rfl e_int (a_c rfl e_bl a_nil)))))) b_nil) b_nil) (b_cons (s_if (y_cmp B .eq (e_bin (o := .mod) (x_var B 2 rfl rfl rfl) e_int) e_int rfl) (b_cons (s_ret (e_tup (a_c rfl (e_tup (a_c rfl (e_str (s := [105, 116]) rfl rfl) a_nil)) (a_c rfl e_int (a_c rfl e_int (a_c rfl e_bl a_nil)))))) b_nil) b_nil) (b_cons (s_if (PW.pt (t_and (y_cmp B .eq (e_bin (o := .mod) (x_var B 2 rfl rfl rfl) e_int) e_int rfl) (t_and1 (t_val (x_var B 1 rfl rfl rfl) (fun _ => rfl))))) (b_cons (s_ret (e_tup (a_c rfl (x_sub B (e_lst (a_c rfl (e_tup (a_c rfl (e_str (s := [115, 116, 101, 109]) rfl rfl) a_nil)) (a_c rfl (e_tup (a_c rfl (e_str (s := [107, 105, 110]) rfl rfl) (a_c rfl (x_cal B 6 1 rfl rfl rfl rfl rfl rfl (a_c rfl (e_bin (o := .fdv) (x_var B 2 rfl rfl rfl) e_int) a_nil)) a_nil))) a_nil))) (e_bin (o := .mod) (e_bin (o := .fdv) (x_var B 2 rfl rfl rfl) e_int) e_int) (fun _ _ => rfl)) (a_c rfl e_int (a_c rfl e_int (a_c rfl e_bl a_nil)))))) b_nil) b_nil) (b_cons (s_ret (e_tup (a_c rfl (e_tup (a_c rfl (e_str (s := [116, 104, 105, 110, 103]) rfl rfl) (a_c rfl (x_cal B 7 1 rfl rfl rfl rfl rfl rfl (a_c rfl (e_bin (o := .fdv) (x_var B 2 rfl rfl rfl) e_int) a_nil)) a_nil))) (a_c rfl e_int (a_c rfl e_int (a_c rfl e_bl a_nil)))))) b_nil))))))
set_option maxHeartbeats 4000000 in
theorem body10 {CA : Nat → Addr} {X : Cx} {cf : Nat → List D → Out (D × Nat)} {W : WX} (Y : Body (defScope s10) X (T.nm N10) G CA cf np bl W)   : PSs X (defBody s10) (tB X G CA cf W [] c10) :=
  have B := Y.en; have pas := Y.pas; have hk := Y.kd; (b_cons (z_asg B 2 rfl rfl rfl (e_bin (o := .add) e_int (x_bif B .max rfl rfl rfl rfl rfl rfl (a_c rfl (x_lc1 B 3 rfl rfl rfl rfl (i_val (x_var B 1 rfl rfl rfl)) (fun _ _ _ _ _ _ => ts_nil) (fun _ _ _ _ _ I => (x_sub I (x_var I 3 rfl rfl rfl) e_int (fun _ _ => rfl)))) a_nil)))) (b_cons (z_asg B 4 rfl rfl rfl (e_bin (o := .add) e_int (x_bif B .sum rfl rfl rfl rfl rfl rfl (a_c rfl (x_lc1 B 3 rfl rfl rfl rfl (i_val (x_var B 1 rfl rfl rfl)) (fun _ _ _ _ _ _ => ts_nil) (fun _ _ _ _ _ I => (x_sub I (x_var I 3 rfl rfl rfl) e_int (fun _ _ => rfl)))) a_nil)))) (b_cons (z_asg B 5 rfl rfl rfl (x_bif B .any rfl rfl rfl rfl rfl rfl (a_c rfl (x_lc1 B 3 rfl rfl rfl rfl (i_val (x_var B 1 rfl rfl rfl)) (fun _ _ _ _ _ _ => ts_nil) (fun _ _ _ _ _ I => (x_sub I (x_var I 3 rfl rfl rfl) e_int (fun _ _ => rfl)))) a_nil))) (b_cons (s_if (y_cmp B .eq (x_var B 0 rfl rfl rfl) (e_str (s := [101, 97, 99, 104]) rfl rfl) rfl) (b_cons (z_asg B 5 rfl rfl rfl (x_sub B (x_sub B (x_var B 1 rfl rfl rfl) e_int (fun _ _ => rfl)) e_int (fun _ _ => rfl))) b_nil) b_nil) (b_cons (s_ret (e_tup (a_c rfl (x_bif B .tuple rfl rfl rfl rfl rfl rfl (a_c rfl (e_bin (o := .add) (e_lst (a_c rfl (x_var B 0 rfl rfl rfl) a_nil)) (x_lc1 B 3 rfl rfl rfl rfl (i_val (x_var B 1 rfl rfl rfl)) (fun _ _ _ _ _ _ => ts_nil) (fun _ _ _ _ _ I => (x_sub I (x_var I 3 rfl rfl rfl) e_int (fun _ _ => rfl))))) a_nil)) (a_c rfl (x_var B 2 rfl rfl rfl) (a_c rfl (x_var B 4 rfl rfl rfl) (a_c rfl (x_var B 5 rfl rfl rfl) a_nil)))))) b_nil)))))
set_option maxHeartbeats 4000000 in
theorem body11 {CA : Nat → Addr} {X : Cx} {cf : Nat → List D → Out (D × Nat)} {W : WX} (Y : Body (defScope s11) X (T.nm N11) G CA cf np bl W)   : PSs X (defBody s11) (tB X G CA cf W [] c11) :=
  have B := Y.en; have pas := Y.pas; have hk := Y.kd; (b_cons (z_asg B 3 rfl rfl rfl (x_cal B 4 2 rfl rfl rfl rfl rfl rfl (a_c rfl (x_var B 1 rfl rfl rfl) (a_c rfl e_int a_nil)))) (b_cons (z_asg B 4 rfl rfl rfl (e_lst (a_c rfl (e_str (s := [111, 102]) rfl rfl) (a_c rfl (e_str (s := [98, 97, 99, 107]) rfl rfl) (a_c rfl (e_str (s := [102, 105, 114, 115, 116]) rfl rfl) (a_c rfl (e_str (s := [114, 101, 115, 116]) rfl rfl) (a_c rfl (e_str (s := [99, 111, 117, 110, 116]) rfl rfl) (a_c rfl (e_str (s := [115, 111, 114, 116, 101, 100]) rfl rfl) (a_c rfl (e_str (s := [102, 97, 105, 108]) rfl rfl) (a_c rfl (e_str (s := [101, 97, 99, 104]) rfl rfl) (a_c rfl (e_str (s := [101, 97, 99, 104]) rfl rfl) (a_c rfl (e_str (s := [105, 102]) rfl rfl) (a_c rfl (e_str (s := [106, 111, 105, 110]) rfl rfl) (a_c rfl (e_str (s := [106, 111, 105, 110]) rfl rfl) a_nil)))))))))))))) (b_cons (z_asg B 5 rfl rfl rfl (x_sub B (x_var B 4 rfl rfl rfl) (e_bin (o := .mod) (x_var B 3 rfl rfl rfl) e_int) (fun _ _ => rfl))) (b_cons (z_asg B 6 rfl rfl rfl (x_sub B (e_lst (a_c rfl e_int (a_c rfl e_int (a_c rfl e_int (a_c rfl e_int (a_c rfl e_int (a_c rfl e_int (a_c rfl e_int (a_c rfl e_int (a_c rfl e_int (a_c rfl e_int (a_c rfl (e_bin (o := .add) e_int (e_bin (o := .mod) (e_bin (o := .fdv) (x_var B 3 rfl rfl rfl) e_int) e_int)) (a_c rfl (e_bin (o := .add) e_int (e_bin (o := .mod) (e_bin (o := .fdv) (x_var B 3 rfl rfl rfl) e_int) e_int)) a_nil))))))))))))) (e_bin (o := .mod) (x_var B 3 rfl rfl rfl) e_int) (fun _ _ => rfl))) (b_cons (s_if (PW.pt (t_or (y_cmp B .eq (e_bin (o := .mod) (e_bin (o := .fdv) (x_var B 3 rfl rfl rfl) e_int) e_int) e_int rfl) (t_or1 (y_cmp B .lt (x_bif B .len rfl rfl rfl rfl rfl rfl (a_c rfl (x_var B 0 rfl rfl rfl) a_nil)) (x_var B 6 rfl rfl rfl) rfl)))) (b_cons (s_ret (e_bin (o := .add) (x_var B 0 rfl rfl rfl) (e_lst (a_c rfl (x_cal B 9 2 rfl rfl rfl rfl rfl rfl (a_c rfl (x_var B 1 rfl rfl rfl) (a_c rfl (x_var B 2 rfl rfl rfl) a_nil))) a_nil)))) b_nil) b_nil) (b_cons (z_asg B 7 rfl rfl rfl (x_cal B 10 2 rfl rfl rfl rfl rfl rfl (a_c rfl (x_var B 5 rfl rfl rfl) (a_c rfl (e_slc (x_var B 0 rfl rfl rfl) (o_some (e_bin (o := .sub) (x_bif B .len rfl rfl rfl rfl rfl rfl (a_c rfl (x_var B 0 rfl rfl rfl) a_nil)) (x_var B 6 rfl rfl rfl))) o_none) a_nil)))) (b_cons (s_if (PW.pt (t_or (y_cmp B .gt (x_sub B (x_var B 7 rfl rfl rfl) e_int (fun _ _ => rfl)) e_int rfl) (t_or1 (y_cmp B .gt (x_sub B (x_var B 7 rfl rfl rfl) e_int (fun _ _ => rfl)) e_int rfl)))) (b_cons (s_ret (e_bin (o := .add) (x_var B 0 rfl rfl rfl) (e_lst (a_c rfl (x_cal B 9 2 rfl rfl rfl rfl rfl rfl (a_c rfl (x_var B 1 rfl rfl rfl) (a_c rfl (x_var B 2 rfl rfl rfl) a_nil))) a_nil)))) b_nil) b_nil) (b_cons (s_ret (e_bin (o := .add) (e_slc (x_var B 0 rfl rfl rfl) o_none (o_some (e_bin (o := .sub) (x_bif B .len rfl rfl rfl rfl rfl rfl (a_c rfl (x_var B 0 rfl rfl rfl) a_nil)) (x_var B 6 rfl rfl rfl)))) (e_lst (a_c rfl (x_var B 7 rfl rfl rfl) a_nil)))) b_nil))))))))
set_option maxHeartbeats 4000000 in
theorem body12 {CA : Nat → Addr} {X : Cx} {cf : Nat → List D → Out (D × Nat)} {W : WX} (Y : Body (defScope s12) X (T.nm N12) G CA cf np bl W)   : PSs X (defBody s12) (tB X G CA cf W [] c12) :=
  have B := Y.en; have pas := Y.pas; have hk := Y.kd; (b_cons (z_asg B 2 rfl rfl rfl (e_lst (a_c rfl (x_cal B 9 2 rfl rfl rfl rfl rfl rfl (a_c rfl (x_bif B .len rfl rfl rfl rfl rfl rfl (a_c rfl (x_var B 0 rfl rfl rfl) a_nil)) (a_c rfl (x_var B 1 rfl rfl rfl) a_nil))) a_nil))) (b_cons (z_forT B pas [3, 4] (by decide) (.cons rfl (loc_or rfl) (.cons rfl (loc_or rfl) .nil)) rfl (r_enu B rfl rfl rfl (x_var B 0 rfl rfl rfl)) (fun _ => (b_cons (z_asg B 2 rfl rfl rfl (x_cal B 11 3 rfl rfl rfl rfl rfl rfl (a_c rfl (e_slc (x_var B 2 rfl rfl rfl) (o_some (e_neg e_int)) o_none) (a_c rfl (e_bin (o := .add) (x_var B 4 rfl rfl rfl) (e_bin (o := .mul) e_int (x_var B 3 rfl rfl rfl))) (a_c rfl (x_var B 1 rfl rfl rfl) a_nil))))) b_nil))) (b_cons (z_asg B 5 rfl rfl rfl (x_sub B (x_var B 2 rfl rfl rfl) (e_neg e_int) (fun _ _ => rfl))) (b_cons (s_if (PW.pt (t_and (y_cmp B .gt (x_bif B .len rfl rfl rfl rfl rfl rfl (a_c rfl (x_var B 2 rfl rfl rfl) a_nil)) e_int rfl) (t_and (y_cmp B .lt (x_bif B .sum rfl rfl rfl rfl rfl rfl (a_c rfl (x_lc1 B 6 rfl rfl rfl rfl (i_val (x_var B 2 rfl rfl rfl)) (fun _ _ _ _ _ _ => ts_nil) (fun _ _ _ _ _ I => (x_sub I (x_var I 6 rfl rfl rfl) e_int (fun _ _ => rfl)))) a_nil)) e_int rfl) (t_and1 (y_cmp B .lt (x_bif B .max rfl rfl rfl rfl rfl rfl (a_c rfl (x_lc1 B 6 rfl rfl rfl rfl (i_val (x_var B 2 rfl rfl rfl)) (fun _ _ _ _ _ _ => ts_nil) (fun _ _ _ _ _ I => (x_sub I (x_var I 6 rfl rfl rfl) e_int (fun _ _ => rfl)))) a_nil)) e_int rfl))))) (b_cons (z_asg B 5 rfl rfl rfl (x_cal B 10 2 rfl rfl rfl rfl rfl rfl (a_c rfl (e_str (s := [106, 111, 105, 110]) rfl rfl) (a_c rfl (x_var B 2 rfl rfl rfl) a_nil)))) b_nil) b_nil) (b_cons (s_if (PW.pt (t_and (t_val (x_sub B (x_var B 5 rfl rfl rfl) e_int (fun _ _ => rfl)) (fun _ => rfl)) (t_and1 (y_cmp B .lt (x_sub B (x_var B 5 rfl rfl rfl) e_int (fun _ _ => rfl)) e_int rfl)))) (b_cons (z_asg B 5 rfl rfl rfl (x_cal B 10 2 rfl rfl rfl rfl rfl rfl (a_c rfl (e_str (s := [101, 97, 99, 104]) rfl rfl) (a_c rfl (e_lst (a_c rfl (e_tup (a_c rfl (e_tup (a_c rfl (e_str (s := [108, 105, 110, 101]) rfl rfl) a_nil)) (a_c rfl e_int (a_c rfl e_int (a_c rfl e_bl a_nil))))) (a_c rfl (x_var B 5 rfl rfl rfl) a_nil))) a_nil)))) b_nil) b_nil) (b_cons (s_if (t_val (x_sub B (x_var B 5 rfl rfl rfl) e_int (fun _ _ => rfl)) (fun _ => rfl)) (b_cons (s_ret (e_tup (a_c rfl (e_tup (a_c rfl (e_str (s := [108, 105, 110, 101]) rfl rfl) a_nil)) (a_c rfl e_int (a_c rfl e_int (a_c rfl e_bl a_nil)))))) b_nil) b_nil) (b_cons (z_retv B 5 rfl rfl rfl) b_nil)))))))
set_option maxHeartbeats 4000000 in
theorem body13 {CA : Nat → Addr} {X : Cx} {cf : Nat → List D → Out (D × Nat)} {W : WX} (Y : Body (defScope s13) X (T.nm N13) G CA cf np bl W)   : PSs X (defBody s13) (tB X G CA cf W [] c13) :=
  have B := Y.en; have pas := Y.pas; have hk := Y.kd; (b_cons (s_ret (e_and (x_isi B .int rfl rfl rfl rfl rfl rfl rfl rfl (x_var B 0 rfl rfl rfl)) (e_and (e_not (x_isi B .bool rfl rfl rfl rfl rfl rfl rfl rfl (x_var B 0 rfl rfl rfl))) (e_one (x_cmp B .eq (x_var B 0 rfl rfl rfl) (x_var B 1 rfl rfl rfl) rfl))))) b_nil)
set_option maxHeartbeats 4000000 in
theorem body14 {CA : Nat → Addr} {X : Cx} {cf : Nat → List D → Out (D × Nat)} {W : WX} (Y : Body (defScope s14) X (T.nm N14) G CA cf np bl W)   : PSs X (defBody s14) (tB X G CA cf W [] c14) :=
  have B := Y.en; have pas := Y.pas; have hk := Y.kd; (b_cons (z_asgT B [1, 2, 3, 4] (by decide) (.cons rfl (loc_or rfl) (.cons rfl (loc_or rfl) (.cons rfl (loc_or rfl) (.cons rfl (loc_or rfl) .nil)))) rfl rfl (x_cal B 12 2 rfl rfl rfl rfl rfl rfl (a_c rfl (e_slc (x_var B 0 rfl rfl rfl) (o_some e_int) o_none) (a_c rfl (x_cmp B .eq (e_bin (o := .mod) (x_cal B 3 2 rfl rfl rfl rfl rfl rfl (a_c rfl (x_var B 0 rfl rfl rfl) (a_c rfl e_int a_nil))) e_int) e_int rfl) a_nil)))) (b_cons (z_asg B 5 rfl rfl rfl (e_bin (o := .fdv) (x_cal B 3 2 rfl rfl rfl rfl rfl rfl (a_c rfl (x_var B 0 rfl rfl rfl) (a_c rfl e_int a_nil))) e_int)) (b_cons (s_if (y_cmp B .eq (e_bin (o := .mod) (x_cal B 3 2 rfl rfl rfl rfl rfl rfl (a_c rfl (x_var B 0 rfl rfl rfl) (a_c rfl e_int a_nil))) e_int) e_int rfl) (b_cons (z_for1 B pas 6 rfl rfl rfl (r_1 B rfl rfl rfl (e_bin (o := .mod) (x_var B 5 rfl rfl rfl) e_int)) (fun _ => (b_cons (z_asg B 1 rfl rfl rfl (e_tup (a_c rfl (x_sub B (e_lst (a_c rfl (e_str (s := [111, 102]) rfl rfl) (a_c rfl (e_str (s := [98, 97, 99, 107]) rfl rfl) (a_c rfl (e_str (s := [102, 105, 114, 115, 116]) rfl rfl) (a_c rfl (e_str (s := [114, 101, 115, 116]) rfl rfl) (a_c rfl (e_str (s := [99, 111, 117, 110, 116]) rfl rfl) (a_c rfl (e_str (s := [115, 111, 114, 116, 101, 100]) rfl rfl) (a_c rfl (e_str (s := [102, 97, 105, 108]) rfl rfl) a_nil)))))))) (e_bin (o := .mod) (e_bin (o := .add) (x_var B 5 rfl rfl rfl) (x_var B 6 rfl rfl rfl)) e_int) (fun _ _ => rfl)) (a_c rfl (x_var B 1 rfl rfl rfl) a_nil)))) (b_cons (z_par B hk 2 3 rfl rfl (by decide) rfl rfl rfl rfl rfl rfl rfl rfl (a_c rfl (e_bin (o := .add) (x_var B 2 rfl rfl rfl) e_int) (a_c rfl (e_bin (o := .add) (x_var B 3 rfl rfl rfl) e_int) a_nil))) b_nil)))) b_nil) b_nil) (b_cons (s_if (y_cmp B .eq (e_bin (o := .mod) (x_cal B 3 2 rfl rfl rfl rfl rfl rfl (a_c rfl (x_var B 0 rfl rfl rfl) (a_c rfl e_int a_nil))) e_int) e_int rfl) (b_cons (z_asg B 7 rfl rfl rfl (e_bin (o := .add) e_int (e_bin (o := .mod) (x_var B 5 rfl rfl rfl) e_int))) (b_cons (z_asg B 1 rfl rfl rfl (x_bif B .tuple rfl rfl rfl rfl rfl rfl (a_c rfl (e_bin (o := .add) (e_bin (o := .add) (e_lst (a_c rfl (e_str (s := [106, 111, 105, 110]) rfl rfl) a_nil)) (e_bin (o := .mul) (e_lst (a_c rfl (e_tup (a_c rfl (e_str (s := [108, 105, 110, 101]) rfl rfl) a_nil)) a_nil)) (x_var B 7 rfl rfl rfl))) (e_lst (a_c rfl (x_var B 1 rfl rfl rfl) a_nil))) a_nil))) (b_cons (z_par B hk 2 3 rfl rfl (by decide) rfl rfl rfl rfl rfl rfl rfl rfl (a_c rfl (e_bin (o := .add) (x_bif B .max rfl rfl rfl rfl rfl rfl (a_c rfl (x_var B 2 rfl rfl rfl) (a_c rfl e_int a_nil))) e_int) (a_c rfl (e_bin (o := .add) (e_bin (o := .add) (x_var B 3 rfl rfl rfl) (x_var B 7 rfl rfl rfl)) e_int) a_nil))) b_nil))) b_nil) (b_cons (z_for1 B pas 8 rfl rfl rfl (r_1 B rfl rfl rfl e_int) (fun _ => (b_cons (s_if (PW.pt (t_or (t_not (t_val (x_cal B 13 2 rfl rfl rfl rfl rfl rfl (a_c rfl (x_cal B 1 1 rfl rfl rfl rfl rfl rfl (a_c rfl (x_var B 1 rfl rfl rfl) a_nil)) (a_c rfl (x_var B 2 rfl rfl rfl) a_nil))) (fun _ => rfl))) (t_or1 (t_not (t_val (x_cal B 13 2 rfl rfl rfl rfl rfl rfl (a_c rfl (x_cal B 2 1 rfl rfl rfl rfl rfl rfl (a_c rfl (x_var B 1 rfl rfl rfl) a_nil)) (a_c rfl (x_var B 3 rfl rfl rfl) a_nil))) (fun _ => rfl)))))) (b_cons (s_ret e_bl) b_nil) b_nil) b_nil))) (b_cons (s_ret e_bl) b_nil))))))
end K21

namespace K21
open Vy
/-- a tree, its height, its size -/
def quoted : List Cs := [[116, 101, 120, 116], [116, 104, 105, 110, 103], [107, 105, 110]]
inductive Tr : D → Nat → Nat → Prop
  | leaf (w s : Cs) : w ∈ quoted → s.length ≤ 2000 → Tr (.tup [.str w, .str s]) 1 1
  | node (w : Cs) (ps : List (D × Nat × Nat)) : w ∉ quoted → w.length ≤ 10 → ps.length ≤ 1000 → (∀ p ∈ ps, Tr p.1 p.2.1 p.2.2) → Tr (.tup (.str w :: ps.map (·.1))) (1 + (ps.map (·.2.1)).foldr max 0) (1 + (ps.map (·.2.2)).sum)
theorem mdepL_zero {xs : List D} (h : ∀ d ∈ xs, d.mdep = 0) : mdepL xs = 0 := Nat.le_zero.mp (mdepL_le fun d hd => Nat.le_of_eq (h d hd))
theorem Tr.imm {d : D} {h m : Nat} (t : Tr d h m) : d.mdep = 0 := by
  induction t with
  | leaf w s _ _ => simp
  | node w ps _ _ _ _ ih =>
    simp only [mdep_tup, mdepL_cons, mdep_str]
    have := mdepL_zero (xs := ps.map (·.1)) fun d hd => by
      obtain ⟨p, hp, rfl⟩ := List.mem_map.mp hd
      exact ih p hp
    rw [this]; rfl
theorem Tr.tup {d : D} {h m : Nat} (t : Tr d h m) : ∃ xs, d = .tup xs := by cases t <;> exact ⟨_, rfl⟩
theorem in_tups (s : Cs) (l : List Cs) : cmpD .isin (.str s) (.tup (l.map D.str)) = some (l.contains s) := by
  simp only [cmpD, inD]
  rw [go_pos ⟨rfl, eqOkL_strs l, by rw [show (D.str s).dep = 0 from rfl]; omega⟩, any_strs]
theorem slc_tail (x : D) (xs : List D) (h : mdepL (x :: xs) = 0) : slcD (.tup (x :: xs)) (some 1) none = some (.tup xs, 9) := by
  simp only [slcD, go_pos h, cut]
  have e1 : sx (x :: xs).length 0 (some 1) = 1 := by simp [sx]
  have e2 : sx (x :: xs).length (x :: xs).length none = xs.length + 1 := by simp [sx]
  rw [e1, e2]
  simp
theorem norm_im {d : D} (h : d.mdep = 0) (n : Nat) : norm (d, n) = (d, 9) := by simp [norm, h]
/-- the parts of a tree -/
theorem parts (k : Nat) (w : Cs) (xs : List D) (h : mdepL xs = 0) : run G Pr (k+1) 0 [.tup (.str w :: xs)] = .ok (.lst (if w ∈ quoted then [] else xs), if w ∈ quoted then 10 else 9) := by
  rw [run_eq G Pr k 0 _ ⟨1, 1, c0⟩ rfl rfl, c0]
  have hm : (D.tup (.str w :: xs)).mdep = 0 := by simp [h]
  have hi := in_tups w quoted
  have ht := slc_tail (.str w) xs (by simp [h])
  have hl : bifD .list [(.tup xs, 9)] = some (.lst xs, 9) := by simp [bifD, lv1, h]
  have e : [D.str [116, 101, 120, 116], D.str [116, 104, 105, 110, 103], D.str [107, 105, 110]] = quoted.map D.str := rfl
  by_cases hq : w ∈ quoted
  · simp [norm_im hm, gd, SZ, e, hi, hq]
  · simp [norm_im hm, gd, SZ, e, hi, hq, ht, hl]
theorem put_any (ρ : Env) (i : Nat) (d : D) : Tg.put ρ (.one i) d = .ok (setV ρ i (d, 0)) := id rfl
theorem intsOf_map (l : List Int) : intsOf (l.map D.int) = some l := by
  induction l with
  | nil => rfl
  | cons s r ih => rw [List.map_cons, intsOf, ih]; rfl
theorem maxI_nat : ∀ (l : List Nat) (n : Nat), maxI (n : Int) (l.map fun m => ((m : Nat) : Int)) = ((max n (l.foldr max 0) : Nat) : Int)
  | [], n => by simp [maxI]
  | m :: l, n => by
    rw [List.map_cons, maxI]
    by_cases h : (n : Int) < (m : Int)
    · rw [if_pos h, maxI_nat l m, List.foldr_cons]; congr 1; omega
    · rw [if_neg h, maxI_nat l n, List.foldr_cons]; congr 1; omega
theorem maxd_nat (l : List Nat) (n : Nat) : bifD .maxd [(.lst (l.map fun m => D.int ((m : Nat) : Int)), n)] = some (.int ((l.foldr max 0 : Nat) : Int), 9) := by
  have e : intsOf (l.map fun m => D.int ((m : Nat) : Int)) = some (l.map fun m => ((m : Nat) : Int)) := by
    have := intsOf_map (l.map fun m => ((m : Nat) : Int))
    rwa [List.map_map] at this
  simp only [bifD, e]
  cases l with
  | nil => rfl
  | cons m l => simp only [List.map_cons]; rw [maxI_nat]; rfl
theorem sum_nat (l : List Nat) (n : Nat) : bifD .sum [(.lst (l.map fun m => D.int ((m : Nat) : Int)), n)] = some (.int ((l.sum : Nat) : Int), 9) := by
  have e : intsOf (l.map fun m => D.int ((m : Nat) : Int)) = some (l.map fun m => ((m : Nat) : Int)) := by
    have := intsOf_map (l.map fun m => ((m : Nat) : Int))
    rwa [List.map_map] at this
  simp only [bifD, e, Option.map_some]
  congr 3
  induction l with
  | nil => rfl
  | cons m l ih =>
    simp only [List.map_cons, List.sum_cons]
    have := ih (by
      have := intsOf_map (l.map fun m => ((m : Nat) : Int))
      rwa [List.map_map] at this)
    omega
theorem le_foldr {l : List Nat} {n : Nat} (h : n ∈ l) : n ≤ l.foldr max 0 := by
  induction l with
  | nil => cases h
  | cons m l ih =>
    rw [List.foldr_cons]
    rcases List.mem_cons.mp h with rfl | h
    · omega
    · have := ih h; omega
theorem height {d : D} {h m : Nat} (t : Tr d h m) : ∀ k, run G Pr (k + h + 1) 1 [d] = .ok (.int (h : Nat), 9) := by
  induction t with
  | leaf w s hw hs =>
    intro k
    rw [run_eq G Pr (k + 1) 1 _ ⟨1, 2, c1⟩ rfl rfl, c1]
    have p := parts k w [.str s] (by simp)
    simp [hw] at p
    have e := maxd_nat [] 10
    simp at e
    simp [norm_im (d := .tup [.str w, .str s]) (by simp), p, itemsOf, compL, e]
  | node w ps hw hl hp ht ih =>
    intro k
    rw [show k + (1 + (ps.map (·.2.1)).foldr max 0) + 1 = (k + (ps.map (·.2.1)).foldr max 0 + 1) + 1 by omega, run_eq G Pr (k + (ps.map (·.2.1)).foldr max 0 + 1) 1 _ ⟨1, 2, c1⟩ rfl rfl, c1]
    have hm : mdepL (ps.map (·.1)) = 0 := mdepL_zero fun d hd => by
      obtain ⟨p, hp, rfl⟩ := List.mem_map.mp hd
      exact (ht p hp).imm
    have p := parts (k + (ps.map (·.2.1)).foldr max 0) w (ps.map (·.1)) hm
    simp only [hw, if_false] at p
    have hc : compL (turnF G (run G Pr (k + (ps.map (·.2.1)).foldr max 0 + 1)) [some (.tup (.str w :: ps.map (·.1)), 9), none] (.one 1) none (.cal 1 [.var 1])) (ps.map (·.1)) = .ok (ps.map fun p => (D.int ((p.2.1 : Nat) : Int), 9)) := by
      refine compL_mp (fun q hq => ?_) (Nat.le_trans hp (by decide))
      have hle := le_foldr (List.mem_map.mpr ⟨q, hq, rfl⟩ : q.2.1 ∈ ps.map (·.2.1))
      have i := ih q hq (k + (ps.map (·.2.1)).foldr max 0 - q.2.1)
      rw [show k + (ps.map (·.2.1)).foldr max 0 - q.2.1 + q.2.1 + 1 = k + (ps.map (·.2.1)).foldr max 0 + 1 by omega] at i
      simp [turnF, put_any, setV, norm_im (ht q hq).imm, i]
    have e := fun n => maxd_nat (ps.map (·.2.1)) n
    simp only [List.map_map, Function.comp_def] at e
    have hd : (D.tup (.str w :: ps.map (·.1))).mdep = 0 := by simp [hm]
    simp [norm_im hd, p, itemsOf, hc, Function.comp_def, e]

theorem size {d : D} {h m : Nat} (t : Tr d h m) : ∀ k, run G Pr (k + h + 1) 2 [d] = .ok (.int (m : Nat), 9) := by
  induction t with
  | leaf w s hw hs =>
    intro k
    rw [run_eq G Pr (k + 1) 2 _ ⟨1, 2, c2⟩ rfl rfl, c2]
    have p := parts k w [.str s] (by simp)
    simp [hw] at p
    have e := sum_nat [] 10
    simp at e
    simp [norm_im (d := .tup [.str w, .str s]) (by simp), p, itemsOf, compL, e]
  | node w ps hw hl hp ht ih =>
    intro k
    rw [show k + (1 + (ps.map (·.2.1)).foldr max 0) + 1 = (k + (ps.map (·.2.1)).foldr max 0 + 1) + 1 by omega, run_eq G Pr (k + (ps.map (·.2.1)).foldr max 0 + 1) 2 _ ⟨1, 2, c2⟩ rfl rfl, c2]
    have hm : mdepL (ps.map (·.1)) = 0 := mdepL_zero fun d hd => by
      obtain ⟨p, hp, rfl⟩ := List.mem_map.mp hd
      exact (ht p hp).imm
    have p := parts (k + (ps.map (·.2.1)).foldr max 0) w (ps.map (·.1)) hm
    simp only [hw, if_false] at p
    have hc : compL (turnF G (run G Pr (k + (ps.map (·.2.1)).foldr max 0 + 1)) [some (.tup (.str w :: ps.map (·.1)), 9), none] (.one 1) none (.cal 2 [.var 1])) (ps.map (·.1)) = .ok (ps.map fun p => (D.int ((p.2.2 : Nat) : Int), 9)) := by
      refine compL_mp (fun q hq => ?_) (Nat.le_trans hp (by decide))
      have hle := le_foldr (List.mem_map.mpr ⟨q, hq, rfl⟩ : q.2.1 ∈ ps.map (·.2.1))
      have i := ih q hq (k + (ps.map (·.2.1)).foldr max 0 - q.2.1)
      rw [show k + (ps.map (·.2.1)).foldr max 0 - q.2.1 + q.2.1 + 1 = k + (ps.map (·.2.1)).foldr max 0 + 1 by omega] at i
      simp [turnF, put_any, setV, norm_im (ht q hq).imm, i]
    have e := fun n => sum_nat (ps.map (·.2.2)) n
    simp only [List.map_map, Function.comp_def] at e
    have hd : (D.tup (.str w :: ps.map (·.1))).mdep = 0 := by simp [hm]
    simp [norm_im hd, p, itemsOf, hc, Function.comp_def, e]
/-! ### what is drawn -/
def letters : Cs := [97, 98, 99, 100, 101, 102, 103, 104, 105, 106, 107, 108, 109, 110, 111, 112, 113, 114, 115, 116, 117, 118, 119, 120, 121, 122]
def keptL : List Cs := [[111, 102], [105, 102], [105, 115], [116, 104, 101, 110], [101, 108, 115, 101], [101, 97, 99, 104], [100, 111], [105, 116], [98, 97, 99, 107], [102, 105, 114, 115, 116], [114, 101, 115, 116], [99, 111, 117, 110, 116], [115, 111, 114, 116, 101, 100], [102, 97, 105, 108], [108, 105, 110, 101], [109, 111, 114, 101]]
def cellN (ns : List Int) (i : Int) : Int := if i < ns.length then ns.getD i.toNat 0 else 0
theorem cell (k : Nat) (ns : List Int) (i : Int) (h : 0 ≤ i) : run G Pr (k+1) 3 [.scr ns, .int i] = .ok (.int (cellN ns i), 9) := by
  rw [run_eq G Pr k 3 _ ⟨2, 2, c3⟩ rfl rfl, c3]
  unfold cellN
  by_cases hi : i < ns.length
  · simp [hi, sub_scr h hi]
  · simp [hi]
def mx (a j : Int) : Int := (a + 7919 * j) * 48271 % 2147483647 * ((a + 7919 * j) * 48271 % 2147483647 + 2 * j + 1) % 2147483629
theorem mx_nn (a j : Int) : 0 ≤ mx a j := Int.emod_nonneg _ (by omega)
theorem mx_lt (a j : Int) : mx a j < 2147483629 := Int.emod_lt_of_pos _ (by omega)
theorem mixed (k : Nat) (a j : Int) : run G Pr (k+1) 4 [.int a, .int j] = .ok (.int (mx a j), 9) := by
  rw [run_eq G Pr k 4 _ ⟨2, 3, c4⟩ rfl rfl, c4]
  have m1 : ∀ j, mulOk 7919 j := fun j => .inl ⟨by omega, by omega⟩
  have m2 : ∀ j, mulOk j 48271 := fun j => .inr ⟨by omega, by omega⟩
  have m3 : ∀ j, mulOk 2 j := fun j => .inl ⟨by omega, by omega⟩
  have m4 : ∀ i j, mulOk (i % 2147483647) j := fun i j => .inl ⟨by omega, by omega⟩
  simp [List.replicate, mul_int (m1 _), mul_int (m2 _), mul_int (m3 _), mul_int (m4 _ _), mod_int, mx]
def keptT : Cs := [111, 102, 32, 105, 102, 32, 105, 115, 32, 116, 104, 101, 110, 32, 101, 108, 115, 101, 32, 101, 97, 99, 104, 32, 100, 111, 32, 105, 116, 32, 98, 97, 99, 107, 32, 102, 105, 114, 115, 116, 32, 114, 101, 115, 116, 32, 99, 111, 117, 110, 116, 32, 115, 111, 114, 116, 101, 100, 32, 102, 97, 105, 108, 32, 108, 105, 110, 101, 32, 109, 111, 114, 101]
theorem c5_eq : c5 = [.ret (.mth .split (.cst (.str keptT)) [.cst (.str [32])])] := rfl
theorem spl_kept : TL.spl [32] 0 [] keptT = keptL := by decide +kernel
theorem keptR (k : Nat) : run G Pr (k+1) 5 [] = .ok (.lst (keptL.map .str), 9) := by
  rw [run_eq G Pr k 5 _ ⟨0, 0, c5⟩ rfl rfl, c5_eq]
  have h := split_ok (s := keptT) (p := [32]) (m := 9) (n := 9) (by simp) (by decide) (by rw [show keptT.length = 73 by decide]; decide)
  rw [spl_kept] at h
  simp [recvOk, h]
theorem keptL_get (i : Int) (h0 : 0 ≤ i) (h : i < 16) : ∃ w : Cs, w.length ≤ 6 ∧ w ∈ keptL ∧ (keptL.map D.str)[i.toNat]? = some (.str w) := by
  have hl : i.toNat < keptL.length := by rw [show keptL.length = 16 by decide]; omega
  refine ⟨keptL[i.toNat], ?_, List.getElem_mem hl, by rw [List.getElem?_map, List.getElem?_eq_getElem hl]; rfl⟩
  have : ∀ w ∈ keptL, w.length ≤ 6 := by decide
  exact this _ (List.getElem_mem hl)
theorem letters_len : letters.length = 26 := by decide
def pk (a : Int) (j : Nat) : Nat := letters.getD (mx a j / 7 % 26).toNat 0
/-- a plain name -/
theorem plainA (k : Nat) (a : Int) : ∃ w : Cs, w.length ≤ 8 ∧ exB G (run G Pr (k+1)) [] (initE 5 [.int a]) c6 = exB G (run G Pr (k+1)) [] [some (.int a, 9), some (.str letters, 9), some (.int (mx a 3), 9), some (.str w, 9), none] (c6.drop 3) := by
  have hn : 1 + mx a 3 % 8 = ((1 + mx a 3 % 8).toNat : Nat) := by omega
  have hlt : (1 + mx a 3 % 8).toNat ≤ 8 := by omega
  generalize (1 + mx a 3 % 8).toNat = n at hn hlt
  refine ⟨(List.range n).map (pk a), by simp; omega, exB_at _ _ _ 3 _ _ ?_⟩
  have hc : compL (turnF G (run G Pr (k+1)) [some (.int a, 9), some (.str letters, 9), some (.int (mx a 3), 9), none, none] (.one 4) none (.sub (.var 1) (.bin .mod (.bin .fdv (.cal 4 [.var 0, .var 4]) (.cst (.int 7))) (.cst (.int 26))))) ((List.range n).map fun (j : Nat) => D.int (j : Int)) = .ok ((List.range n).map fun (j : Nat) => (D.str [pk a j], 9)) := by
    refine compL_mp (fun j hj => ?_) (by rw [List.length_range]; exact Nat.le_trans hlt (by decide))
    have z : subD (.str letters) (.int (mx a j / 7 % 26)) = some (.str [pk a j], 9) := sub_str (by rw [letters_len]; decide) (by omega) (by rw [letters_len]; omega)
    simp [turnF, mixed, mod_int, fdv_int, z]
  have e := rng_nat (n := n) (by omega)
  have hj := fun m => join1 (pk a) (List.range n) 9 m (by rw [List.length_range]; omega)
  rw [show c6.take 3 = [.asg 1 (.cst (.str letters)), .asg 2 (.cal 4 [.var 0, .cst (.int 3)]), .asg 3 (.mth .join (.cst (.str [])) [.lc (.rng [.bin .add (.cst (.int 1)) (.bin .mod (.var 2) (.cst (.int 8)))]) (.one 4) none (.sub (.var 1) (.bin .mod (.bin .fdv (.cal 4 [.var 0, .var 4]) (.cst (.int 7))) (.cst (.int 26))))])] from rfl]
  simp [List.replicate, mixed, mod_int, hn, e, itemsOf, hc, recvOk, Function.comp_def, hj]
theorem plainW (k : Nat) (a : Int) : ∃ w : Cs, w.length ≤ 10 ∧ run G Pr (k+2) 6 [.int a] = .ok (.str w, 9) := by
  obtain ⟨w, hw, e⟩ := plainA k a
  rw [run_eq G Pr (k+1) 6 _ ⟨1, 5, c6⟩ rfl rfl]
  show ∃ w : Cs, w.length ≤ 10 ∧ outS (exB G (run G Pr (k+1)) [] (initE 5 [.int a]) c6) = _
  rw [e]
  have fin : ∀ u : Cs, u.length ≤ 8 → ∃ w : Cs, w.length ≤ 10 ∧ outS (exB G (run G Pr (k+1)) [] [some (.int a, 9), some (.str letters, 9), some (.int (mx a 3), 9), some (.str u, 9), none] (c6.drop 4)) = .ok (.str w, 9) := fun u hu => by
    have ha : binD .add (.str u, 0) (.str [120], 9) = some (.str (u ++ [120]), 9) := add_str (Nat.le_trans (by simp; omega : _ ≤ 10) (by decide))
    by_cases hk : u ∈ keptL
    · exact ⟨u ++ [120], by simp; omega, by simp [c6, keptR, in_strs, hk, ha]⟩
    · exact ⟨u, by omega, by simp [c6, keptR, in_strs, hk]⟩
  by_cases h : mx a 3 / 8 % 6 = 1
  · obtain ⟨u, hu, _, ku⟩ := keptL_get (mx a 3 / 48 % 16) (by omega) (by omega)
    have k0 : subD (.lst (keptL.map D.str)) (.int (mx a 3 / 48 % 16)) = some (.str u, 0) := sub_lst (by omega) ku
    have := exB_at G (run G Pr (k+1)) [] 1 (c6.drop 3) [some (.int a, 9), some (.str letters, 9), some (.int (mx a 3), 9), some (.str w, 9), none] (ρ' := [some (.int a, 9), some (.str letters, 9), some (.int (mx a 3), 9), some (.str u, 9), none]) (by simp [c6, mod_int, fdv_int, h, keptR, k0])
    rw [this]
    exact fin u (by omega)
  · have := exB_at G (run G Pr (k+1)) [] 1 (c6.drop 3) [some (.int a, 9), some (.str letters, 9), some (.int (mx a 3), 9), some (.str w, 9), none] (ρ' := [some (.int a, 9), some (.str letters, 9), some (.int (mx a 3), 9), some (.str w, 9), none]) (by simp [c6, mod_int, fdv_int, h])
    rw [this]
    exact fin w (by omega)
theorem nameW (k : Nat) (a : Int) : ∃ w : Cs, w.length ≤ 30 ∧ run G Pr (k+3) 7 [.int a] = .ok (.str w, 9) := by
  rw [run_eq G Pr (k+2) 7 _ ⟨1, 1, c7⟩ rfl rfl, c7]
  obtain ⟨w, hw, e⟩ := plainW k a
  have e5 := mixed (k+1) a 5
  have e6 := mixed (k+1) a 6
  by_cases h : mx a 5 % 3 = 1
  · obtain ⟨v, hv, e2⟩ := plainW k (mx a 6)
    have a1 : binD .add (.str w, 9) (.str [46], 9) = some (.str (w ++ [46]), 9) := add_str (Nat.le_trans (by simp; omega : _ ≤ 30) (by decide))
    have a2 : binD .add (.str (w ++ [46]), 9) (.str v, 9) = some (.str (w ++ [46] ++ v), 9) := add_str (Nat.le_trans (by simp; omega : _ ≤ 30) (by decide))
    exact ⟨w ++ [46] ++ v, by simp; omega, by simp [e5, mod_int, h, e, a1, e6, e2, a2]⟩
  · exact ⟨w, by omega, by simp [e5, mod_int, h, e]⟩

/-! ### the pile -/
abbrev Ent := D × Nat × Nat × Bool
def Ent.d (e : Ent) : D := .tup [e.1, .int (e.2.1 : Nat), .int (e.2.2.1 : Nat), .bl e.2.2.2]
def Ent.Ok (e : Ent) : Prop := Tr e.1 e.2.1 e.2.2.1
theorem Ent.Ok.imm {e : Ent} (h : e.Ok) : e.d.mdep = 0 := by
  have : e.1.mdep = 0 := Tr.imm h
  simp [Ent.d, this]
theorem tr1 (w : Cs) (h : w ∉ quoted) (hl : w.length ≤ 10) : Tr (.tup [.str w]) 1 1 := by
  have := Tr.node w [] h hl (by simp) (by simp)
  simpa using this
def s95a : Cs := [32, 33, 35, 36, 38, 39, 40, 41, 42, 43, 44, 45, 46, 47, 48, 49, 50, 51, 52, 53, 54, 55, 56, 57, 58, 59, 60, 61, 62, 63, 64, 65, 66, 67, 68, 69, 70, 71, 72, 73, 74, 75, 76, 77, 78, 79, 80, 81, 82, 83, 84, 85, 86, 87, 88, 89, 90, 91, 92, 93, 94, 95, 96]
def s95b : Cs := [97, 98, 99, 100, 101, 102, 103, 104, 105, 106, 107, 108, 109, 110, 111, 112, 113, 114, 115, 116, 117, 118, 119, 120, 121, 122, 123, 124, 125, 126]
def s95 : Cs := s95a ++ s95b
theorem s95_len : s95.length = 93 := by decide
theorem c8_eq : c8 = [.asg 0 (.cst (.str s95a)), .ret (.bin .add (.var 0) (.cst (.str s95b)))] := rfl
theorem signs (k : Nat) : run G Pr (k+1) 8 [] = .ok (.str s95, 9) := by
  rw [run_eq G Pr k 8 _ ⟨0, 1, c8⟩ rfl rfl, c8_eq]
  have e : binD .add (.str s95a, 0) (.str s95b, 9) = some (.str s95, 9) := add_str (by rw [show s95a.length = 63 by decide, show s95b.length = 30 by decide]; decide)
  simp [List.replicate, e]
def tk (a : Int) (j : Nat) : Nat := s95.getD ((a / 7 + (j : Int) * (1 + a % 3)) % 93).toNat 0
/-- the first kind of leaf -/
theorem leafT (k : Nat) (a l : Int) (hl : 0 ≤ l) (fam : Bool) (n : Nat) (hn : n ≤ 60) : ∃ t : Cs, t.length ≤ 60 ∧ compL (turnF G (run G Pr k) [some (.int a, 9), some (.bl fam, 9), some (.int l, 9), some (.str s95, 9), some (.int (n : Int), 9), none, none] (.one 6) none (.sub (.var 3) (.bin .mod (.bin .add (.bin .fdv (.var 2) (.cst (.int 7))) (.bin .mul (.var 6) (.bin .add (.cst (.int 1)) (.bin .mod (.var 2) (.cst (.int 3)))))) (.cst (.int 93))))) ((List.range n).map fun (j : Nat) => D.int (j : Int)) = .ok (t.map fun c => (D.str [c], 9)) := by
  refine ⟨(List.range n).map (tk l), by simp; omega, ?_⟩
  rw [List.map_map]
  refine compL_mp (fun j hj => ?_) (by rw [List.length_range]; exact Nat.le_trans hn (by decide))
  have hj : j < n := by simpa using hj
  have m : mulOk (j : Int) (1 + l % 3) := .inl ⟨by omega, by omega⟩
  have z : subD (.str s95) (.int ((l / 7 + (j : Int) * (1 + l % 3)) % 93)) = some (.str [tk l j], 9) := sub_str (by rw [s95_len]; decide) (by omega) (by rw [s95_len]; omega)
  simp [turnF, mod_int, fdv_int, mul_int m, z]
theorem joinC (t : Cs) (m n : Nat) (h : t.length ≤ 60) : methD .join (.str [], m) [(.lst (t.map fun c => D.str [c]), n)] = some (.str t, 9) := by
  have := join1 (fun c : Nat => c) t m n (by omega)
  simpa using this
theorem leaf (k : Nat) (a : Int) (fam : Bool) : ∃ e : Ent, e.Ok ∧ e.2.1 = 1 ∧ e.2.2.1 = 1 ∧ run G Pr (k+4) 9 [.int a, .bl fam] = .ok (e.d, 9) := by
  rw [run_eq G Pr (k+3) 9 _ ⟨2, 7, c9⟩ rfl rfl]
  have em := mixed (k+2) a 4
  have es := signs (k+2)
  have h0 := mx_nn a 4
  have st := exB_at G (run G Pr (k+3)) [] 1 c9 (initE 7 [.int a, .bl fam]) (ρ' := [some (.int a, 9), some (.bl fam, 9), some (.int (mx a 4), 9), none, none, none, none]) (by simp [c9, List.replicate, em])
  show ∃ e : Ent, e.Ok ∧ e.2.1 = 1 ∧ e.2.2.1 = 1 ∧ outS (exB G (run G Pr (k+3)) [] (initE 7 [.int a, .bl fam]) c9) = _
  rw [st]
  generalize mx a 4 = l at h0
  by_cases h5 : l % 5 = 0
  · by_cases h7 : l / 20 % 7 = 1
    · have hn : l / 140 % 61 = ((l / 140 % 61).toNat : Nat) := by omega
      have hlt : (l / 140 % 61).toNat ≤ 60 := by omega
      generalize (l / 140 % 61).toNat = n at hn hlt
      obtain ⟨t, ht, hc⟩ := leafT (k+3) a l h0 fam n hlt
      have e := rng_nat (n := n) (by omega)
      have hj := fun m => joinC t 9 m ht
      refine ⟨(.tup [.str [116, 101, 120, 116], .str t], 1, 1, false), Tr.leaf _ _ (by decide) (by omega), rfl, rfl, ?_⟩
      simp [c9, mod_int, fdv_int, h5, h7, es, hn, e, itemsOf, hc, bind_lst, recvOk, Function.comp_def, hj, gd, SZ, Ent.d]
    · have hn : l / 5 % 4 = ((l / 5 % 4).toNat : Nat) := by omega
      have hlt : (l / 5 % 4).toNat ≤ 60 := by omega
      generalize (l / 5 % 4).toNat = n at hn hlt
      obtain ⟨t, ht, hc⟩ := leafT (k+3) a l h0 fam n hlt
      have e := rng_nat (n := n) (by omega)
      have hj := fun m => joinC t 9 m ht
      refine ⟨(.tup [.str [116, 101, 120, 116], .str t], 1, 1, false), Tr.leaf _ _ (by decide) (by omega), rfl, rfl, ?_⟩
      simp [c9, mod_int, fdv_int, h5, h7, es, hn, e, itemsOf, hc, bind_lst, recvOk, Function.comp_def, hj, gd, SZ, Ent.d]
  · by_cases h1 : l % 5 = 1
    · refine ⟨(.tup [.str [108, 105, 110, 101]], 1, 1, false), tr1 _ (by decide) (by decide), rfl, rfl, ?_⟩
      simp [c9, mod_int, fdv_int, h5, h1, gd, SZ, Ent.d]
    · by_cases h2 : l % 5 = 2
      · refine ⟨(.tup [.str [105, 116]], 1, 1, true), tr1 _ (by decide) (by decide), rfl, rfl, ?_⟩
        simp [c9, mod_int, fdv_int, h5, h1, h2, gd, SZ, Ent.d]
      · obtain ⟨nw, hnl, hne⟩ := nameW k (l / 5)
        obtain ⟨pw, hpl, hpe⟩ := plainW (k+1) (l / 5)
        by_cases h3 : l % 5 = 3
        · cases fam with
          | true =>
            rcases (by omega : l / 5 % 2 = 0 ∨ l / 5 % 2 = 1) with h | h
            · refine ⟨(.tup [.str [115, 116, 101, 109]], 1, 1, false), tr1 _ (by decide) (by decide), rfl, rfl, ?_⟩
              simp [c9, mod_int, fdv_int, h5, h1, h2, h3, hpe, h, gd, SZ, Ent.d]
            · refine ⟨(.tup [.str [107, 105, 110], .str pw], 1, 1, false), Tr.leaf _ _ (by decide) (by omega), rfl, rfl, ?_⟩
              simp [c9, mod_int, fdv_int, h5, h1, h2, h3, hpe, h, gd, SZ, Ent.d]
          | false =>
            refine ⟨(.tup [.str [116, 104, 105, 110, 103], .str nw], 1, 1, false), Tr.leaf _ _ (by decide) (by omega), rfl, rfl, ?_⟩
            simp [c9, mod_int, fdv_int, h5, h1, h2, h3, hne, gd, SZ, Ent.d]
        · refine ⟨(.tup [.str [116, 104, 105, 110, 103], .str nw], 1, 1, false), Tr.leaf _ _ (by decide) (by omega), rfl, rfl, ?_⟩
          simp [c9, mod_int, fdv_int, h5, h1, h2, h3, hne, gd, SZ, Ent.d]

theorem any_mp {α : Type} (p : α → Bool) (l : List α) (n : Nat) : bifD .any [(.lst (l.map fun a => D.bl (p a)), n)] = some (.bl (l.any p), 9) := by
  have : boolsOf (l.map fun a => D.bl (p a)) = some (l.map p) := by
    have := boolsOf_map (l.map p)
    rwa [List.map_map] at this
  simp only [bifD, this]
  simp
theorem max_nat {α : Type} (f : α → Nat) (l : List α) (n : Nat) (h : l ≠ []) : bifD .max [(.lst (l.map fun m => D.int ((f m : Nat) : Int)), n)] = some (.int (((l.map f).foldr max 0 : Nat) : Int), 9) := by
  have e : intsOf (l.map fun m => D.int ((f m : Nat) : Int)) = some ((l.map f).map fun m => ((m : Nat) : Int)) := by
    have := intsOf_map ((l.map f).map fun m => ((m : Nat) : Int))
    rw [List.map_map, List.map_map] at this
    exact this
  simp only [bifD, e]
  cases l with
  | nil => exact absurd rfl h
  | cons m l => simp only [List.map_cons]; rw [maxI_nat]; rfl
theorem sum_natf {α : Type} (f : α → Nat) (l : List α) (n : Nat) : bifD .sum [(.lst (l.map fun m => D.int ((f m : Nat) : Int)), n)] = some (.int (((l.map f).sum : Nat) : Int), 9) := by
  have := sum_nat (l.map f) n
  rw [List.map_map] at this
  exact this
theorem add_lst {xs ys : List D} {m n : Nat} (h : xs.length + ys.length ≤ SZ) (hm : mdepL (xs ++ ys) = 0) : binD .add (.lst xs, m) (.lst ys, n) = some (.lst (xs ++ ys), 9) := by
  have e : lv1 (xs ++ ys) = 9 := by unfold lv1; rw [if_pos hm]
  show go _ _ = _
  rw [go_pos h, e]
theorem tuple_lst {xs : List D} {n : Nat} (hm : mdepL xs = 0) : bifD .tuple [(.lst xs, n)] = some (.tup xs, 9) := go_pos hm
/-- one part above others -/
def above (w : Cs) (es : List Ent) (f : Bool) : Ent := (.tup (.str w :: es.map (·.1)), 1 + (es.map (·.2.1)).foldr max 0, 1 + (es.map (·.2.2.1)).sum, f)
theorem above_ok {w : Cs} {es : List Ent} {f : Bool} (hw : w ∉ quoted) (hl : w.length ≤ 10) (hn : es.length ≤ 1000) (h : ∀ e ∈ es, e.Ok) : (above w es f).Ok := by
  have := Tr.node w (es.map fun e => (e.1, e.2.1, e.2.2.1)) hw hl (by simpa using hn) (fun p hp => by
    obtain ⟨e, he, rfl⟩ := List.mem_map.mp hp
    exact h e he)
  simp only [List.map_map, Function.comp_def] at this
  exact this
theorem aboveR (k : Nat) (w : Cs) (es : List Ent) (h0 : es ≠ []) (hn : es.length ≤ 1000) (h : ∀ e ∈ es, e.Ok) : ∃ f, run G Pr (k+1) 10 [.str w, .lst (es.map Ent.d)] = .ok ((above w es f).d, 9) := by
  rw [run_eq G Pr k 10 _ ⟨2, 6, c10⟩ rfl rfl]
  have hz : es.length ≤ SZ := Nat.le_trans hn (by decide)
  have i0 : ∀ e ∈ es, e.1.mdep = 0 := fun e he => Tr.imm (h e he)
  have hm : mdepL (es.map (·.1)) = 0 := mdepL_zero fun d hd => by
    obtain ⟨e, he, rfl⟩ := List.mem_map.mp hd
    exact i0 e he
  have lc : ∀ (r2 r3 r4 r5 : Option (D × Nat)) (i : Int) (g : Ent → D) (n : Nat), (∀ e ∈ es, subD (Ent.d e) (.int i) = some (g e, 0)) → compL (turnF G (run G Pr k) [some (.str w, 9), some (.lst (es.map Ent.d), 0), r2, r3, r4, r5] (.one 3) none (.sub (.var 3) (.cst (.int i)))) (es.map Ent.d) = .ok (es.map fun e => (g e, 0)) := fun r2 r3 r4 r5 i g n hs =>
    compL_mp (fun e he => by
      have im : (Ent.d e).mdep = 0 := (h e he).imm
      simp [turnF, put_any, setV, norm_im im, hs e he]) hz
  have l0 := fun r2 r3 r4 r5 => lc r2 r3 r4 r5 0 (fun e => e.1) 0 fun e _ => by simp [Ent.d]
  have l1 := fun r2 r3 r4 r5 => lc r2 r3 r4 r5 1 (fun e => .int (e.2.1 : Nat)) 0 fun e _ => by simp [Ent.d]
  have l2 := fun r2 r3 r4 r5 => lc r2 r3 r4 r5 2 (fun e => .int (e.2.2.1 : Nat)) 0 fun e _ => by simp [Ent.d]
  have l3 := fun r2 r3 r4 r5 => lc r2 r3 r4 r5 3 (fun e => .bl e.2.2.2) 0 fun e _ => sub_tup (by omega) rfl
  have em := fun n => max_nat (fun e : Ent => e.2.1) es n h0
  have es' := fun n => sum_natf (fun e : Ent => e.2.2.1) es n
  have ea := fun n => any_mp (fun e : Ent => e.2.2.2) es n
  have ad := fun m n => add_lst (m := m) (n := n) (xs := [.str w]) (ys := es.map (·.1)) (by simp; exact Nat.le_trans (by omega : _ ≤ 1001) (by decide)) (by simp [hm])
  have tu := fun n => tuple_lst (n := n) (xs := .str w :: es.map (·.1)) (by simp [hm])
  simp only [List.cons_append, List.nil_append] at ad
  have mt : mdepL (.str w :: es.map (·.1)) = 0 := by simp [hm]
  by_cases he : w = [101, 97, 99, 104]
  · subst he
    obtain ⟨e0, h00⟩ : ∃ e0, es[0]? = some e0 := by cases es with | nil => exact absurd rfl h0 | cons a b => exact ⟨a, rfl⟩
    have z0 : subD (.lst (es.map Ent.d)) (.int 0) = some (Ent.d e0, 0) := sub_lst (by omega) (by rw [List.getElem?_map]; show (es[0]?).map _ = _; rw [h00]; rfl)
    have z : subD (.tup [e0.1, .int (e0.2.1 : Nat), .int (e0.2.2.1 : Nat), .bl e0.2.2.2]) (.int 3) = some (.bl e0.2.2.2, 0) := sub_tup (by omega) rfl
    refine ⟨e0.2.2.2, ?_⟩
    simp [c10, List.replicate, itemsOf, l0, l1, l2, l3, Function.comp_def, em, es', ea, z0, z, ad, tu, gd, SZ, above, Ent.d, hm]
  · refine ⟨es.any (fun e => e.2.2.2), ?_⟩
    simp [c10, List.replicate, itemsOf, l0, l1, l2, l3, Function.comp_def, em, es', ea, he, ad, tu, gd, SZ, above, Ent.d, hm]

/-- a pile's entries -/
def Fit (e : Ent) : Prop := e.Ok ∧ e.2.1 ≤ 12 ∧ e.2.2.1 ≤ 98
theorem pile_im {es : List Ent} (h : ∀ e ∈ es, e.Ok) : mdepL (es.map Ent.d) = 0 := mdepL_zero fun d hd => by
  obtain ⟨e, he, rfl⟩ := List.mem_map.mp hd
  exact (h e he).imm
theorem lst_from {xs : List D} {i : Int} (h : 0 ≤ i) (hm : mdepL xs = 0) : slcD (.lst xs) (some i) none = some (.lst (xs.drop i.toNat), 9) := by
  have e : sx xs.length 0 (some i) = min i.toNat xs.length := by simp [sx, h]
  have e2 : sx xs.length xs.length none = xs.length := rfl
  have e3 : cut xs (some i) none = xs.drop i.toNat := by
    unfold cut
    rw [e, e2]
    by_cases hh : i.toNat ≤ xs.length
    · rw [Nat.min_eq_left hh, List.take_of_length_le (by rw [List.length_drop]; omega)]
    · rw [Nat.min_eq_right (by omega), List.drop_length, List.drop_of_length_le (by omega)]; simp
  simp only [slcD, e3]
  unfold lv1
  rw [if_pos hm]
theorem lst_to {xs : List D} {i : Int} (h : 0 ≤ i) (hm : mdepL xs = 0) : slcD (.lst xs) none (some i) = some (.lst (xs.take i.toNat), 9) := by
  have e : sx xs.length xs.length (some i) = min i.toNat xs.length := by simp [sx, h]
  have e3 : cut xs none (some i) = xs.take i.toNat := by
    unfold cut
    rw [e, show sx xs.length 0 none = 0 from rfl]
    simp [List.take_eq_take_iff]
  simp only [slcD, e3]
  unfold lv1
  rw [if_pos hm]
def words : List Cs := [[111, 102], [98, 97, 99, 107], [102, 105, 114, 115, 116], [114, 101, 115, 116], [99, 111, 117, 110, 116], [115, 111, 114, 116, 101, 100], [102, 97, 105, 108], [101, 97, 99, 104], [101, 97, 99, 104], [105, 102], [106, 111, 105, 110], [106, 111, 105, 110]]
theorem words_get (i : Int) (h0 : 0 ≤ i) (h : i < 12) : ∃ w : Cs, subD (.lst (words.map D.str)) (.int i) = some (.str w, 0) ∧ w ∉ quoted ∧ w.length ≤ 10 := by
  have hl : i.toNat < words.length := by rw [show words.length = 12 by decide]; omega
  refine ⟨words[i.toNat], sub_lst h0 (by rw [List.getElem?_map, List.getElem?_eq_getElem hl]; rfl), ?_⟩
  have : ∀ w ∈ words, w ∉ quoted ∧ w.length ≤ 10 := by decide
  exact this _ (List.getElem_mem hl)
theorem nums_get (nl : List Int) (hl : nl.length = 12) (hn : ∀ x ∈ nl, 1 ≤ x ∧ x ≤ 4) (i : Int) (h0 : 0 ≤ i) (h : i < 12) : ∃ n : Nat, subD (.lst (nl.map D.int)) (.int i) = some (.int (n : Nat), 0) ∧ 1 ≤ n ∧ n ≤ 4 := by
  have hl : i.toNat < nl.length := by omega
  have := hn _ (List.getElem_mem hl)
  refine ⟨(nl[i.toNat]).toNat, sub_lst h0 (by rw [List.getElem?_map, List.getElem?_eq_getElem hl]; show some (D.int nl[i.toNat]) = _; congr 2; omega), by omega, by omega⟩
theorem grown (k : Nat) (es : List Ent) (a : Int) (fam : Bool) (hn : es.length ≤ 900) (h : ∀ e ∈ es, Fit e) : ∃ es' : List Ent, es' ≠ [] ∧ es'.length ≤ es.length + 1 ∧ (∀ e ∈ es', Fit e) ∧ run G Pr (k+5) 11 [.lst (es.map Ent.d), .int a, .bl fam] = .ok (.lst (es'.map Ent.d), 9) := by
  rw [run_eq G Pr (k+4) 11 _ ⟨3, 8, c11⟩ rfl rfl]
  obtain ⟨lf, lok, l1, l2, le⟩ := leaf k a fam
  have em := mixed (k+3) a 1
  have h0 := mx_nn a 1
  generalize mx a 1 = m at em h0
  obtain ⟨w, hw, wq, wl⟩ := words_get (m % 12) (by omega) (by omega)
  obtain ⟨n, hnn, n1, n4⟩ := nums_get [1, 1, 1, 1, 1, 1, 1, 2, 2, 4, 2 + m / 12 % 2, 2 + m / 12 % 3] rfl (by simp; omega) (m % 12) (by omega) (by omega)
  have ok : ∀ e ∈ es, e.Ok := fun e he => (h e he).1
  have im := pile_im ok
  simp only [words, List.map_cons, List.map_nil] at hw hnn
  -- with a leaf
  have adl : binD .add (.lst (es.map Ent.d), 0) (.lst [lf.d], 10) = some (.lst ((es ++ [lf]).map Ent.d), 9) := by
    rw [add_lst (by simp; exact Nat.le_trans (by omega : _ ≤ 1000) (by decide)) (by rw [mdepL_append, im]; simp [Ent.Ok.imm lok])]
    simp
  have fl : ∃ es' : List Ent, es' ≠ [] ∧ es'.length ≤ es.length + 1 ∧ (∀ e ∈ es', Fit e) ∧ es' = es ++ [lf] := ⟨es ++ [lf], by simp, by simp, fun e he => by
    rcases List.mem_append.mp he with z | z
    · exact h e z
    · simp at z; subst z; exact ⟨lok, by omega, by omega⟩, rfl⟩
  obtain ⟨el, q1, q2, q3, q4⟩ := fl
  rw [← q4] at adl
  have lm : lf.d.mdep = 0 := lok.imm
  by_cases c1 : m / 60 % 2 = 0 ∨ es.length < n
  · refine ⟨el, q1, q2, q3, ?_⟩
    rcases (by omega : m / 60 % 2 = 0 ∨ (m / 60 % 2 ≠ 0 ∧ es.length < n)) with c | ⟨c, c'⟩
    · simp [c11, List.replicate, em, mod_int, fdv_int, hw, hnn, c, le, adl, gd, SZ, bind_lst, lm]
    · simp [c11, List.replicate, em, mod_int, fdv_int, hw, hnn, c, c', le, adl, gd, SZ, bind_lst, lm]
  · have c60 : m / 60 % 2 ≠ 0 := fun z => c1 (.inl z)
    have cn : ¬ es.length < n := fun z => c1 (.inr z)
    have cn' : ¬ (es.length : Int) < (n : Int) := by omega
    have hs : (es.length : Int) - (n : Int) = ((es.length - n : Nat) : Int) := by omega
    generalize hp : es.length - n = p at hs
    have u0 : es.drop p ≠ [] := fun z => by
      have := congrArg List.length z
      simp at this
      omega
    have uok : ∀ e ∈ es.drop p, e.Ok := fun e he => ok e (List.mem_of_mem_drop he)
    obtain ⟨f, hf⟩ := aboveR (k+3) w (es.drop p) u0 (by simp; omega) uok
    have mok : (above w (es.drop p) f).Ok := above_ok wq wl (by simp; omega) uok
    generalize above w (es.drop p) f = made at hf mok
    rw [List.map_drop] at hf
    have fr : slcD (.lst (es.map Ent.d)) (some (p : Int)) none = some (.lst ((es.map Ent.d).drop p), 9) := lst_from (by omega) im
    have to : slcD (.lst (es.map Ent.d)) none (some (p : Int)) = some (.lst ((es.map Ent.d).take p), 9) := lst_to (by omega) im
    have mm : made.d.mdep = 0 := mok.imm
    have bm : ∀ (ρ : Env) (i n : Nat) (ns : List Nat), bindV ρ i (made.d, n) ns = ρ.set i (some (made.d, 9)) := fun ρ i n ns => by
      rw [bind_full (by simp [full, mm])]; simp [setV, norm, mm]
    have s1 : subD made.d (.int 1) = some (.int (made.2.1 : Nat), 0) := sub_tup (by omega) rfl
    have s2 : subD made.d (.int 2) = some (.int (made.2.2.1 : Nat), 0) := sub_tup (by omega) rfl
    have adm : binD .add (.lst ((es.map Ent.d).take p), 9) (.lst [made.d], 10) = some (.lst ((es.map Ent.d).take p ++ [made.d]), 9) := by
      have im2 := pile_im (es := es.take p) fun e he => ok e (List.mem_of_mem_take he)
      rw [List.map_take] at im2
      rw [add_lst (by simp; exact Nat.le_trans (by omega : _ ≤ 1000) (by decide)) (by rw [mdepL_append, im2]; simp [mm])]
    by_cases c2 : 12 < made.2.1
    · have c2' : (12 : Int) < (made.2.1 : Nat) := by omega
      exact ⟨el, q1, q2, q3, by simp [c11, List.replicate, em, mod_int, fdv_int, hw, hnn, c60, cn, hs, fr, hf, bm, s1, s2, c2, c2', le, adl, gd, SZ, bind_lst, lm]⟩
    · have c2' : ¬ (12 : Int) < (made.2.1 : Nat) := by omega
      by_cases c3 : 98 < made.2.2.1
      · have c3' : (98 : Int) < (made.2.2.1 : Nat) := by omega
        exact ⟨el, q1, q2, q3, by simp [c11, List.replicate, em, mod_int, fdv_int, hw, hnn, c60, cn, hs, fr, hf, bm, s1, s2, c2, c2', c3, c3', le, adl, gd, SZ, bind_lst, lm]⟩
      · have c3' : ¬ (98 : Int) < (made.2.2.1 : Nat) := by omega
        refine ⟨es.take p ++ [made], by simp, by simp; omega, fun e he => ?_, by simp [c11, List.replicate, em, mod_int, fdv_int, hw, hnn, c60, cn, hs, fr, hf, bm, s1, s2, c2, c2', c3, c3', to, adm, gd, SZ, bind_lst, lm, mm]⟩
        rcases List.mem_append.mp he with z | z
        · exact h e (List.mem_of_mem_take z)
        · simp at z; subst z; exact ⟨mok, by omega, by omega⟩

theorem mdepL_enum {xs : List D} (h : mdepL xs = 0) : mdepL (enumD xs) = 0 := mdepL_zero fun d hd => by
  unfold enumD at hd
  obtain ⟨p, hp, rfl⟩ := List.mem_map.mp hd
  have : p.1 ∈ xs := by
    obtain ⟨i, hi⟩ := List.mem_iff_getElem?.mp hp
    rw [List.getElem?_zipIdx] at hi
    obtain ⟨d, hd, e⟩ := Option.map_eq_some_iff.mp hi
    rw [← e]
    exact List.mem_of_getElem? hd
  have := mdepL_mem this
  simp; omega
theorem enum_ints {cs : List Int} {d : D} (h : d ∈ enumD (cs.map D.int)) : ∃ (i : Nat) (c : Int), d = .tup [.int (i : Nat), .int c] := by
  unfold enumD at h
  obtain ⟨p, hp, rfl⟩ := List.mem_map.mp h
  obtain ⟨i, hi⟩ := List.mem_iff_getElem?.mp hp
  rw [List.getElem?_zipIdx, List.getElem?_map] at hi
  obtain ⟨d, hd, e⟩ := Option.map_eq_some_iff.mp hi
  obtain ⟨c, _, hc⟩ := Option.map_eq_some_iff.mp hd
  subst hc
  refine ⟨p.2, c, ?_⟩
  rw [← e]
theorem lst_last {xs : List D} {i : Nat} (h0 : 0 < i) (hm : mdepL xs = 0) : slcD (.lst xs) (some (-(i : Int))) none = some (.lst (xs.drop (xs.length - i)), 9) := by
  have e : sx xs.length 0 (some (-(i : Int))) = xs.length - i := by
    unfold sx
    simp only
    rw [if_neg (by omega)]
    omega
  have e3 : cut xs (some (-(i : Int))) none = xs.drop (xs.length - i) := by
    unfold cut
    rw [e, show sx xs.length xs.length none = xs.length from rfl, List.take_of_length_le (by rw [List.length_drop]; omega)]
  simp only [slcD, e3]
  unfold lv1
  rw [if_pos hm]
@[simp] theorem putT2 (ρ : Env) (i j : Nat) (a b : Int) : Tg.put ρ (.tup [i, j]) (.tup [.int a, .int b]) = .ok ((ρ.set i (some (.int a, 9))).set j (some (.int b, 9))) := by
  simp [Tg.put, gd, setV]
theorem treeA (k : Nat) (cs : List Int) (fam : Bool) : ∃ (es : List Ent) (n : Nat) (x3 x4 : Option (D × Nat)), es ≠ [] ∧ es.length ≤ 21 ∧ (∀ e ∈ es, Fit e) ∧ exB G (run G Pr (k+5)) [] (initE 7 [.lst (cs.map D.int), .bl fam]) c12 =
    exB G (run G Pr (k+5)) [] [some (.lst (cs.map D.int), 0), some (.bl fam, 9), some (.lst (es.map Ent.d), n), x3, x4, none, none] (c12.drop 2) := by
  obtain ⟨lf, lok, l1, l2, le⟩ := leaf (k+1) (cs.length : Nat) fam
  have lm : lf.d.mdep = 0 := lok.imm
  have key := forL_inv (I := fun ρ => ∃ (es : List Ent) (n : Nat) (x3 x4 : Option (D × Nat)), es ≠ [] ∧ es.length ≤ 21 ∧ (∀ e ∈ es, Fit e) ∧ ρ = [some (.lst (cs.map D.int), 0), some (.bl fam, 9), some (.lst (es.map Ent.d), n), x3, x4, none, none]) (xs := enumD (cs.map D.int))
    (f := fun ρ d => putS ρ (.tup [3, 4]) d fun ρ => exB G (run G Pr (k+5)) [0] ρ [.asg 2 (.cal 11 [.slc (.var 2) (some (.neg (.cst (.int 20)))) none, .bin .add (.var 4) (.bin .mul (.cst (.int 7919)) (.var 3)), .var 1])])
    (fun d hd ρ ⟨es, n, x3, x4, e0, el, ef, hρ⟩ => by
      obtain ⟨i, c, rfl⟩ := enum_ints hd
      subst hρ
      have m1 : mulOk 7919 (i : Int) := .inl ⟨by omega, by omega⟩
      have im := pile_im fun e he => (ef e he).1
      obtain ⟨es', q1, q2, q3, q4⟩ := grown k (es.drop (es.length - 20)) (c + 7919 * (i : Int)) fam (by simp; omega) fun e he => ef e (List.mem_of_mem_drop he)
      have im' := pile_im fun e he => (q3 e he).1
      have ls : slcD (.lst (es.map Ent.d)) (some (-20)) none = some (.lst ((es.map Ent.d).drop (es.length - 20)), 9) := by
        have := lst_last (i := 20) (by omega) im
        rw [List.length_map] at this
        exact this
      rw [List.map_drop] at q4
      refine ⟨[some (.lst (cs.map D.int), 0), some (.bl fam, 9), some (.lst (es'.map Ent.d), 9), some (.int (i : Nat), 9), some (.int c, 9), none, none], ?_, es', 9, _, _, q1, by simp at q2; omega, q3, rfl⟩
      simp [putS, ls, mul_int m1, q4, bind_lst (by rw [im']; omega : mdepL (es'.map Ent.d) + 1 ≤ 9)])
    [some (.lst (cs.map D.int), 0), some (.bl fam, 9), some (.lst ([lf].map Ent.d), 10), none, none, none, none] ⟨[lf], 10, none, none, by simp, by simp, by intro e he; simp at he; subst he; exact ⟨lok, by omega, by omega⟩, rfl⟩
  obtain ⟨ρ', ek, es, n, x3, x4, e0, el, ef, rfl⟩ := key
  refine ⟨es, n, x3, x4, e0, el, ef, exB_at _ _ _ 2 _ _ ?_⟩
  have mi : mdepL (cs.map D.int) = 0 := mdepL_map _ _ fun _ => by simp
  have me := mdepL_enum mi
  have fl : full (.lst (enumD (cs.map D.int)), 0) = false := by simp [full]
  rw [show c12.take 2 = [.asg 2 (.lst [.cal 9 [.bif .len [.var 0], .var 1]]), .for_ (.tup [3, 4]) (.enu (.var 0)) [.asg 2 (.cal 11 [.slc (.var 2) (some (.neg (.cst (.int 20)))) none, .bin .add (.var 4) (.bin .mul (.cst (.int 7919)) (.var 3)), .var 1])]] from rfl]
  have h1 : exS G (run G Pr (k+5)) [] (initE 7 [.lst (cs.map D.int), .bl fam]) (.asg 2 (.lst [.cal 9 [.bif .len [.var 0], .var 1]])) = .nx [some (.lst (cs.map D.int), 0), some (.bl fam, 9), some (.lst ([lf].map Ent.d), 10), none, none, none, none] := by
    simp [List.replicate, le, gd, SZ, bind_lst, lm]
  rw [exB_cons', h1, thenB_nx, exB_cons', exS_for, ev_enu, ev_var]
  simp only [List.getElem?_cons_zero, Option.bind_some, id, Option.map_some, Out.of_some, Out.bind_ok, lsqOf, onE_ok, forS, itemsOf, fl, Bool.false_eq_true, if_false, me, if_true, names, List.append_nil]
  rw [ek]
  simp

theorem sub_last {xs : List D} {d : D} (h : xs.getLast? = some d) : subD (.lst xs) (.int (-1)) = some (d, 0) := by
  have h0 : xs ≠ [] := fun z => by subst z; cases h
  have hl : 0 < xs.length := List.length_pos_iff.mpr h0
  have e1 : ix xs.length (-1) = some (xs.length - 1) := by
    unfold ix
    rw [if_neg (by omega), if_pos (by omega)]
    congr 1; omega
  rw [List.getLast?_eq_getElem?] at h
  simp only [subD, at?, e1, Option.bind_some, h, Option.map_some]
theorem bind_ent {e : Ent} (h : e.Ok) (ρ : Env) (i n : Nat) (ns : List Nat) : bindV ρ i (e.d, n) ns = ρ.set i (some (e.d, 9)) := by
  rw [bind_full (by simp [full, h.imm])]; simp [setV, norm, h.imm]
theorem ent0 (e : Ent) : subD e.d (.int 0) = some (e.1, 0) := sub_tup (by omega) rfl
theorem ent1 (e : Ent) : subD e.d (.int 1) = some (.int (e.2.1 : Nat), 0) := sub_tup (by omega) rfl
theorem ent2 (e : Ent) : subD e.d (.int 2) = some (.int (e.2.2.1 : Nat), 0) := sub_tup (by omega) rfl
theorem ent3 (e : Ent) : subD e.d (.int 3) = some (.bl e.2.2.2, 0) := sub_tup (by omega) rfl
theorem treeB (k : Nat) (r0 r1 r3 r4 : Option (D × Nat)) (es : List Ent) (n : Nat) (e0 : es ≠ []) (el : es.length ≤ 21) (ef : ∀ e ∈ es, Fit e) : ∃ e : Ent, e.Ok ∧ e.2.1 ≤ 12 ∧ exB G (run G Pr (k+5)) [] [r0, r1, some (.lst (es.map Ent.d), n), r3, r4, none, none] (c12.drop 2) =
    exB G (run G Pr (k+5)) [] [r0, r1, some (.lst (es.map Ent.d), n), r3, r4, some (e.d, 9), none] (c12.drop 4) := by
  have ok : ∀ e ∈ es, e.Ok := fun e he => (ef e he).1
  obtain ⟨e, he⟩ : ∃ e, es.getLast? = some e := ⟨_, List.getLast?_eq_getLast e0⟩
  have hm : e ∈ es := List.mem_of_getLast? he
  have sl : subD (.lst (es.map Ent.d)) (.int (-1)) = some (e.d, 0) := sub_last (by rw [List.getLast?_map, he]; rfl)
  have be := bind_ent (ok e hm)
  have hz : es.length ≤ SZ := Nat.le_trans el (by decide)
  have lc : ∀ (r5 : Option (D × Nat)) (i : Int) (g : Ent → D), (∀ e ∈ es, subD (Ent.d e) (.int i) = some (g e, 0)) → compL (turnF G (run G Pr (k+5)) [r0, r1, some (.lst (es.map Ent.d), n), r3, r4, r5, none] (.one 6) none (.sub (.var 6) (.cst (.int i)))) (es.map Ent.d) = .ok (es.map fun e => (g e, 0)) := fun r5 i g hs =>
    compL_mp (fun e he => by
      have im : (Ent.d e).mdep = 0 := (ok e he).imm
      simp [turnF, put_any, setV, norm_im im, hs e he]) hz
  have l1 := fun r5 => lc r5 1 (fun e => .int (e.2.1 : Nat)) fun e _ => ent1 e
  have l2 := fun r5 => lc r5 2 (fun e => .int (e.2.2.1 : Nat)) fun e _ => ent2 e
  have em := fun n => max_nat (fun e : Ent => e.2.1) es n e0
  have es' := fun n => sum_natf (fun e : Ent => e.2.2.1) es n
  obtain ⟨f, hf⟩ := aboveR (k+4) [106, 111, 105, 110] es e0 (by omega) ok
  have mok : (above [106, 111, 105, 110] es f).Ok := above_ok (by decide) (by decide) (by omega) ok
  have mh : (above [106, 111, 105, 110] es f).2.1 = 1 + (es.map (·.2.1)).foldr max 0 := rfl
  generalize above [106, 111, 105, 110] es f = made at hf mok mh
  have bm := bind_ent mok
  by_cases c1 : 1 < es.length
  · have c1' : (1 : Int) < (es.length : Nat) := by omega
    by_cases c2 : (es.map (·.2.2.1)).sum < 98
    · have c2' : (((es.map (·.2.2.1)).sum : Nat) : Int) < 98 := by omega
      by_cases c3 : (es.map (·.2.1)).foldr max 0 < 12
      · have c3' : (((es.map (·.2.1)).foldr max 0 : Nat) : Int) < 12 := by omega
        refine ⟨made, mok, by omega, exB_at _ _ _ 2 _ _ ?_⟩
        simp [c12, sl, be, itemsOf, l1, l2, em, es', Function.comp_def, c1, c1', c2, c2', c3, c3', hf, bm]
      · have c3' : ¬ (((es.map (·.2.1)).foldr max 0 : Nat) : Int) < 12 := by omega
        refine ⟨e, ok e hm, (ef e hm).2.1, exB_at _ _ _ 2 _ _ ?_⟩
        simp [c12, sl, be, itemsOf, l1, l2, em, es', Function.comp_def, c1, c1', c2, c2', c3, c3']
    · have c2' : ¬ (((es.map (·.2.2.1)).sum : Nat) : Int) < 98 := by omega
      refine ⟨e, ok e hm, (ef e hm).2.1, exB_at _ _ _ 2 _ _ ?_⟩
      simp [c12, sl, be, itemsOf, l1, l2, em, es', Function.comp_def, c1, c1', c2, c2']
  · have c1' : ¬ (1 : Int) < (es.length : Nat) := by omega
    refine ⟨e, ok e hm, (ef e hm).2.1, exB_at _ _ _ 2 _ _ ?_⟩
    simp [c12, sl, be, c1, c1']
def lineE : Ent := (.tup [.str [108, 105, 110, 101]], 1, 1, false)
theorem lineE_ok : lineE.Ok := tr1 _ (by decide) (by decide)
theorem treeC (k : Nat) (r0 r1 r2 r3 r4 : Option (D × Nat)) (e : Ent) (h : e.Ok) (hh : e.2.1 ≤ 12) : ∃ e' : Ent, e'.Ok ∧ e'.2.1 ≤ 12 ∧ exB G (run G Pr (k+5)) [] [r0, r1, r2, r3, r4, some (e.d, 9), none] (c12.drop 4) = .rt (e'.d, 9) := by
  have s1 := ent1 e
  have s3 := ent3 e
  have el : (D.tup [.tup [.str [108, 105, 110, 101]], .int 1, .int 1, .bl false]) = lineE.d := rfl
  cases hf : e.2.2.2 with
  | false =>
    rw [hf] at s3
    refine ⟨e, h, hh, ?_⟩
    simp [c12, s3]
  | true =>
    rw [hf] at s3
    by_cases c : e.2.1 < 12
    · have c' : ((e.2.1 : Nat) : Int) < 12 := by omega
      obtain ⟨f, ha⟩ := aboveR (k+4) [101, 97, 99, 104] [lineE, e] (by simp) (by simp) (by intro x hx; simp at hx; rcases hx with rfl | rfl; exact lineE_ok; exact h)
      have mok : (above [101, 97, 99, 104] [lineE, e] f).Ok := above_ok (by decide) (by decide) (by simp) (by intro x hx; simp at hx; rcases hx with rfl | rfl; exact lineE_ok; exact h)
      have mh : (above [101, 97, 99, 104] [lineE, e] f).2.1 ≤ 12 := by
        show 1 + max 1 (max e.2.1 0) ≤ 12
        omega
      generalize above [101, 97, 99, 104] [lineE, e] f = made at ha mok mh
      have bm := bind_ent mok
      have m3 := ent3 made
      simp only [List.map_cons, List.map_nil] at ha
      cases hg : made.2.2.2 with
      | true =>
        rw [hg] at m3
        refine ⟨lineE, lineE_ok, by decide, ?_⟩
        simp [c12, s1, s3, c, c', gd, SZ, el, ha, bm, m3]
      | false =>
        rw [hg] at m3
        refine ⟨made, mok, mh, ?_⟩
        simp [c12, s1, s3, c, c', gd, SZ, el, ha, bm, m3]
    · have c' : ¬ ((e.2.1 : Nat) : Int) < 12 := by omega
      refine ⟨lineE, lineE_ok, by decide, ?_⟩
      simp [c12, s1, s3, c, c', gd, SZ, el]
theorem tree (k : Nat) (cs : List Int) (fam : Bool) : ∃ e : Ent, e.Ok ∧ e.2.1 ≤ 12 ∧ run G Pr (k+6) 12 [.lst (cs.map D.int), .bl fam] = .ok (e.d, 9) := by
  obtain ⟨es, n, x3, x4, e0, el, ef, h1⟩ := treeA k cs fam
  obtain ⟨e, ok, hh, h2⟩ := treeB k (some (.lst (cs.map D.int), 0)) (some (.bl fam, 9)) x3 x4 es n e0 el ef
  obtain ⟨e', ok', hh', h3⟩ := treeC k (some (.lst (cs.map D.int), 0)) (some (.bl fam, 9)) (some (.lst (es.map Ent.d), n)) x3 x4 e ok hh
  refine ⟨e', ok', hh', ?_⟩
  rw [run_eq G Pr (k+5) 12 _ ⟨2, 7, c12⟩ rfl rfl]
  show outS (exB G (run G Pr (k+5)) [] (initE 7 [.lst (cs.map D.int), .bl fam]) c12) = _
  rw [h1, h2, h3]
  rfl

theorem forL_ix {f : Env → D → OS} : ∀ {xs : List D} {I : Nat → Env → Prop}, (∀ i x, xs[i]? = some x → ∀ ρ, I i ρ → ∃ ρ', f ρ x = .nx ρ' ∧ I (i + 1) ρ') → ∀ ρ, I 0 ρ → ∃ ρ', forL f xs ρ = .nx ρ' ∧ I xs.length ρ'
  | [], I, _, ρ, h => ⟨ρ, rfl, h⟩
  | x :: xs, I, hf, ρ, h => by
    obtain ⟨ρ1, h1, h2⟩ := hf 0 x rfl ρ h
    obtain ⟨ρ2, h3, h4⟩ := forL_ix (xs := xs) (I := fun i => I (i + 1)) (fun i y hy ρ hi => hf (i + 1) y (by simpa using hy) ρ hi) ρ1 h2
    exact ⟨ρ2, by rw [forL, h1]; exact h3, h4⟩
theorem whole (k : Nat) (a b : Int) : run G Pr (k+1) 13 [.int a, .int b] = .ok (.bl (a == b), 9) := by
  rw [run_eq G Pr k 13 _ ⟨2, 2, c13⟩ rfl rfl, c13]
  simp
theorem putE {e : Ent} (h : e.Ok) (r0 r5 r6 r7 r8 : Option (D × Nat)) (a b c d : Option (D × Nat)) : Tg.put [r0, a, b, c, d, r5, r6, r7, r8] (.tup [1, 2, 3, 4]) e.d = .ok [r0, some (e.1, 9), some (.int (e.2.1 : Nat), 9), some (.int (e.2.2.1 : Nat), 9), some (.bl e.2.2.2, 9), r5, r6, r7, r8] := by
  have i : e.1.mdep = 0 := Tr.imm h
  simp [Ent.d, Tg.put, gd, setV, norm_im i]
/-- the state: a tree with its height and its size -/
def St14 (ns : List Int) (t : D) (h m : Nat) (f : Bool) (more : Int) (r6 r7 : Option (D × Nat)) : Env := [some (.scr ns, 9), some (t, 9), some (.int (h : Nat), 9), some (.int (m : Nat), 9), some (.bl f, 9), some (.int more, 9), r6, r7, none]
theorem law1 (k : Nat) (ns : List Int) : ∃ t h m f, Tr t h m ∧ h ≤ 12 ∧ exB G (run G Pr (k+6)) [] (initE 9 [.scr ns]) c14 = exB G (run G Pr (k+6)) [] (St14 ns t h m f (cellN ns 0 / 3) none none) (c14.drop 2) := by
  have sl : ∃ cs : List Int, slcD (.scr ns) (some 2) none = some (.lst (cs.map D.int), 9) := ⟨_, rfl⟩
  obtain ⟨cs, sl⟩ := sl
  obtain ⟨e, ok, hh, ht⟩ := tree k cs (cellN ns 1 % 2 == 1)
  refine ⟨e.1, e.2.1, e.2.2.1, e.2.2.2, ok, hh, exB_at _ _ _ 2 _ _ ?_⟩
  have fu : full (e.d, 9) = true := by simp [full, ok.imm]
  have pe := putE ok
  simp [c14, List.replicate, cell, mod_int, fdv_int, sl, ht, fu, putS, pe, St14]
def heads : List Cs := [[111, 102], [98, 97, 99, 107], [102, 105, 114, 115, 116], [114, 101, 115, 116], [99, 111, 117, 110, 116], [115, 111, 114, 116, 101, 100], [102, 97, 105, 108]]
theorem heads_get (i : Int) (h0 : 0 ≤ i) (h : i < 7) : ∃ w : Cs, subD (.lst (heads.map D.str)) (.int i) = some (.str w, 0) ∧ w ∉ quoted ∧ w.length ≤ 10 := by
  have hl : i.toNat < heads.length := by rw [show heads.length = 7 by decide]; omega
  refine ⟨heads[i.toNat], sub_lst h0 (by rw [List.getElem?_map, List.getElem?_eq_getElem hl]; rfl), ?_⟩
  have : ∀ w ∈ heads, w ∉ quoted ∧ w.length ≤ 10 := by decide
  exact this _ (List.getElem_mem hl)
theorem tr_one {w : Cs} {t : D} {h m : Nat} (hw : w ∉ quoted) (hl : w.length ≤ 10) (ht : Tr t h m) : Tr (.tup [.str w, t]) (h + 1) (m + 1) := by
  have := Tr.node w [(t, h, m)] hw hl (by simp) (by intro p hp; simp at hp; subst hp; exact ht)
  simp at this
  rw [Nat.add_comm h 1, Nat.add_comm m 1]
  exact this
theorem law2 (k : Nat) (ns : List Int) (t : D) (h m : Nat) (f : Bool) (more : Int) (ht : Tr t h m) (hh : h ≤ 12) : ∃ t' h' m' r6, Tr t' h' m' ∧ h' ≤ 43 ∧ exB G (run G Pr (k+6)) [] (St14 ns t h m f more none none) (c14.drop 2) = exB G (run G Pr (k+6)) [] (St14 ns t' h' m' f more r6 none) (c14.drop 3) := by
  by_cases c : cellN ns 0 % 3 = 1
  · have hn : more % 31 = ((more % 31).toNat : Nat) := by omega
    have hlt : (more % 31).toNat ≤ 30 := by omega
    generalize (more % 31).toNat = n at hn hlt
    have e := rng_nat (n := n) (by omega)
    have key := forL_ix (I := fun i ρ => ∃ t' h' m' r6, Tr t' h' m' ∧ h' ≤ 12 + i ∧ ρ = St14 ns t' h' m' f more r6 none) (xs := (List.range n).map fun (j : Nat) => D.int (j : Int))
      (f := fun ρ d => putS ρ (.one 6) d fun ρ => exB G (run G Pr (k+6)) [] ρ [.asg 1 (.tup [.sub (.lst [.cst (.str [111, 102]), .cst (.str [98, 97, 99, 107]), .cst (.str [102, 105, 114, 115, 116]), .cst (.str [114, 101, 115, 116]), .cst (.str [99, 111, 117, 110, 116]), .cst (.str [115, 111, 114, 116, 101, 100]), .cst (.str [102, 97, 105, 108])]) (.bin .mod (.bin .add (.var 5) (.var 6)) (.cst (.int 7))), .var 1]), .par 2 3 (.bin .add (.var 2) (.cst (.int 1))) (.bin .add (.var 3) (.cst (.int 1)))])
      (fun i x hx ρ ⟨t', h', m', r6, a1, a2, a3⟩ => by
        rw [List.getElem?_map] at hx
        obtain ⟨j, _, rfl⟩ := Option.map_eq_some_iff.mp hx
        subst a3
        obtain ⟨w, g1, g2, g3⟩ := heads_get ((more + (j : Int)) % 7) (by omega) (by omega)
        simp only [heads, List.map_cons, List.map_nil] at g1
        refine ⟨St14 ns (.tup [.str w, t']) (h' + 1) (m' + 1) f more (some (.int (j : Int), 9)) none, ?_, _, _, _, _, tr_one g2 g3 a1, by omega, rfl⟩
        have im := a1.imm
        simp [St14, putS, mod_int, g1, gd, SZ, im, bind_tup, parD, setV])
      (St14 ns t h m f more none none) ⟨t, h, m, none, ht, by omega, rfl⟩
    obtain ⟨ρ', ek, t', h', m', r6, a1, a2, rfl⟩ := key
    refine ⟨t', h', m', r6, a1, by simp at a2; omega, exB_at _ _ _ 1 _ _ ?_⟩
    have fl : full (.lst ((List.range n).map fun (j : Nat) => D.int (j : Int)), 9) = true := by simp [full]
    rw [show (c14.drop 2).take 1 = [.ife (.cmp .eq (.bin .mod (.cal 3 [.var 0, .cst (.int 0)]) (.cst (.int 3))) (.cst (.int 1))) [.for_ (.one 6) (.rng [.bin .mod (.var 5) (.cst (.int 31))]) [.asg 1 (.tup [.sub (.lst [.cst (.str [111, 102]), .cst (.str [98, 97, 99, 107]), .cst (.str [102, 105, 114, 115, 116]), .cst (.str [114, 101, 115, 116]), .cst (.str [99, 111, 117, 110, 116]), .cst (.str [115, 111, 114, 116, 101, 100]), .cst (.str [102, 97, 105, 108])]) (.bin .mod (.bin .add (.var 5) (.var 6)) (.cst (.int 7))), .var 1]), .par 2 3 (.bin .add (.var 2) (.cst (.int 1))) (.bin .add (.var 3) (.cst (.int 1)))]] []] from rfl]
    have ec : evB G (run G Pr (k+6)) (St14 ns t h m f more none none) (.cmp .eq (.bin .mod (.cal 3 [.var 0, .cst (.int 0)]) (.cst (.int 3))) (.cst (.int 1))) = .ok true := by
      simp [St14, cell, mod_int, c]
    have er : ev G (run G Pr (k+6)) (St14 ns t h m f more none none) (.rng [.bin .mod (.var 5) (.cst (.int 31))]) = .ok (.lst ((List.range n).map fun (j : Nat) => D.int (j : Int)), 9) := by
      simp [St14, mod_int, hn, e]
    rw [exB_cons', exS_ife, ec, onE_ok, if_pos rfl, exB_cons', exS_for, er, onE_ok]
    simp only [forS, itemsOf, fl, if_true]
    rw [ek]
    simp
  · refine ⟨t, h, m, none, ht, by omega, exB_at _ _ _ 1 _ _ ?_⟩
    simp [c14, St14, cell, mod_int, c]

theorem flat_rep {α : Type} (x : α) (n : Nat) : (List.replicate n [x]).flatten = List.replicate n x := by
  induction n with
  | zero => rfl
  | succ n ih => rw [List.replicate_succ, List.flatten_cons, ih, List.replicate_succ]; rfl
theorem mdepL_rep {x : D} (h : x.mdep = 0) (n : Nat) : mdepL (List.replicate n x) = 0 := mdepL_zero fun d hd => by
  rw [(List.mem_replicate.mp hd).2]; exact h
theorem mul_lst {x : D} {n m k : Nat} (h : x.mdep = 0) (hn : n ≤ 1000) : binD .mul (.lst [x], m) (.int (n : Int), k) = some (.lst (List.replicate n x), 9) := by
  have e : lv1 [x] = 9 := by unfold lv1; simp [h]
  show go _ _ = _
  rw [go_pos ⟨by omega, by omega, by simp; exact Nat.le_trans hn (by decide)⟩, e]
  simp [flat_rep]
theorem max_two (a b : Int) (m n : Nat) : bifD .max [(.int a, m), (.int b, n)] = some (.int (if a < b then b else a), 9) := rfl
theorem foldr_rep (n h : Nat) : (List.replicate n 1 ++ [h]).foldr max 0 = if n = 0 then h else max h 1 := by
  induction n with
  | zero => simp
  | succ n ih =>
    rw [List.replicate_succ, List.cons_append, List.foldr_cons, ih]
    split <;> simp <;> omega
theorem tr_wide {t : D} {h m : Nat} (n : Nat) (h1 : 1 ≤ n) (hn : n ≤ 150) (ht : Tr t h m) : Tr (.tup (.str [106, 111, 105, 110] :: (List.replicate n (D.tup [.str [108, 105, 110, 101]]) ++ [t]))) (max h 1 + 1) (m + n + 1) := by
  have := Tr.node [106, 111, 105, 110] (List.replicate n (D.tup [.str [108, 105, 110, 101]], 1, 1) ++ [(t, h, m)]) (by decide) (by decide) (by simp; omega) (by
    intro p hp
    rcases List.mem_append.mp hp with z | z
    · rw [(List.mem_replicate.mp z).2]; exact tr1 _ (by decide) (by decide)
    · simp at z; subst z; exact ht)
  simp only [List.map_append, List.map_replicate, List.map_cons, List.map_nil, foldr_rep, List.sum_append, List.sum_replicate_nat, List.sum_cons, List.sum_nil] at this
  rw [if_neg (by omega)] at this
  rw [show max h 1 + 1 = 1 + max h 1 by omega, show m + n + 1 = 1 + (n * 1 + (m + 0)) by omega]
  exact this
theorem law3 (k : Nat) (ns : List Int) (t : D) (h m : Nat) (f : Bool) (more : Int) (r6 : Option (D × Nat)) (ht : Tr t h m) (hh : h ≤ 43) : ∃ t' h' m' r7, Tr t' h' m' ∧ h' ≤ 44 ∧ exB G (run G Pr (k+6)) [] (St14 ns t h m f more r6 none) (c14.drop 3) = exB G (run G Pr (k+6)) [] (St14 ns t' h' m' f more r6 r7) (c14.drop 4) := by
  by_cases c : cellN ns 0 % 3 = 2
  · have hn : 1 + more % 150 = ((1 + more % 150).toNat : Nat) := by omega
    have hlt : 1 ≤ (1 + more % 150).toNat ∧ (1 + more % 150).toNat ≤ 150 := by omega
    generalize (1 + more % 150).toNat = n at hn hlt
    have im := ht.imm
    have li : (D.tup [.str [108, 105, 110, 101]]).mdep = 0 := by simp
    have ml := fun m k => mul_lst (m := m) (k := k) (n := n) li (by omega)
    have a1 := fun m n' => add_lst (m := m) (n := n') (xs := [.str [106, 111, 105, 110]]) (ys := List.replicate n (D.tup [.str [108, 105, 110, 101]])) (by simp; exact Nat.le_trans (by omega : _ ≤ 1000) (by decide)) (by simp [mdepL_rep li])
    have a2 := fun m n' => add_lst (m := m) (n := n') (xs := .str [106, 111, 105, 110] :: List.replicate n (D.tup [.str [108, 105, 110, 101]])) (ys := [t]) (by simp; exact Nat.le_trans (by omega : _ ≤ 1000) (by decide)) (by simp [mdepL_append, mdepL_rep li, im])
    have hz : mdepL (.str [106, 111, 105, 110] :: (List.replicate n (D.tup [.str [108, 105, 110, 101]]) ++ [t])) = 0 := by simp [mdepL_append, mdepL_rep li, im]
    have tu := fun n' => tuple_lst (n := n') hz
    simp only [List.cons_append, List.nil_append] at a1 a2
    have bt := fun ρ i n ns => bind_tup (ρ := ρ) (i := i) (n := n) (ns := ns) hz
    have hx : (if ((h : Nat) : Int) < 1 then (1 : Int) else (h : Nat)) = ((max h 1 : Nat) : Int) := by
      by_cases q : h < 1
      · rw [if_pos (by omega)]; omega
      · rw [if_neg (by omega)]; omega
    refine ⟨_, _, _, some (.int (n : Nat), 9), tr_wide n hlt.1 hlt.2 ht, by omega, exB_at _ _ _ 1 _ _ ?_⟩
    simp [c14, St14, cell, mod_int, c, hn, ml, a1, a2, tu, bt, max_two, hx, gd, SZ, parD, setV]
  · refine ⟨t, h, m, none, ht, by omega, exB_at _ _ _ 1 _ _ ?_⟩
    simp [c14, St14, cell, mod_int, c]
theorem law4 (ns : List Int) (t : D) (h m : Nat) (f : Bool) (more : Int) (r6 r7 : Option (D × Nat)) (ht : Tr t h m) (hh : h ≤ 44) : exB G (run G Pr 59) [] (St14 ns t h m f more r6 r7) (c14.drop 4) = .rt (.bl true, 9) := by
  have e : rngD [.int 2] = .ok [.int 0, .int 1] := id rfl
  have h1 : run G Pr 59 1 [t] = .ok (.int (h : Nat), 9) := by
    have := height ht (58 - h)
    rwa [show 58 - h + h + 1 = 59 by omega] at this
  have h2 : run G Pr 59 2 [t] = .ok (.int (m : Nat), 9) := by
    have := size ht (58 - h)
    rwa [show 58 - h + h + 1 = 59 by omega] at this
  have w : ∀ a b : Int, run G Pr 59 13 [.int a, .int b] = .ok (.bl (a == b), 9) := whole 58
  simp [c14, St14, exS_for, e, forS, itemsOf, full, forL, putS, h1, h2, w]
theorem math : ∀ ns : List Int, ns.length ≤ 63 → ∃ m, run G Pr 60 14 [.scr ns] = .ok (.bl true, m) := by
  intro ns _
  refine ⟨9, ?_⟩
  rw [run_eq G Pr 59 14 _ ⟨1, 9, c14⟩ rfl rfl]
  obtain ⟨t, h, m, f, a1, b1, e1⟩ := law1 53 ns
  obtain ⟨t2, h2, m2, r6, a2, b2, e2⟩ := law2 53 ns t h m f (cellN ns 0 / 3) a1 b1
  obtain ⟨t3, h3, m3, r7, a3, b3, e3⟩ := law3 53 ns t2 h2 m2 f (cellN ns 0 / 3) r6 a2 b2
  show outS (exB G (run G Pr 59) [] (initE 9 [.scr ns]) c14) = _
  rw [e1, e2, e3, law4 ns t3 h3 m3 f _ r6 r7 a3 b3]
  rfl
end K21

namespace K21
open PySem PySem.Spec
open PyProof.Rows hiding St
open L2 Vy
section
theorem all_mk {l : PySem.W.OpenLaw} {w : World} {K : PySem.W.Frag} {h : Heap} {mg : Str → Option Value} {fa : Addr} (X : K.In h) (GG : h.Ns mainGlobals mg) (hfa : mg "law" = some (.ref fa))
    {f0 : Addr} {od0 an0 : Option Addr} {sl0 : Array (Option Value)} {oc0 kV0 dc0 pm0 cd0 ct0 : Value}
    (a0 : PySem.W.nsIn K mainGlobals "parts_of" = some (some (.ref f0))) (l0 : K.lookup f0 = some ⟨oc0, od0, .func (PySem.W.fnOf "parts_of" "parts_of" (defArgs s0) (defBody s0) (defScope s0) .none kV0 dc0 pm0 an0 cd0 ct0), sl0⟩) (q0 : PySem.W.codeIn K cd0 "parts_of" = true) (k0 : PySem.W.keepIn K (.ref f0) = true)
    {f1 : Addr} {od1 an1 : Option Addr} {sl1 : Array (Option Value)} {oc1 kV1 dc1 pm1 cd1 ct1 : Value}
    (a1 : PySem.W.nsIn K mainGlobals "height_of" = some (some (.ref f1))) (l1 : K.lookup f1 = some ⟨oc1, od1, .func (PySem.W.fnOf "height_of" "height_of" (defArgs s1) (defBody s1) (defScope s1) .none kV1 dc1 pm1 an1 cd1 ct1), sl1⟩) (q1 : PySem.W.codeIn K cd1 "height_of" = true) (k1 : PySem.W.keepIn K (.ref f1) = true)
    {f2 : Addr} {od2 an2 : Option Addr} {sl2 : Array (Option Value)} {oc2 kV2 dc2 pm2 cd2 ct2 : Value}
    (a2 : PySem.W.nsIn K mainGlobals "size_of" = some (some (.ref f2))) (l2 : K.lookup f2 = some ⟨oc2, od2, .func (PySem.W.fnOf "size_of" "size_of" (defArgs s2) (defBody s2) (defScope s2) .none kV2 dc2 pm2 an2 cd2 ct2), sl2⟩) (q2 : PySem.W.codeIn K cd2 "size_of" = true) (k2 : PySem.W.keepIn K (.ref f2) = true)
    {f3 : Addr} {od3 an3 : Option Addr} {sl3 : Array (Option Value)} {oc3 kV3 dc3 pm3 cd3 ct3 : Value}
    (a3 : PySem.W.nsIn K mainGlobals "_law_cell" = some (some (.ref f3))) (l3 : K.lookup f3 = some ⟨oc3, od3, .func (PySem.W.fnOf "_law_cell" "_law_cell" (defArgs s3) (defBody s3) (defScope s3) .none kV3 dc3 pm3 an3 cd3 ct3), sl3⟩) (q3 : PySem.W.codeIn K cd3 "_law_cell" = true) (k3 : PySem.W.keepIn K (.ref f3) = true)
    {f4 : Addr} {od4 an4 : Option Addr} {sl4 : Array (Option Value)} {oc4 kV4 dc4 pm4 cd4 ct4 : Value}
    (a4 : PySem.W.nsIn K mainGlobals "_law_mixed" = some (some (.ref f4))) (l4 : K.lookup f4 = some ⟨oc4, od4, .func (PySem.W.fnOf "_law_mixed" "_law_mixed" (defArgs s4) (defBody s4) (defScope s4) .none kV4 dc4 pm4 an4 cd4 ct4), sl4⟩) (q4 : PySem.W.codeIn K cd4 "_law_mixed" = true) (k4 : PySem.W.keepIn K (.ref f4) = true)
    {f5 : Addr} {od5 an5 : Option Addr} {sl5 : Array (Option Value)} {oc5 kV5 dc5 pm5 cd5 ct5 : Value}
    (a5 : PySem.W.nsIn K mainGlobals "_law_kept" = some (some (.ref f5))) (l5 : K.lookup f5 = some ⟨oc5, od5, .func (PySem.W.fnOf "_law_kept" "_law_kept" (defArgs s5) (defBody s5) (defScope s5) .none kV5 dc5 pm5 an5 cd5 ct5), sl5⟩) (q5 : PySem.W.codeIn K cd5 "_law_kept" = true) (k5 : PySem.W.keepIn K (.ref f5) = true)
    {f6 : Addr} {od6 an6 : Option Addr} {sl6 : Array (Option Value)} {oc6 kV6 dc6 pm6 cd6 ct6 : Value}
    (a6 : PySem.W.nsIn K mainGlobals "_law_plain" = some (some (.ref f6))) (l6 : K.lookup f6 = some ⟨oc6, od6, .func (PySem.W.fnOf "_law_plain" "_law_plain" (defArgs s6) (defBody s6) (defScope s6) .none kV6 dc6 pm6 an6 cd6 ct6), sl6⟩) (q6 : PySem.W.codeIn K cd6 "_law_plain" = true) (k6 : PySem.W.keepIn K (.ref f6) = true)
    {f7 : Addr} {od7 an7 : Option Addr} {sl7 : Array (Option Value)} {oc7 kV7 dc7 pm7 cd7 ct7 : Value}
    (a7 : PySem.W.nsIn K mainGlobals "_law_name" = some (some (.ref f7))) (l7 : K.lookup f7 = some ⟨oc7, od7, .func (PySem.W.fnOf "_law_name" "_law_name" (defArgs s7) (defBody s7) (defScope s7) .none kV7 dc7 pm7 an7 cd7 ct7), sl7⟩) (q7 : PySem.W.codeIn K cd7 "_law_name" = true) (k7 : PySem.W.keepIn K (.ref f7) = true)
    {f8 : Addr} {od8 an8 : Option Addr} {sl8 : Array (Option Value)} {oc8 kV8 dc8 pm8 cd8 ct8 : Value}
    (a8 : PySem.W.nsIn K mainGlobals "_law_signs" = some (some (.ref f8))) (l8 : K.lookup f8 = some ⟨oc8, od8, .func (PySem.W.fnOf "_law_signs" "_law_signs" (defArgs s8) (defBody s8) (defScope s8) .none kV8 dc8 pm8 an8 cd8 ct8), sl8⟩) (q8 : PySem.W.codeIn K cd8 "_law_signs" = true) (k8 : PySem.W.keepIn K (.ref f8) = true)
    {f9 : Addr} {od9 an9 : Option Addr} {sl9 : Array (Option Value)} {oc9 kV9 dc9 pm9 cd9 ct9 : Value}
    (a9 : PySem.W.nsIn K mainGlobals "_law_leaf" = some (some (.ref f9))) (l9 : K.lookup f9 = some ⟨oc9, od9, .func (PySem.W.fnOf "_law_leaf" "_law_leaf" (defArgs s9) (defBody s9) (defScope s9) .none kV9 dc9 pm9 an9 cd9 ct9), sl9⟩) (q9 : PySem.W.codeIn K cd9 "_law_leaf" = true) (k9 : PySem.W.keepIn K (.ref f9) = true)
    {f10 : Addr} {od10 an10 : Option Addr} {sl10 : Array (Option Value)} {oc10 kV10 dc10 pm10 cd10 ct10 : Value}
    (a10 : PySem.W.nsIn K mainGlobals "_law_above" = some (some (.ref f10))) (l10 : K.lookup f10 = some ⟨oc10, od10, .func (PySem.W.fnOf "_law_above" "_law_above" (defArgs s10) (defBody s10) (defScope s10) .none kV10 dc10 pm10 an10 cd10 ct10), sl10⟩) (q10 : PySem.W.codeIn K cd10 "_law_above" = true) (k10 : PySem.W.keepIn K (.ref f10) = true)
    {f11 : Addr} {od11 an11 : Option Addr} {sl11 : Array (Option Value)} {oc11 kV11 dc11 pm11 cd11 ct11 : Value}
    (a11 : PySem.W.nsIn K mainGlobals "_law_grown" = some (some (.ref f11))) (l11 : K.lookup f11 = some ⟨oc11, od11, .func (PySem.W.fnOf "_law_grown" "_law_grown" (defArgs s11) (defBody s11) (defScope s11) .none kV11 dc11 pm11 an11 cd11 ct11), sl11⟩) (q11 : PySem.W.codeIn K cd11 "_law_grown" = true) (k11 : PySem.W.keepIn K (.ref f11) = true)
    {f12 : Addr} {od12 an12 : Option Addr} {sl12 : Array (Option Value)} {oc12 kV12 dc12 pm12 cd12 ct12 : Value}
    (a12 : PySem.W.nsIn K mainGlobals "_law_tree" = some (some (.ref f12))) (l12 : K.lookup f12 = some ⟨oc12, od12, .func (PySem.W.fnOf "_law_tree" "_law_tree" (defArgs s12) (defBody s12) (defScope s12) .none kV12 dc12 pm12 an12 cd12 ct12), sl12⟩) (q12 : PySem.W.codeIn K cd12 "_law_tree" = true) (k12 : PySem.W.keepIn K (.ref f12) = true)
    {f13 : Addr} {od13 an13 : Option Addr} {sl13 : Array (Option Value)} {oc13 kV13 dc13 pm13 cd13 ct13 : Value}
    (a13 : PySem.W.nsIn K mainGlobals "_law_whole" = some (some (.ref f13))) (l13 : K.lookup f13 = some ⟨oc13, od13, .func (PySem.W.fnOf "_law_whole" "_law_whole" (defArgs s13) (defBody s13) (defScope s13) .none kV13 dc13 pm13 an13 cd13 ct13), sl13⟩) (q13 : PySem.W.codeIn K cd13 "_law_whole" = true) (k13 : PySem.W.keepIn K (.ref f13) = true)
    {f14 : Addr} {od14 an14 : Option Addr} {sl14 : Array (Option Value)} {oc14 kV14 dc14 pm14 cd14 ct14 : Value}
    (a14 : PySem.W.nsIn K mainGlobals "law" = some (some (.ref f14))) (l14 : K.lookup f14 = some ⟨oc14, od14, .func (PySem.W.fnOf "law" "law" (defArgs s14) (defBody s14) (defScope s14) .none kV14 dc14 pm14 an14 cd14 ct14), sl14⟩) (q14 : PySem.W.codeIn K cd14 "law" = true) (k14 : PySem.W.keepIn K (.ref f14) = true)
    (z0 : PySem.W.nsIn K mainGlobals "any" = some none)
    (z1 : PySem.W.nsIn K mainGlobals "bool" = some none)
    (z2 : PySem.W.nsIn K mainGlobals "enumerate" = some none)
    (z3 : PySem.W.nsIn K mainGlobals "int" = some none)
    (z4 : PySem.W.nsIn K mainGlobals "isinstance" = some none)
    (z5 : PySem.W.nsIn K mainGlobals "len" = some none)
    (z6 : PySem.W.nsIn K mainGlobals "list" = some none)
    (z7 : PySem.W.nsIn K mainGlobals "max" = some none)
    (z8 : PySem.W.nsIn K mainGlobals "range" = some none)
    (z9 : PySem.W.nsIn K mainGlobals "sum" = some none)
    (z10 : PySem.W.nsIn K mainGlobals "tuple" = some none)
    (math : ∀ ns : List Int, ns.length ≤ 63 → ∃ m, run G Pr 60 14 [.scr ns] = .ok (.bl true, m)) :
    ∃ fd : FuncData, (∀ (s : Shared) (v : Value), BindsTo s fd ⟨[v], []⟩ [("_law_script", v)]) ∧ ∀ base : Heap, K.In base → base.Ns mainGlobals mg → FnOk l.prog w K mg base (L2.CX l.prog w) 60 fa fd ["_law_script"] (spLaw K) := by
  have e := hfa.symm.trans (PySem.W.mg_of X GG a14)
  cases e
  have F0 := fun_mk (st := s0) l0 q0 k0
  have b0 := F0.binds (ps := P0) fun _ _ _ _ _ _ us hl => match us, hl with | [_], _ => rfl
  have d0 : DefOk l.prog w K mg T G (fun _ => 0) Pr np bl 0 1 _ _ P0 := ⟨⟨_, s0, N0, c0, PySem.W.mg_of X GG a0, F0, b0, rfl, sc0, rfl, fun X cf W Y => body0 Y⟩⟩
  have F1 := fun_mk (st := s1) l1 q1 k1
  have b1 := F1.binds (ps := P1) fun _ _ _ _ _ _ us hl => match us, hl with | [_], _ => rfl
  have d1 : DefOk l.prog w K mg T G (fun _ => 0) Pr np bl 1 1 _ _ P1 := ⟨⟨_, s1, N1, c1, PySem.W.mg_of X GG a1, F1, b1, rfl, sc1, rfl, fun X cf W Y => body1 Y⟩⟩
  have F2 := fun_mk (st := s2) l2 q2 k2
  have b2 := F2.binds (ps := P2) fun _ _ _ _ _ _ us hl => match us, hl with | [_], _ => rfl
  have d2 : DefOk l.prog w K mg T G (fun _ => 0) Pr np bl 2 1 _ _ P2 := ⟨⟨_, s2, N2, c2, PySem.W.mg_of X GG a2, F2, b2, rfl, sc2, rfl, fun X cf W Y => body2 Y⟩⟩
  have F3 := fun_mk (st := s3) l3 q3 k3
  have b3 := F3.binds (ps := P3) fun _ _ _ _ _ _ us hl => match us, hl with | [_, _], _ => rfl
  have d3 : DefOk l.prog w K mg T G (fun _ => 0) Pr np bl 3 2 _ _ P3 := ⟨⟨_, s3, N3, c3, PySem.W.mg_of X GG a3, F3, b3, rfl, sc3, rfl, fun X cf W Y => body3 Y⟩⟩
  have F4 := fun_mk (st := s4) l4 q4 k4
  have b4 := F4.binds (ps := P4) fun _ _ _ _ _ _ us hl => match us, hl with | [_, _], _ => rfl
  have d4 : DefOk l.prog w K mg T G (fun _ => 0) Pr np bl 4 2 _ _ P4 := ⟨⟨_, s4, N4, c4, PySem.W.mg_of X GG a4, F4, b4, rfl, sc4, rfl, fun X cf W Y => body4 Y⟩⟩
  have F5 := fun_mk (st := s5) l5 q5 k5
  have b5 := F5.binds (ps := P5) fun _ _ _ _ _ _ us hl => match us, hl with | [], _ => rfl
  have d5 : DefOk l.prog w K mg T G (fun _ => 0) Pr np bl 5 0 _ _ P5 := ⟨⟨_, s5, N5, c5, PySem.W.mg_of X GG a5, F5, b5, rfl, sc5, rfl, fun X cf W Y => body5 Y⟩⟩
  have F6 := fun_mk (st := s6) l6 q6 k6
  have b6 := F6.binds (ps := P6) fun _ _ _ _ _ _ us hl => match us, hl with | [_], _ => rfl
  have d6 : DefOk l.prog w K mg T G (fun _ => 0) Pr np bl 6 1 _ _ P6 := ⟨⟨_, s6, N6, c6, PySem.W.mg_of X GG a6, F6, b6, rfl, sc6, rfl, fun X cf W Y => body6 Y⟩⟩
  have F7 := fun_mk (st := s7) l7 q7 k7
  have b7 := F7.binds (ps := P7) fun _ _ _ _ _ _ us hl => match us, hl with | [_], _ => rfl
  have d7 : DefOk l.prog w K mg T G (fun _ => 0) Pr np bl 7 1 _ _ P7 := ⟨⟨_, s7, N7, c7, PySem.W.mg_of X GG a7, F7, b7, rfl, sc7, rfl, fun X cf W Y => body7 Y⟩⟩
  have F8 := fun_mk (st := s8) l8 q8 k8
  have b8 := F8.binds (ps := P8) fun _ _ _ _ _ _ us hl => match us, hl with | [], _ => rfl
  have d8 : DefOk l.prog w K mg T G (fun _ => 0) Pr np bl 8 0 _ _ P8 := ⟨⟨_, s8, N8, c8, PySem.W.mg_of X GG a8, F8, b8, rfl, sc8, rfl, fun X cf W Y => body8 Y⟩⟩
  have F9 := fun_mk (st := s9) l9 q9 k9
  have b9 := F9.binds (ps := P9) fun _ _ _ _ _ _ us hl => match us, hl with | [_, _], _ => rfl
  have d9 : DefOk l.prog w K mg T G (fun _ => 0) Pr np bl 9 2 _ _ P9 := ⟨⟨_, s9, N9, c9, PySem.W.mg_of X GG a9, F9, b9, rfl, sc9, rfl, fun X cf W Y => body9 Y⟩⟩
  have F10 := fun_mk (st := s10) l10 q10 k10
  have b10 := F10.binds (ps := P10) fun _ _ _ _ _ _ us hl => match us, hl with | [_, _], _ => rfl
  have d10 : DefOk l.prog w K mg T G (fun _ => 0) Pr np bl 10 2 _ _ P10 := ⟨⟨_, s10, N10, c10, PySem.W.mg_of X GG a10, F10, b10, rfl, sc10, rfl, fun X cf W Y => body10 Y⟩⟩
  have F11 := fun_mk (st := s11) l11 q11 k11
  have b11 := F11.binds (ps := P11) fun _ _ _ _ _ _ us hl => match us, hl with | [_, _, _], _ => rfl
  have d11 : DefOk l.prog w K mg T G (fun _ => 0) Pr np bl 11 3 _ _ P11 := ⟨⟨_, s11, N11, c11, PySem.W.mg_of X GG a11, F11, b11, rfl, sc11, rfl, fun X cf W Y => body11 Y⟩⟩
  have F12 := fun_mk (st := s12) l12 q12 k12
  have b12 := F12.binds (ps := P12) fun _ _ _ _ _ _ us hl => match us, hl with | [_, _], _ => rfl
  have d12 : DefOk l.prog w K mg T G (fun _ => 0) Pr np bl 12 2 _ _ P12 := ⟨⟨_, s12, N12, c12, PySem.W.mg_of X GG a12, F12, b12, rfl, sc12, rfl, fun X cf W Y => body12 Y⟩⟩
  have F13 := fun_mk (st := s13) l13 q13 k13
  have b13 := F13.binds (ps := P13) fun _ _ _ _ _ _ us hl => match us, hl with | [_, _], _ => rfl
  have d13 : DefOk l.prog w K mg T G (fun _ => 0) Pr np bl 13 2 _ _ P13 := ⟨⟨_, s13, N13, c13, PySem.W.mg_of X GG a13, F13, b13, rfl, sc13, rfl, fun X cf W Y => body13 Y⟩⟩
  have F14 := fun_mk (st := s14) l14 q14 k14
  have b14 := F14.binds (ps := P14) fun _ _ _ _ _ _ us hl => match us, hl with | [_], _ => rfl
  have d14 : DefOk l.prog w K mg T G (fun _ => 0) Pr np bl 14 1 _ _ P14 := ⟨⟨_, s14, N14, c14, PySem.W.mg_of X GG a14, F14, b14, rfl, sc14, rfl, fun X cf W Y => body14 Y⟩⟩
  have hd : ∀ f n, np f = some n → ∃ a fd ps, DefOk l.prog w K mg T G (fun _ => 0) Pr np bl f n a fd ps := fun f n e => match f, e with
    | 0, e => by cases e; exact ⟨_, _, _, d0⟩
    | 1, e => by cases e; exact ⟨_, _, _, d1⟩
    | 2, e => by cases e; exact ⟨_, _, _, d2⟩
    | 3, e => by cases e; exact ⟨_, _, _, d3⟩
    | 4, e => by cases e; exact ⟨_, _, _, d4⟩
    | 5, e => by cases e; exact ⟨_, _, _, d5⟩
    | 6, e => by cases e; exact ⟨_, _, _, d6⟩
    | 7, e => by cases e; exact ⟨_, _, _, d7⟩
    | 8, e => by cases e; exact ⟨_, _, _, d8⟩
    | 9, e => by cases e; exact ⟨_, _, _, d9⟩
    | 10, e => by cases e; exact ⟨_, _, _, d10⟩
    | 11, e => by cases e; exact ⟨_, _, _, d11⟩
    | 12, e => by cases e; exact ⟨_, _, _, d12⟩
    | 13, e => by cases e; exact ⟨_, _, _, d13⟩
    | 14, e => by cases e; exact ⟨_, _, _, d14⟩
    | _ + 15, e => by cases e
  have hb : ∀ x ∈ bl, mg x = none := NoneAll.all (.cons (PySem.W.mg_none_of X GG z0) (.cons (PySem.W.mg_none_of X GG z1) (.cons (PySem.W.mg_none_of X GG z2) (.cons (PySem.W.mg_none_of X GG z3) (.cons (PySem.W.mg_none_of X GG z4) (.cons (PySem.W.mg_none_of X GG z5) (.cons (PySem.W.mg_none_of X GG z6) (.cons (PySem.W.mg_none_of X GG z7) (.cons (PySem.W.mg_none_of X GG z8) (.cons (PySem.W.mg_none_of X GG z9) (.cons (PySem.W.mg_none_of X GG z10) .nil)))))))))))
  have hg : ∀ g d, G.gv g = some d → ∃ u v, mg (T.gn g) = some u ∧ RelV v u ∧ ∀ H, Rep K (fun _ => 0) H 9 d v [] [] := fun g d e => match g, e with
    | _ + 0, e => by cases e
  refine ⟨PySem.W.fnOf "law" "law" (defArgs s14) (defBody s14) (defScope s14) .none kV14 dc14 pm14 an14 cd14 ct14, fun s v => .of_eq rfl, fun base _ _ => ?_⟩
  exact law_ok (fn_step (base := base) (fns_ok hd hb hg 59) d14 hb hg) math
end
end K21

open PySem PySem.W PyProof.Rows
set_option maxHeartbeats 0 in
theorem PySem.Challenge.cw_thingyard_k21_trees_measured_holds : PySem.Challenge.rw_thingyard_k21_trees_measured.Holds := by
  w_on; o_law; k_head; (case hw => w_witness2)
  k_fill
  refine L2.walk_of (l := PySem.Challenge.rw_thingyard_k21_trees_measured) (n := 63) (k := 60) (x := "_law_script") (CX := fun w => L2.CX PySem.Challenge.rw_thingyard_k21_trees_measured.prog w) (sp := fun w => Vy.spLaw _) rfl (by decide) rfl ⟨rfl, by decide, by decide⟩ (fun w h Y => PySem.W.kIn_of Y) ?F (fun w H a ns hl hO hS => Vy.sp_end hl hO hS) (fun w H s e s' h => Vy.cx_end H s e s' h)
  case F =>
    intro w mg fa h KX G hmg
    refine' K21.all_mk KX G hmg ?va0 ?vl0 ?vq0 ?vk0 ?va1 ?vl1 ?vq1 ?vk1 ?va2 ?vl2 ?vq2 ?vk2 ?va3 ?vl3 ?vq3 ?vk3 ?va4 ?vl4 ?vq4 ?vk4 ?va5 ?vl5 ?vq5 ?vk5 ?va6 ?vl6 ?vq6 ?vk6 ?va7 ?vl7 ?vq7 ?vk7 ?va8 ?vl8 ?vq8 ?vk8 ?va9 ?vl9 ?vq9 ?vk9 ?va10 ?vl10 ?vq10 ?vk10 ?va11 ?vl11 ?vq11 ?vk11 ?va12 ?vl12 ?vq12 ?vk12 ?va13 ?vl13 ?vq13 ?vk13 ?va14 ?vl14 ?vq14 ?vk14 ?vz0 ?vz1 ?vz2 ?vz3 ?vz4 ?vz5 ?vz6 ?vz7 ?vz8 ?vz9 ?vz10 K21.math
    (case va0 => k_is); (case va1 => k_is); (case va2 => k_is); (case va3 => k_is); (case va4 => k_is); (case va5 => k_is); (case va6 => k_is); (case va7 => k_is); (case va8 => k_is); (case va9 => k_is); (case va10 => k_is); (case va11 => k_is); (case va12 => k_is); (case va13 => k_is); (case va14 => k_is); (case vl0 => k_is); (case vq0 => k_is); (case vk0 => k_is); (case vl1 => k_is); (case vq1 => k_is); (case vk1 => k_is); (case vl2 => k_is); (case vq2 => k_is); (case vk2 => k_is); (case vl3 => k_is); (case vq3 => k_is); (case vk3 => k_is); (case vl4 => k_is); (case vq4 => k_is); (case vk4 => k_is); (case vl5 => k_is); (case vq5 => k_is); (case vk5 => k_is); (case vl6 => k_is); (case vq6 => k_is); (case vk6 => k_is); (case vl7 => k_is); (case vq7 => k_is); (case vk7 => k_is); (case vl8 => k_is); (case vq8 => k_is); (case vk8 => k_is); (case vl9 => k_is); (case vq9 => k_is); (case vk9 => k_is); (case vl10 => k_is); (case vq10 => k_is); (case vk10 => k_is); (case vl11 => k_is); (case vq11 => k_is); (case vk11 => k_is); (case vl12 => k_is); (case vq12 => k_is); (case vk12 => k_is); (case vl13 => k_is); (case vq13 => k_is); (case vk13 => k_is); (case vl14 => k_is); (case vq14 => k_is); (case vk14 => k_is); (case vz0 => k_is); (case vz1 => k_is); (case vz2 => k_is); (case vz3 => k_is); (case vz4 => k_is); (case vz5 => k_is); (case vz6 => k_is); (case vz7 => k_is); (case vz8 => k_is); (case vz9 => k_is); (case vz10 => k_is)
