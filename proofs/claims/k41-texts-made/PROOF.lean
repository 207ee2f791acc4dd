import PyProof.Rows.All
import Wide.All
import OpenK.AllK
import Wide.FinOn
import HandS.ForMost
import HandS.Exc
import HandS.TryMany
import HandS.ExcInit
import HandS.CallSlots
import HandS.Deep
import HandS.TupAny
import KE.KEqDict
import HandS.IsInst
import HandS.Flow
import HandS.WordsDict
import HandS.More
import HandS.WordsExc
import HandS.SortKw
import KE.DatumOrd
import HandS.Style
import HandS.SetKeys
import HandS.Finally
import KE.SortData
import HandS.Iter
import HandS.SetFor
import HandS.ListItems
import KE.KIntText
import HandS.ReplaceLit
import HandS.ReplaceDef
import HandS.ReplaceList
import PyProof.Rows.StrInSeq3
import HandS.StrMore
import PySem.Challenge.RW_thingyard_k41_texts_made
set_option Elab.async false
set_option linter.all false
set_option maxRecDepth 100000
set_option maxHeartbeats 1000000
namespace Vy
open PySem PySem.Spec PyProof.Rows L2

/-! ## Data told by value -/
abbrev Cs := List Nat
inductive D where
  | non | bl (b : Bool) | int (i : Int) | str (s : Cs)
  | tup (xs : List D) | lst (xs : List D) | dct (ks : List D) (vs : List D) | ins (c : Nat) (fs : List Cs) (vs : List D)
  | cls (c : Nat) | scr (ns : List Int) | fz (d : D) | hol
  deriving Inhabited

def mkS (s : Cs) : Str := ⟨s.toArray⟩
/-- signs that there are -/
def Bd (s : Cs) : Prop := ∀ c ∈ s, c < 1114112
def vKey : D → Option Key
  | .int i => some (.inl i)
  | .str s => some (.inr (mkS s))
  | _ => none

mutual
/-- how deep things that may change lie in one another -/
def D.mdep : D → Nat
  | .tup xs => mdepL xs
  | .lst xs => mdepL xs + 1
  | .dct _ vs => mdepL vs + 1
  | .ins _ _ vs => mdepL vs + 1
  | .fz d => d.mdep + 1000000
  | _ => 0
def mdepL : List D → Nat
  | [] => 0
  | d :: r => max d.mdep (mdepL r)
end

/-! ## How data lie in the abstract heap: own addresses O, others' Z -/
/-- a dict's keys: texts and numbers, none twice -/
def KeyOk (ks : List D) (kvs : List (Key × V)) : Prop := ks.map vKey = kvs.map (fun p => some p.1) ∧ (kvs.map (·.1)).Nodup ∧ ∀ s, D.str s ∈ ks → Bd s
/-- the script: read alone -/
def SqZ (K : PySem.W.Frag) (H : Hp) (a : Addr) (xs : List V) : Prop := (∃ o, H a = some (.frz o (.lst xs))) ∨ ∀ H', SqL K H' a xs
theorem SqZ.l {K : PySem.W.Frag} {H : Hp} {a : Addr} {xs : List V} (h : SqZ K H a xs) : SqL K H a xs := h.elim (fun ⟨o, e⟩ => .inl (.inr ⟨o, e⟩)) fun e => e H
section
variable (K : PySem.W.Frag) (CA : Nat → Addr)
mutual
inductive Rep (H : Hp) : Nat → D → V → List Addr → List Addr → Prop
  | non {n} : Rep H n .non .non [] []
  | bl {n} (b : Bool) : Rep H n (.bl b) (.bl b) [] []
  | int {n} (i : Int) : Rep H n (.int i) (.int i) [] []
  | str {n} {s : Cs} : Bd s → Rep H n (.str s) (.str (mkS s)) [] []
  | cls {n} (c : Nat) : Rep H n (.cls c) (.ref (CA c)) [] []
  | scr {n a ns} : SqZ K H a (ns.map V.int) → Rep H n (.scr ns) (.ref a) [] []
  | hol {n v} : Rep H n .hol v [] []
  | fz {n d v Z} : n < 1000000 → d.mdep ≠ 0 → Rep H 0 d v [] Z → Rep H n (.fz d) v [] Z
  | tup {n a ds vs O Z} : SqT K H a vs → Reps H n ds vs O Z → Rep H n (.tup ds) (.ref a) O Z
  | lstO {n a ds vs O Z} : H a = some (.lst vs) → Reps H n ds vs O Z → Rep H (n + 1) (.lst ds) (.ref a) (a :: O) Z
  | lstZ {a ds vs O Z} : H a = some (.lst vs) → Reps H 0 ds vs O Z → Rep H 0 (.lst ds) (.ref a) O (a :: Z)
  | dctO {n a ks ds kvs O Z} : H a = some (.dK kvs) → KeyOk ks kvs → Reps H n ds (kvs.map (·.2)) O Z → Rep H (n + 1) (.dct ks ds) (.ref a) (a :: O) Z
  | dctZ {a ks ds kvs O Z} : Rd H a (.dK kvs) → KeyOk ks kvs → Reps H 0 ds (kvs.map (·.2)) O Z → Rep H 0 (.dct ks ds) (.ref a) O (a :: Z)
  | insO {n a c fs ds dx fvs O Z} : H a = some (.ins (CA c) dx fvs) → fs.map mkS = fvs.map (·.1) → Reps H n ds (fvs.map (·.2)) O Z → Rep H (n + 1) (.ins c fs ds) (.ref a) (a :: O) Z
  | insZ {a c fs ds dx fvs O Z} : H a = some (.ins (CA c) dx fvs) → fs.map mkS = fvs.map (·.1) → Reps H 0 ds (fvs.map (·.2)) O Z → Rep H 0 (.ins c fs ds) (.ref a) O (a :: Z)
inductive Reps (H : Hp) : Nat → List D → List V → List Addr → List Addr → Prop
  | nil {n} : Reps H n [] [] [] []
  | cons {n d v ds vs O Z O' Z'} : Rep H n d v O Z → Reps H n ds vs O' Z' → Reps H n (d :: ds) (v :: vs) (O ++ O') (Z ++ Z')
end
end

/-- all that stood apart from F is kept -/
def Keep (F : List Addr) (H H' : Hp) : Prop := ∀ a o, H a = some o → a ∉ F → H' a = some o
theorem Keep.refl {F : List Addr} {H : Hp} : Keep F H H := fun _ _ h _ => h
theorem Keep.same {H H' : Hp} (k : Keep [] H H') : Same H H' := fun a o h => k a o h (by simp)
theorem keepS {F : List Addr} {H H' : Hp} (k : Same H H') : Keep F H H' := fun a o h _ => k a o h
theorem Keep.mono {F G : List Addr} {H H' : Hp} (k : Keep F H H') (h : ∀ a ∈ F, a ∈ G) : Keep G H H' := fun a o e n => k a o e fun z => n (h a z)
theorem Keep.upd_new {H : Hp} {p : Addr} {o : HO} {F : List Addr} (n : H p = none) : Keep F H (upd H p o) := fun a u e _ => by
  rw [upd_ne (ne_of_none e n)]; exact e
theorem sameNew {H : Hp} {p : Addr} {o : HO} (n : H p = none) : Same H (upd H p o) := fun a u e => by
  rw [upd_ne (ne_of_none e n)]; exact e

section
variable {K : PySem.W.Frag} {CA : Nat → Addr} {H H' : Hp}

mutual
theorem Rep.own_mut : ∀ {n d v O Z}, Rep K CA H n d v O Z → ∀ a ∈ O, Mut (H a)
  | _, _, _, _, _, .non, _, h => by simp at h
  | _, _, _, _, _, .bl _, _, h => by simp at h
  | _, _, _, _, _, .int _, _, h => by simp at h
  | _, _, _, _, _, .str _, _, h => by simp at h
  | _, _, _, _, _, .cls _, _, h => by simp at h
  | _, _, _, _, _, .scr _, _, h => by simp at h
  | _, _, _, _, _, .hol, _, h => by simp at h
  | _, _, _, _, _, .fz _ _ _, _, h => by simp at h
  | _, _, _, _, _, .tup _ r, b, h => r.own_mut b h
  | _, _, _, _, _, .lstO e r, b, h => by
    rcases List.mem_cons.mp h with rfl | h
    · rw [e]; trivial
    · exact r.own_mut b h
  | _, _, _, _, _, .lstZ _ r, b, h => r.own_mut b h
  | _, _, _, _, _, .dctO e _ r, b, h => by
    rcases List.mem_cons.mp h with rfl | h
    · rw [e]; trivial
    · exact r.own_mut b h
  | _, _, _, _, _, .dctZ _ _ r, b, h => r.own_mut b h
  | _, _, _, _, _, .insO e _ r, b, h => by
    rcases List.mem_cons.mp h with rfl | h
    · rw [e]; trivial
    · exact r.own_mut b h
  | _, _, _, _, _, .insZ _ _ r, b, h => r.own_mut b h
theorem Reps.own_mut : ∀ {n ds vs O Z}, Reps K CA H n ds vs O Z → ∀ a ∈ O, Mut (H a)
  | _, _, _, _, _, .nil, _, h => by simp at h
  | _, _, _, _, _, .cons r s, b, h => (List.mem_append.mp h).elim (r.own_mut b) (s.own_mut b)
end

theorem Rd.some {H : Hp} {a : Addr} {u : HO} (r : Rd H a u) : H a ≠ none := by
  rcases r with e | ⟨o, e⟩ <;> rw [e] <;> simp
mutual
theorem Rep.there : ∀ {n d v O Z}, Rep K CA H n d v O Z → ∀ a ∈ O ++ Z, H a ≠ none
  | _, _, _, _, _, .non, _, h => by simp at h
  | _, _, _, _, _, .bl _, _, h => by simp at h
  | _, _, _, _, _, .int _, _, h => by simp at h
  | _, _, _, _, _, .str _, _, h => by simp at h
  | _, _, _, _, _, .cls _, _, h => by simp at h
  | _, _, _, _, _, .scr _, _, h => by simp at h
  | _, _, _, _, _, .hol, _, h => by simp at h
  | _, _, _, _, _, .fz _ _ r, b, h => r.there b h
  | _, _, _, _, _, .tup _ r, b, h => r.there b h
  | _, _, _, _, _, .lstO e r, b, h => by
    rcases List.mem_cons.mp h with rfl | h
    · rw [e]; simp
    · exact r.there b h
  | _, _, _, _, _, .lstZ e r, b, h => by
    rcases List.mem_append.mp h with h | h
    · exact r.there b (List.mem_append_left _ h)
    · rcases List.mem_cons.mp h with rfl | h
      · exact (by rw [e]; simp)
      · exact r.there b (List.mem_append_right _ h)
  | _, _, _, _, _, .dctO e _ r, b, h => by
    rcases List.mem_cons.mp h with rfl | h
    · rw [e]; simp
    · exact r.there b h
  | _, _, _, _, _, .dctZ e _ r, b, h => by
    rcases List.mem_append.mp h with h | h
    · exact r.there b (List.mem_append_left _ h)
    · rcases List.mem_cons.mp h with rfl | h
      · exact Rd.some e
      · exact r.there b (List.mem_append_right _ h)
  | _, _, _, _, _, .insO e _ r, b, h => by
    rcases List.mem_cons.mp h with rfl | h
    · rw [e]; simp
    · exact r.there b h
  | _, _, _, _, _, .insZ e _ r, b, h => by
    rcases List.mem_append.mp h with h | h
    · exact r.there b (List.mem_append_left _ h)
    · rcases List.mem_cons.mp h with rfl | h
      · rw [e]; simp
      · exact r.there b (List.mem_append_right _ h)
theorem Reps.there : ∀ {n ds vs O Z}, Reps K CA H n ds vs O Z → ∀ a ∈ O ++ Z, H a ≠ none
  | _, _, _, _, _, .nil, _, h => by simp at h
  | _, _, _, _, _, .cons r s, b, h => by
    rcases List.mem_append.mp h with h | h <;> rcases List.mem_append.mp h with h | h
    · exact r.there b (List.mem_append_left _ h)
    · exact s.there b (List.mem_append_left _ h)
    · exact r.there b (List.mem_append_right _ h)
    · exact s.there b (List.mem_append_right _ h)
end

/-- what is never written -/
def Fix (F : List Addr) (H : Hp) : Prop := ∀ a ∈ F, Mut (H a)
theorem Rd.keep {F : List Addr} {a : Addr} {u : HO} (r : Rd H a u) (k : Keep F H H') (h : a ∉ F) : Rd H' a u := by
  rcases r with e | ⟨o, e⟩
  · exact .inl (k _ _ e h)
  · exact .inr ⟨o, k _ _ e h⟩
theorem SqT_keep {F : List Addr} {a : Addr} {xs : List V} (r : SqT K H a xs) (k : Keep F H H') (f : Fix F H) : SqT K H' a xs := by
  rcases r with (e | ⟨o, e⟩) | e
  · refine .inl (.inl (k _ _ e fun z => ?_))
    have := f _ z; rw [e] at this; exact this
  · refine .inl (.inr ⟨o, k _ _ e fun z => ?_⟩)
    have := f _ z; rw [e] at this; exact this
  · exact .inr e
theorem SqZ_keep {F : List Addr} {a : Addr} {xs : List V} (r : SqZ K H a xs) (k : Keep F H H') (f : Fix F H) : SqZ K H' a xs := by
  rcases r with ⟨o, e⟩ | e
  · refine .inl ⟨o, k _ _ e fun z => ?_⟩
    have := f _ z; rw [e] at this; exact this
  · exact .inr e
mutual
theorem Rep.keep {F : List Addr} (k : Keep F H H') (f : Fix F H) : ∀ {n d v O Z}, Rep K CA H n d v O Z → (∀ a ∈ O ++ Z, a ∉ F) → Rep K CA H' n d v O Z
  | _, _, _, _, _, .non, _ => .non
  | _, _, _, _, _, .bl _, _ => .bl _
  | _, _, _, _, _, .int _, _ => .int _
  | _, _, _, _, _, .str _, _ => .str (by assumption)
  | _, _, _, _, _, .cls _, _ => .cls _
  | _, _, _, _, _, .scr e, _ => .scr (SqZ_keep e k f)
  | _, _, _, _, _, .hol, _ => .hol
  | _, _, _, _, _, .fz hn hd r, h => .fz hn hd (r.keep k f h)
  | _, _, _, _, _, .tup e r, h => .tup (SqT_keep e k f) (r.keep k f h)
  | _, _, _, _, _, .lstO e r, h => .lstO (k _ _ e (h _ (by simp))) (r.keep k f fun b q => h b (by simp_all))
  | _, _, _, _, _, .lstZ e r, h => .lstZ (k _ _ e (h _ (by simp))) (r.keep k f fun b q => h b (by simp at q ⊢; rcases q with q | q <;> simp [q]))
  | _, _, _, _, _, .dctO e e1 r, h => .dctO (k _ _ e (h _ (by simp))) e1 (r.keep k f fun b q => h b (by simp_all))
  | _, _, _, _, _, .dctZ e e1 r, h => .dctZ (Rd.keep e k (h _ (by simp))) e1 (r.keep k f fun b q => h b (by simp at q ⊢; rcases q with q | q <;> simp [q]))
  | _, _, _, _, _, .insO e e1 r, h => .insO (k _ _ e (h _ (by simp))) e1 (r.keep k f fun b q => h b (by simp_all))
  | _, _, _, _, _, .insZ e e1 r, h => .insZ (k _ _ e (h _ (by simp))) e1 (r.keep k f fun b q => h b (by simp at q ⊢; rcases q with q | q <;> simp [q]))
theorem Reps.keep {F : List Addr} (k : Keep F H H') (f : Fix F H) : ∀ {n ds vs O Z}, Reps K CA H n ds vs O Z → (∀ a ∈ O ++ Z, a ∉ F) → Reps K CA H' n ds vs O Z
  | _, _, _, _, _, .nil, _ => .nil
  | _, _, _, _, _, .cons r s, h => .cons (r.keep k f fun b q => h b (by simp at q ⊢; rcases q with q | q <;> simp [q])) (s.keep k f fun b q => h b (by simp at q ⊢; rcases q with q | q <;> simp [q]))
end
theorem Fix.nil {H : Hp} : Fix [] H := fun _ h => by simp at h
theorem Rep.same (k : Same H H') {n d v O Z} (r : Rep K CA H n d v O Z) : Rep K CA H' n d v O Z := r.keep (F := []) (keepS k) Fix.nil (by simp)
theorem Reps.same (k : Same H H') {n ds vs O Z} (r : Reps K CA H n ds vs O Z) : Reps K CA H' n ds vs O Z := r.keep (F := []) (keepS k) Fix.nil (by simp)

/-- O, Z weakened: own things R become others' -/
def Low (O Z O' Z' : List Addr) : Prop := ∃ R, (O' ++ R).Perm O ∧ ∀ a ∈ Z', a ∈ R ∨ a ∈ Z
theorem Low.refl {O Z : List Addr} : Low O Z O Z := ⟨[], by simp, fun a h => .inr h⟩
theorem Low.append {O Z O' Z' P Y P' Y' : List Addr} (a : Low O Z O' Z') (b : Low P Y P' Y') : Low (O ++ P) (Z ++ Y) (O' ++ P') (Z' ++ Y') := by
  obtain ⟨R, p, h⟩ := a
  obtain ⟨R', p', h'⟩ := b
  refine ⟨R ++ R', ?_, fun x q => ?_⟩
  · rw [List.perm_iff_count] at p p' ⊢
    intro x
    have h1 := p x
    have h2 := p' x
    simp only [List.count_append] at h1 h2 ⊢
    omega
  · rcases List.mem_append.mp q with q | q
    · rcases h x q with z | z <;> simp [z]
    · rcases h' x q with z | z <;> simp [z]
theorem Low.cons0 {a : Addr} {O Z O' Z' : List Addr} (l : Low O Z O' Z') : Low (a :: O) Z O' (a :: Z') := by
  obtain ⟨R, p, h⟩ := l
  refine ⟨a :: R, List.perm_middle.trans (p.cons a), fun x q => ?_⟩
  rcases List.mem_cons.mp q with rfl | q
  · simp
  · rcases h x q with z | z <;> simp [z]
theorem Low.cons1 {a : Addr} {O Z O' Z' : List Addr} (l : Low O Z O' Z') : Low (a :: O) Z (a :: O') Z' := by
  obtain ⟨R, p, h⟩ := l
  exact ⟨R, p.cons a, h⟩
theorem Low.own {O Z O' Z' : List Addr} (l : Low O Z O' Z') : ∀ a ∈ O', a ∈ O := fun a h => by
  obtain ⟨R, p, _⟩ := l
  exact p.subset (List.mem_append_left _ h)
theorem Low.all {O Z O' Z' : List Addr} (l : Low O Z O' Z') : ∀ a ∈ Z', a ∈ O ∨ a ∈ Z := fun a h => by
  obtain ⟨R, p, q⟩ := l
  exact (q a h).imp (fun z => p.subset (List.mem_append_right _ z)) id
theorem Low.nd {O Z O' Z' : List Addr} (l : Low O Z O' Z') (h : O.Nodup) : O'.Nodup := by
  obtain ⟨R, p, q⟩ := l
  exact (List.nodup_append.mp (p.nodup_iff.mpr h)).1
theorem Low.zo {O Z O' Z' : List Addr} (l : Low O Z O' Z') (h : O.Nodup) (zo : ∀ a ∈ Z, a ∉ O) : ∀ a ∈ Z', a ∉ O' := fun a ha hb => by
  have ho := l.own a hb
  obtain ⟨R, p, q⟩ := l
  rcases q a ha with z | z
  · exact (List.nodup_append.mp (p.nodup_iff.mpr h)).2.2 a hb a z rfl
  · exact zo a z ho
mutual
theorem Rep.low : ∀ {n m d v O Z}, Rep K CA H n d v O Z → m ≤ n → ∃ O' Z', Rep K CA H m d v O' Z' ∧ Low O Z O' Z'
  | _, _, _, _, _, _, .non, _ => ⟨_, _, .non, .refl⟩
  | _, _, _, _, _, _, .bl _, _ => ⟨_, _, .bl _, .refl⟩
  | _, _, _, _, _, _, .int _, _ => ⟨_, _, .int _, .refl⟩
  | _, _, _, _, _, _, .str _, _ => ⟨_, _, .str (by assumption), .refl⟩
  | _, _, _, _, _, _, .cls _, _ => ⟨_, _, .cls _, .refl⟩
  | _, _, _, _, _, _, .scr e, _ => ⟨_, _, .scr e, .refl⟩
  | _, _, _, _, _, _, .hol, _ => ⟨_, _, .hol, .refl⟩
  | _, _, _, _, _, _, .fz hn hd r, h => ⟨_, _, .fz (Nat.lt_of_le_of_lt h hn) hd r, .refl⟩
  | _, _, _, _, _, _, .tup e r, h => let ⟨_, _, r', l⟩ := r.low h; ⟨_, _, .tup e r', l⟩
  | _, 0, _, _, _, _, .lstO e r, h => let ⟨_, _, r', l⟩ := r.low (Nat.zero_le _); ⟨_, _, .lstZ e r', l.cons0⟩
  | _, m + 1, _, _, _, _, .lstO e r, h => let ⟨_, _, r', l⟩ := r.low (Nat.le_of_succ_le_succ h); ⟨_, _, .lstO e r', l.cons1⟩
  | _, _, _, _, _, _, .lstZ e r, h => by obtain rfl := Nat.le_zero.mp h; exact ⟨_, _, .lstZ e r, .refl⟩
  | _, 0, _, _, _, _, .dctO e e1 r, h => let ⟨_, _, r', l⟩ := r.low (Nat.zero_le _); ⟨_, _, .dctZ (.inl e) e1 r', l.cons0⟩
  | _, m + 1, _, _, _, _, .dctO e e1 r, h => let ⟨_, _, r', l⟩ := r.low (Nat.le_of_succ_le_succ h); ⟨_, _, .dctO e e1 r', l.cons1⟩
  | _, _, _, _, _, _, .dctZ e e1 r, h => by obtain rfl := Nat.le_zero.mp h; exact ⟨_, _, .dctZ e e1 r, .refl⟩
  | _, 0, _, _, _, _, .insO e e1 r, h => let ⟨_, _, r', l⟩ := r.low (Nat.zero_le _); ⟨_, _, .insZ e e1 r', l.cons0⟩
  | _, m + 1, _, _, _, _, .insO e e1 r, h => let ⟨_, _, r', l⟩ := r.low (Nat.le_of_succ_le_succ h); ⟨_, _, .insO e e1 r', l.cons1⟩
  | _, _, _, _, _, _, .insZ e e1 r, h => by obtain rfl := Nat.le_zero.mp h; exact ⟨_, _, .insZ e e1 r, .refl⟩
theorem Reps.low : ∀ {n m ds vs O Z}, Reps K CA H n ds vs O Z → m ≤ n → ∃ O' Z', Reps K CA H m ds vs O' Z' ∧ Low O Z O' Z'
  | _, _, _, _, _, _, .nil, _ => ⟨_, _, .nil, .refl⟩
  | _, _, _, _, _, _, .cons r s, h => let ⟨_, _, r', l⟩ := r.low h; let ⟨_, _, s', l'⟩ := s.low h; ⟨_, _, .cons r' s', l.append l'⟩
end
mutual
/-- nothing that may change lies in it: it stands at each level, and nowhere -/
theorem Rep.imm : ∀ {n m d v O Z}, Rep K CA H n d v O Z → d.mdep = 0 → O = [] ∧ Z = [] ∧ Rep K CA H m d v [] []
  | _, _, _, _, _, _, .non, _ => ⟨rfl, rfl, .non⟩
  | _, _, _, _, _, _, .bl _, _ => ⟨rfl, rfl, .bl _⟩
  | _, _, _, _, _, _, .int _, _ => ⟨rfl, rfl, .int _⟩
  | _, _, _, _, _, _, .str _, _ => ⟨rfl, rfl, .str (by assumption)⟩
  | _, _, _, _, _, _, .cls _, _ => ⟨rfl, rfl, .cls _⟩
  | _, _, _, _, _, _, .scr e, _ => ⟨rfl, rfl, .scr e⟩
  | _, _, _, _, _, _, .hol, _ => ⟨rfl, rfl, .hol⟩
  | _, _, _, _, _, _, .fz hn hd r, h => by rw [D.mdep] at h; omega
  | _, m, _, _, _, _, .tup e r, h => by
    rw [D.mdep] at h
    obtain ⟨h1, h2, r'⟩ := r.imm (m := m) h; exact ⟨h1, h2, .tup e r'⟩
  | _, _, _, _, _, _, .lstO e r, h => by rw [D.mdep] at h; omega
  | _, _, _, _, _, _, .lstZ e r, h => by rw [D.mdep] at h; omega
  | _, _, _, _, _, _, .dctO e e1 r, h => by rw [D.mdep] at h; omega
  | _, _, _, _, _, _, .dctZ e e1 r, h => by rw [D.mdep] at h; omega
  | _, _, _, _, _, _, .insO e e1 r, h => by rw [D.mdep] at h; omega
  | _, _, _, _, _, _, .insZ e e1 r, h => by rw [D.mdep] at h; omega
theorem Reps.imm : ∀ {n m ds vs O Z}, Reps K CA H n ds vs O Z → mdepL ds = 0 → O = [] ∧ Z = [] ∧ Reps K CA H m ds vs [] []
  | _, _, _, _, _, _, .nil, _ => ⟨rfl, rfl, .nil⟩
  | _, m, _, _, _, _, .cons r s, h => by
    rw [mdepL] at h
    obtain ⟨a1, a2, r'⟩ := r.imm (m := m) (by omega)
    obtain ⟨b1, b2, s'⟩ := s.imm (m := m) (by omega)
    subst a1; subst a2; subst b1; subst b2
    exact ⟨rfl, rfl, .cons (O := []) (Z := []) r' s'⟩
end
mutual
/-- owned to its depth: nothing of others in it -/
theorem Rep.full : ∀ {n d v O Z}, Rep K CA H n d v O Z → d.mdep ≤ n → Z = []
  | _, _, _, _, _, .non, _ => rfl
  | _, _, _, _, _, .bl _, _ => rfl
  | _, _, _, _, _, .int _, _ => rfl
  | _, _, _, _, _, .str _, _ => rfl
  | _, _, _, _, _, .cls _, _ => rfl
  | _, _, _, _, _, .scr _, _ => rfl
  | _, _, _, _, _, .hol, _ => rfl
  | _, _, _, _, _, .fz hn hd r, h => by rw [D.mdep] at h; omega
  | _, _, _, _, _, .tup e r, h => r.full (by rw [D.mdep] at h; exact h)
  | _, _, _, _, _, .lstO e r, h => r.full (by rw [D.mdep] at h; omega)
  | _, _, _, _, _, .lstZ e r, h => by rw [D.mdep] at h; omega
  | _, _, _, _, _, .dctO e e1 r, h => r.full (by rw [D.mdep] at h; omega)
  | _, _, _, _, _, .dctZ e e1 r, h => by rw [D.mdep] at h; omega
  | _, _, _, _, _, .insO e e1 r, h => r.full (by rw [D.mdep] at h; omega)
  | _, _, _, _, _, .insZ e e1 r, h => by rw [D.mdep] at h; omega
theorem Reps.full : ∀ {n ds vs O Z}, Reps K CA H n ds vs O Z → mdepL ds ≤ n → Z = []
  | _, _, _, _, _, .nil, _ => rfl
  | _, _, _, _, _, .cons r s, h => by
    rw [mdepL] at h
    rw [r.full (by omega), s.full (by omega)]; rfl
end
mutual
/-- at the level nought nothing is owned -/
theorem Rep.zero : ∀ {d v O Z}, Rep K CA H 0 d v O Z → O = []
  | _, _, _, _, .non => rfl
  | _, _, _, _, .bl _ => rfl
  | _, _, _, _, .int _ => rfl
  | _, _, _, _, .str _ => rfl
  | _, _, _, _, .cls _ => rfl
  | _, _, _, _, .scr _ => rfl
  | _, _, _, _, .hol => rfl
  | _, _, _, _, .fz _ _ _ => rfl
  | _, _, _, _, .tup _ r => r.zero
  | _, _, _, _, .lstZ _ r => r.zero
  | _, _, _, _, .dctZ _ _ r => r.zero
  | _, _, _, _, .insZ _ _ r => r.zero
theorem Reps.zero : ∀ {ds vs O Z}, Reps K CA H 0 ds vs O Z → O = []
  | _, _, _, _, .nil => rfl
  | _, _, _, _, .cons r s => by rw [r.zero, s.zero]; rfl
end
theorem Reps.length : ∀ {n ds vs O Z}, Reps K CA H n ds vs O Z → ds.length = vs.length
  | _, _, _, _, _, .nil => rfl
  | _, _, _, _, _, .cons _ s => by simp [s.length]
theorem Reps.append : ∀ {n ds vs O Z es us P Y}, Reps K CA H n ds vs O Z → Reps K CA H n es us P Y → Reps K CA H n (ds ++ es) (vs ++ us) (O ++ P) (Z ++ Y)
  | _, _, _, _, _, _, _, _, _, .nil, t => t
  | _, _, _, _, _, _, _, _, _, .cons r s, t => by
    have := Reps.cons r (s.append t)
    simpa [List.append_assoc] using this
theorem Rep.unfz {n d v O Z} (r : Rep K CA H n (.fz d) v O Z) : O = [] ∧ d.mdep ≠ 0 ∧ Rep K CA H 0 d v [] Z := by
  cases r with
  | fz hn hd r => exact ⟨rfl, hd, r⟩
theorem Rep.ref {n d v O Z} (r : Rep K CA H n d v O Z) (h : d.mdep ≠ 0) : ∃ a, v = .ref a := by
  induction r using Rep.rec (motive_2 := fun _ _ _ _ _ _ => True) with
  | fz hn hd r ih => exact ih hd
  | nil => trivial
  | cons => trivial
  | _ => first | exact ⟨_, rfl⟩ | (exfalso; apply h; simp [D.mdep])
/-- the i-th of them -/
theorem Reps.get : ∀ {n ds vs O Z} (i : Nat) (d : D), Reps K CA H n ds vs O Z → ds[i]? = some d →
    ∃ v A B A' B' O1 Z1, vs[i]? = some v ∧ Rep K CA H n d v O1 Z1 ∧ O = A ++ O1 ++ B ∧ Z = A' ++ Z1 ++ B' ∧
      Reps K CA H n (ds.take i) (vs.take i) A A' ∧ Reps K CA H n (ds.drop (i + 1)) (vs.drop (i + 1)) B B'
  | _, _, _, _, _, _, _, .nil, h => by simp at h
  | _, _, _, _, _, 0, d, .cons r s, h => by
    simp at h; subst h
    exact ⟨_, [], _, [], _, _, _, rfl, r, rfl, rfl, .nil, by simpa using s⟩
  | _, _, _, _, _, i + 1, d, .cons (O := O) (Z := Z) r s, h => by
    obtain ⟨v, A, B, A', B', O1, Z1, e, q, h1, h2, q1, q2⟩ := s.get i d (by simpa using h)
    refine ⟨v, O ++ A, B, Z ++ A', B', O1, Z1, by simpa using e, q, by rw [h1]; simp, by rw [h2]; simp, ?_, by simpa using q2⟩
    simpa using Reps.cons r q1
theorem Reps.get0 {ds vs O Z} (i : Nat) (d : D) (r : Reps K CA H 0 ds vs O Z) (h : ds[i]? = some d) : ∃ v Z1, vs[i]? = some v ∧ Rep K CA H 0 d v [] Z1 ∧ ∀ a ∈ Z1, a ∈ Z := by
  obtain ⟨v, A, B, A', B', O1, Z1, e, q, h1, h2, _, _⟩ := r.get i d h
  have := q.zero
  subst this
  exact ⟨v, Z1, e, q, fun a ha => by rw [h2]; simp [ha]⟩
end
end Vy

namespace Vy
open PySem PySem.Spec PyProof.Rows L2

/-! ## The language of values -/
inductive BO | add | sub | mul | fdv | mod | pow
  deriving DecidableEq
inductive CO | eq | ne | lt | le | gt | ge | isin | notin | is_ | isnot
  deriving DecidableEq
inductive Bi | len | all | any | sum | min | max | maxd | maxs | sorted | str | int | bool | ord | list | tuple | dict | setlen
  deriving DecidableEq
inductive Me | join | split | partition | rpartition | replace | find | lstrip | rstrip | strip | isalpha | index | count | get
  deriving DecidableEq
inductive IK | str | int | bool | tuple | list | dict | cls (c : Nat)
  deriving DecidableEq
inductive Tg | one (i : Nat) | tup (is : List Nat)
inductive C where
  | cst (d : D) | var (i : Nat) | glb (g : Nat)
  | bin (o : BO) (a b : C) | cmp (o : CO) (a b : C) | chn (o p : CO) (a b c : C)
  | not (a : C) | neg (a : C) | and (a b : C) | or (a b : C) | ife (t a b : C)
  | tup (es : List C) | lst (es : List C) | dct (ks es : List C)
  | sub (a i : C) | slc (a : C) (lo hi : Option C) | rev (a : C) | rvl (a : C)
  | cal (f : Nat) (es : List C) | bif (f : Bi) (es : List C) | mth (m : Me) (o : C) (es : List C)
  | fld (a : C) (f : Cs) | isi (a : C) (k : IK)
  | lc (it : C) (tg : Tg) (t : Option C) (e : C)
  | rng (es : List C) | enu (e : C) | zip (a b : C) | itm (e : C) | kys (e : C) | rvs (e : C)

structure Exn where
  c : Nat
  fs : List Cs
  vs : List D
inductive Out (α : Type) | ok (a : α) | exc (e : Exn) | bad
/-- .. of a def that changes what it is handed: what these are then -/
inductive OutI | ok (p : D × Nat) (ios : List (D × Nat)) | exc (e : Exn) (ios : List (D × Nat)) | bad
/-- the defs: those that change nothing, and all -/
structure Runs where
  pl : Nat → List D → Out (D × Nat)
  ci : Nat → List (D × Nat) → OutI
  io : List Nat
instance : CoeFun Runs fun _ => Nat → List D → Out (D × Nat) := ⟨Runs.pl⟩
def Out.bind {α β : Type} (x : Out α) (f : α → Out β) : Out β := match x with
  | .ok a => f a
  | .exc e => .exc e
  | .bad => .bad
@[simp] theorem Out.bind_ok {α β : Type} (a : α) (f : α → Out β) : (Out.ok a).bind f = f a := id rfl
@[simp] theorem Out.bind_exc {α β : Type} (e : Exn) (f : α → Out β) : (Out.exc e).bind f = .exc e := id rfl
@[simp] theorem Out.bind_bad {α β : Type} (f : α → Out β) : (Out.bad : Out α).bind f = .bad := id rfl
theorem Out.bind_eq_ok {α β : Type} {x : Out α} {f : α → Out β} {b : β} (h : x.bind f = .ok b) : ∃ a, x = .ok a ∧ f a = .ok b := by
  cases x with
  | ok a => exact ⟨a, rfl, h⟩
  | exc e => cases h
  | bad => cases h
def Out.of {α : Type} : Option α → Out α
  | some a => .ok a
  | none => .bad
@[simp] theorem Out.of_some {α : Type} (a : α) : Out.of (some a) = .ok a := id rfl
@[simp] theorem Out.of_none {α : Type} : (Out.of (none : Option α)) = .bad := id rfl
/-- go on only if -/
def gd (c : Prop) [Decidable c] {α : Type} (x : Out α) : Out α := if c then x else .bad
theorem gd_pos {c : Prop} [Decidable c] {α : Type} {x : Out α} (h : c) : gd c x = x := if_pos h
theorem gd_ok {c : Prop} [Decidable c] {α : Type} {x : Out α} {a : α} (h : gd c x = .ok a) : c ∧ x = .ok a := by
  unfold gd at h; split at h
  · exact ⟨by assumption, h⟩
  · cases h

/-! ### operations on values -/
mutual
def D.dep : D → Nat
  | .tup xs => depL xs + 1
  | .lst xs => depL xs + 1
  | .dct _ vs => depL vs + 1
  | _ => 0
def depL : List D → Nat
  | [] => 0
  | d :: r => max d.dep (depL r)
end
def lookD [BEq α] (k : α) : List α → List D → Option D
  | j :: ks, v :: vs => if j == k then some v else lookD k ks vs
  | _, _ => none
mutual
/-- == -/
def pyEq : D → D → Bool
  | .non, .non => true
  | .bl a, .bl b => a == b
  | .bl a, .int j => (if a then 1 else 0) == j
  | .int i, .bl b => i == (if b then 1 else 0)
  | .int i, .int j => i == j
  | .str s, .str t => s == t
  | .tup xs, .tup ys => pyEqL xs ys
  | .lst xs, .lst ys => pyEqL xs ys
  | _, _ => false
def pyEqL : List D → List D → Bool
  | [], [] => true
  | x :: xs, y :: ys => pyEq x y && pyEqL xs ys
  | _, _ => false
end
mutual
/-- things whose == we know: no dicts, no instances -/
def eqOk : D → Bool
  | .tup xs => eqOkL xs
  | .lst xs => eqOkL xs
  | .dct _ _ => false
  | .ins _ _ _ => false
  | .cls _ => false
  | .scr _ => false
  | .fz _ => false
  | .hol => false
  | _ => true
def eqOkL : List D → Bool
  | [] => true
  | d :: r => eqOk d && eqOkL r
end
/-- sizes that the machine keeps -/
def SZ : Nat := 16777216
def truth : D → Option Bool
  | .non => some false
  | .bl b => some b
  | .int i => some (i != 0)
  | .str s => if s.length ≤ SZ then some (!s.isEmpty) else none
  | .tup xs => some (!xs.isEmpty)
  | .lst xs => some (!xs.isEmpty)
  | _ => none
/-- the level of what is newly made of these -/
def lvL : List (D × Nat) → Nat
  | [] => 9
  | (d, n) :: r => if d.mdep = 0 then lvL r else min n (lvL r)
/-- a new list of items of others -/
def lv1 (xs : List D) : Nat := if mdepL xs = 0 then 9 else 1
/-- a new tuple of these -/
def lvt (xs : List D) : Nat := if mdepL xs = 0 then 9 else 0
def ix (n : Nat) (i : Int) : Option Nat := if 0 ≤ i then (if i < n then some i.toNat else none) else if -(n : Int) ≤ i then some (i + n).toNat else none
def at? {α : Type} (xs : List α) (i : Int) : Option α := (ix xs.length i).bind fun j => xs[j]?
/-- a slice's end -/
def sx (n d : Nat) : Option Int → Nat
  | none => d
  | some i => if 0 ≤ i then min i.toNat n else ((n : Int) + i).toNat
def cut {α : Type} (xs : List α) (lo hi : Option Int) : List α := (xs.drop (sx xs.length 0 lo)).take (sx xs.length xs.length hi - sx xs.length 0 lo)
def strsOf : List D → Option (List Cs)
  | [] => some []
  | .str s :: r => (strsOf r).map (s :: ·)
  | _ :: _ => none
def intsOf : List D → Option (List Int)
  | [] => some []
  | .int i :: r => (intsOf r).map (i :: ·)
  | _ :: _ => none
def boolsOf : List D → Option (List Bool)
  | [] => some []
  | .bl b :: r => (boolsOf r).map (b :: ·)
  | _ :: _ => none
def itemsOf : D → Option (List D)
  | .scr ns => some (ns.map .int)
  | .lst xs => some xs
  | .tup xs => some xs
  | .str s => some (s.map fun c => .str [c])
  | _ => none
def seqOf : D → Option (List D)
  | .scr ns => some (ns.map .int)
  | .lst xs => some xs
  | .tup xs => some xs
  | _ => none
def lsqOf : D → Option (List D)
  | .scr ns => some (ns.map .int)
  | .lst xs => some xs
  | _ => none
/-- a sub at the place or behind it: where it stands -/
def findC (sub : Cs) : Nat → Cs → Option Nat
  | k, [] => if sub = [] then some k else none
  | k, c :: r => if sub.isPrefixOf (c :: r) then some k else findC sub (k + 1) r
def codesOfInt (i : Int) : Cs := TL.tl (Str.ofString (toString i))
def flatD : D → Bool
  | .non => true
  | .bl _ => true
  | .int _ => true
  | .str _ => true
  | _ => false
def powOk (i j : Int) : Prop := 0 ≤ j ∧ j ≤ 1000000 ∧ i.natAbs < 2 ^ 64
instance (i j : Int) : Decidable (powOk i j) := inferInstanceAs (Decidable (_ ∧ _ ∧ _))
def mulOk (i j : Int) : Prop := (-(2 ^ 64) < i ∧ i < 2 ^ 64) ∨ (-(2 ^ 64) < j ∧ j < 2 ^ 64)
instance (i j : Int) : Decidable (mulOk i j) := inferInstanceAs (Decidable (_ ∨ _))
def go (c : Prop) [Decidable c] {α : Type} (x : Option α) : Option α := if c then x else none
theorem go_pos {c : Prop} [Decidable c] {α : Type} {x : Option α} (h : c) : go c x = x := if_pos h
theorem go_some {c : Prop} [Decidable c] {α : Type} {x : Option α} {a : α} (h : go c x = some a) : c ∧ x = some a := by
  unfold go at h; split at h
  · exact ⟨by assumption, h⟩
  · cases h
def binD : BO → D × Nat → D × Nat → Option (D × Nat)
  | .add, (.int i, _), (.int j, _) => some (.int (i + j), 9)
  | .add, (.str s, _), (.str t, _) => go (s.length + t.length ≤ SZ) (some (.str (s ++ t), 9))
  | .add, (.lst xs, _), (.lst ys, _) => go (xs.length + ys.length ≤ SZ) (some (.lst (xs ++ ys), lv1 (xs ++ ys)))
  | .add, (.tup xs, _), (.tup ys, _) => go (xs ≠ [] ∧ xs.length + ys.length ≤ SZ) (some (.tup (xs ++ ys), lvt (xs ++ ys)))
  | .sub, (.int i, _), (.int j, _) => some (.int (i - j), 9)
  | .mul, (.int i, _), (.int j, _) => go (mulOk i j) (some (.int (i * j), 9))
  | .mul, (.str s, _), (.int j, _) => go (-(2 ^ 62) ≤ j ∧ j < 2 ^ 62 ∧ s.length * j.toNat ≤ SZ) (some (.str (List.replicate j.toNat s).flatten, 9))
  | .mul, (.lst xs, _), (.int j, _) => go (-(2 ^ 62) ≤ j ∧ j < 2 ^ 62 ∧ xs.length * j.toNat ≤ SZ) (some (.lst (List.replicate j.toNat xs).flatten, lv1 xs))
  | .fdv, (.int i, _), (.int j, _) => go (j ≠ 0 ∧ j.natAbs < 1073741824) (some (.int (i.fdiv j), 9))
  | .mod, (.int i, _), (.int j, _) => go (j ≠ 0) (some (.int (i.fmod j), 9))
  | .pow, (.int i, _), (.int j, _) => go (powOk i j) (some (.int (i ^ j.toNat), 9))
  | _, _, _ => none
/-- in: a sign or more in a text; a thing in a list, tuple, dict -/
def inD (d : D) : D → Option Bool
  | .str t => match d with
    | .str s => some (findC s 0 t).isSome
    | _ => none
  | .lst ys => go (eqOk d = true ∧ eqOkL ys = true ∧ min (depL ys) d.dep ≤ 60) (some (ys.any fun y => pyEq y d))
  | .tup ys => go (eqOk d = true ∧ eqOkL ys = true ∧ min (depL ys) d.dep ≤ 60) (some (ys.any fun y => pyEq y d))
  | .dct ks _ => go ((vKey d).isSome = true) (some (ks.any fun k => pyEq k d))
  | _ => none
/-- two dicts of the same keys and values -/
def dctEq (ks vs ls ws : List D) : Bool := ks.length == ls.length && (ks.zip vs).all fun p => match (ls.zip ws).find? fun q => pyEq q.1 p.1 with
  | some q => pyEq p.2 q.2
  | none => false
def cmpD : CO → D → D → Option Bool
  | .eq, .dct ks vs, .dct ls ws => go (eqOkL vs = true ∧ eqOkL ws = true ∧ depL vs ≤ 50) (some (dctEq ks vs ls ws))
  | .ne, .dct ks vs, .dct ls ws => go (eqOkL vs = true ∧ eqOkL ws = true ∧ depL vs ≤ 50) (some (!dctEq ks vs ls ws))
  | .eq, d, e => go (eqOk d = true ∧ eqOk e = true ∧ min d.dep e.dep ≤ 60) (some (pyEq d e))
  | .ne, d, e => go (eqOk d = true ∧ eqOk e = true ∧ min d.dep e.dep ≤ 60) (some (!pyEq d e))
  | .lt, .int i, .int j => some (decide (i < j))
  | .le, .int i, .int j => some (decide (i ≤ j))
  | .gt, .int i, .int j => some (decide (j < i))
  | .ge, .int i, .int j => some (decide (j ≤ i))
  | .lt, .str i, .str j => some (decide (i < j))
  | .le, .str i, .str j => some (!decide (j < i))
  | .gt, .str i, .str j => some (decide (j < i))
  | .ge, .str i, .str j => some (!decide (i < j))
  | .isin, d, e => inD d e
  | .notin, d, e => (inD d e).bind fun b => some (!b)
  | .is_, .hol, _ => none
  | .isnot, .hol, _ => none
  | .is_, d, .non => some (match d with | .non => true | _ => false)
  | .isnot, d, .non => some (match d with | .non => false | _ => true)
  | _, _, _ => none
/-- what others keep, laid in one's own -/
def D.unfz : D → D
  | .fz d => d
  | d => d
def subD : D → D → Option (D × Nat)
  | .scr ns, .int i => ((at? ns i).map fun n => (.int n, 9))
  | .lst xs, .int i => ((at? xs i).map (·, 0))
  | .tup xs, .int i => ((at? xs i).map (·, 0))
  | .str s, .int i => go (s.length ≤ SZ) ( ((at? s i).map fun c => (.str [c], 9)))
  | .dct ks vs, k => go ((vKey k).isSome = true) ( (((ks.zip vs).find? fun p => pyEq p.1 k).map fun p => (p.2.unfz, 0)))
  | _, _ => none
def slcD (d : D) (lo hi : Option Int) : Option (D × Nat) := match d with
  | .scr ns => some (.lst ((cut ns lo hi).map .int), 9)
  | .lst xs => some (.lst (cut xs lo hi), lv1 xs)
  | .tup xs => some (.tup (cut xs lo hi), lvt (cut xs lo hi))
  | .str s => go (s.length ≤ SZ) (some (.str (cut s lo hi), 9))
  | _ => none
def isaD (cm : Nat → List Nat) (d : D) : IK → Bool
  | .str => match d with | .str _ => true | _ => false
  | .int => match d with | .int _ => true | .bl _ => true | _ => false
  | .bool => match d with | .bl _ => true | _ => false
  | .tuple => match d with | .tup _ => true | _ => false
  | .list => match d with | .lst _ => true | .scr _ => true | _ => false
  | .dict => match d with | .dct _ _ => true | _ => false
  | .cls c => match d with | .ins c' _ _ => (cm c').contains c | _ => false
/-- the kinds of things that isinstance is told of -/
def isiOk (d : D) (k : IK) : Bool := match d, k with
  | .ins _ _ _, _ => false
  | .cls _, _ => false
  | .fz _, _ => false
  | .hol, _ => false
  | _, .cls _ => false
  | _, _ => true
def minI : Int → List Int → Int
  | m, [] => m
  | m, x :: r => minI (if x < m then x else m) r
def maxI : Int → List Int → Int
  | m, [] => m
  | m, x :: r => maxI (if m < x then x else m) r
def minS : Cs → List Cs → Cs
  | m, [] => m
  | m, x :: r => minS (if x < m then x else m) r
def maxS : Cs → List Cs → Cs
  | m, [] => m
  | m, x :: r => maxS (if m < x then x else m) r
def leS (a b : Cs) : Bool := !decide (b < a)
def bifD : Bi → List (D × Nat) → Option (D × Nat)
  | .len, [(.str s, _)] => go (s.length ≤ SZ) (some (.int s.length, 9))
  | .len, [(.scr xs, _)] => some (.int xs.length, 9)
  | .len, [(.lst xs, _)] => some (.int xs.length, 9)
  | .len, [(.tup xs, _)] => some (.int xs.length, 9)
  | .len, [(.dct ks _, _)] => some (.int ks.length, 9)
  | .all, [(.lst xs, _)] => ((boolsOf xs).map fun bs => (.bl (bs.all id), 9))
  | .any, [(.lst xs, _)] => ((boolsOf xs).map fun bs => (.bl (bs.any id), 9))
  | .sum, [(.lst xs, _)] => ((intsOf xs).map fun is => (.int is.sum, 9))
  | .min, [(.lst xs, _)] => match intsOf xs, strsOf xs with
    | some (i :: is), _ => some (.int (minI i is), 9)
    | none, some (s :: ss) => some (.str (minS s ss), 9)
    | _, _ => none
  | .min, [(.tup xs, _)] => match strsOf xs with
    | some (s :: ss) => some (.str (minS s ss), 9)
    | _ => none
  | .max, [(.lst xs, _)] => match intsOf xs with
    | some (i :: is) => some (.int (maxI i is), 9)
    | _ => none
  | .maxs, [(.lst xs, _)] => match strsOf xs with
    | some (s :: ss) => some (.str (maxS s ss), 9)
    | _ => none
  | .maxd, [(.lst xs, _)] => match intsOf xs with
    | some (i :: is) => some (.int (maxI i is), 9)
    | some [] => some (.int 0, 9)
    | _ => none
  | .min, [(.int i, _), (.int j, _)] => some (.int (if j < i then j else i), 9)
  | .max, [(.int i, _), (.int j, _)] => some (.int (if i < j then j else i), 9)
  | .sorted, [(.lst xs, _)] => (strsOf xs).map fun ss => (.lst ((ss.mergeSort leS).map .str), 9)
  | .sorted, [(.dct ks _, _)] => (strsOf ks).map fun ss => (.lst ((ss.mergeSort leS).map .str), 9)
  | .str, [(.int i, _)] => go (i.natAbs.log2 < 1920) (some (.str (codesOfInt i), 9))
  | .int, [(.int i, _)] => some (.int i, 9)
  | .int, [(.bl b, _)] => some (.int (if b then 1 else 0), 9)
  | .bool, [(.int i, _)] => some (.bl (i != 0), 9)
  | .bool, [(.bl b, _)] => some (.bl b, 9)
  | .ord, [(.str [c], _)] => some (.int c, 9)
  | .list, [(.tup xs, _)] => some (.lst xs, lv1 xs)
  | .list, [(.lst xs, _)] => some (.lst xs, lv1 xs)
  | .list, [(.dct ks _, _)] => some (.lst ks, lv1 ks)
  | .dict, [(.dct ks vs, _)] => some (.dct ks vs, lv1 vs)
  | .list, [(.scr ns, _)] => some (.lst (ns.map .int), lv1 (ns.map .int))
  | .tuple, [(.lst xs, _)] => go (mdepL xs = 0) (some (.tup xs, 9))
  | .tuple, [(.tup xs, n)] => some (.tup xs, n)
  | _, _ => none
def methD : Me → D × Nat → List (D × Nat) → Option (D × Nat)
  | .join, (.str s, _), [(d, _)] => ((seqOf d).bind fun xs => (strsOf xs).bind fun ps => if (ps.map (·.length)).sum + ps.length * s.length ≤ SZ then some (.str (TL.joinL s ps), 9) else none)
  | .split, (.str s, _), [(.str p, _)] => go (p ≠ [] ∧ p.all (· < 256) = true ∧ s.length + 2 ≤ SZ) (some (.lst ((TL.spl p 0 [] s).map .str), 9))
  | .partition, (.str s, _), [(.str p, _)] => go (p ≠ [] ∧ s.length ≤ SZ) (match TL.par p [] s with
    | some (a, b) => some (.tup [.str a, .str p, .str b], 9)
    | none => some (.tup [.str s, .str [], .str []], 9))
  | .replace, (.str s, _), [(.str [p], _), (.str [q], _)] => go (2 * s.length + 1 ≤ SZ ∧ p < 1114112 ∧ q < 1114112) (some (.str (s.map fun c => if c = p then q else c), 9))
  | .find, (.str s, _), [(.str p, _)] => go (p ≠ []) (some (.int (match findC p 0 s with | some k => (k : Int) | none => -1), 9))
  | .find, (.str s, _), [(.str p, _), (.int i, _)] => go (p ≠ [] ∧ 0 ≤ i ∧ i ≤ s.length) (some (.int (match findC p i.toNat (s.drop i.toNat) with | some k => (k : Int) | none => -1), 9))
  | .lstrip, (.str s, _), [(.str [p], _)] => go (s.length ≤ SZ) (some (.str (s.dropWhile (· == p)), 9))
  | .strip, (.str s, _), [(.str [p], _)] => go (s.length ≤ SZ) (some (.str ((s.dropWhile (· == p)).reverse.dropWhile (· == p)).reverse, 9))
  | .isalpha, (.str s, _), [] => some (.bl (Txt.isalpha (mkS s)), 9)
  | .rstrip, (.str s, _), [(.str [p], _)] => go (s.length ≤ SZ) (some (.str (s.reverse.dropWhile (· == p)).reverse, 9))
  | .index, (.lst xs, _), [(.str s, _)] => ((strsOf xs).bind fun ss => (ss.findIdx? (· == s)).map fun k => (.int k, 9))
  | .count, (.lst xs, _), [(.str s, _)] => ((strsOf xs).map fun ss => (.int (ss.count s), 9))
  | .get, (.dct ks vs, _), [(k, _)] => go ((vKey k).isSome = true) (some (match (ks.zip vs).find? fun p => pyEq p.1 k with | some p => (p.2.unfz, 0) | none => (.non, 9)))
  | .get, (.dct ks vs, _), [(k, _), (d, n)] => go ((vKey k).isSome = true) (some (match (ks.zip vs).find? fun p => pyEq p.1 k with | some p => (p.2.unfz, 0) | none => (d, n)))
  | _, _, _ => none

/-- whose method it is -/
def recvOk (m : Me) (d : D) : Bool := match m, d with
  | .index, .lst _ => true
  | .count, .lst _ => true
  | .get, .dct _ _ => true
  | .index, _ => false
  | .count, _ => false
  | .get, _ => false
  | _, .str _ => true
  | _, _ => false
/-- keys and values by turns -/
def unpair : List (D × Nat) → Option (List D × List (D × Nat))
  | [] => some ([], [])
  | k :: v :: r => (unpair r).map fun p => (k.1 :: p.1, v :: p.2)
  | _ => none
def keysOk (ks : List D) : Bool := (ks.map vKey).all (·.isSome) && decide ((ks.map vKey).Nodup) && decide (ks.length ≤ 15)
/-- what isn't one's own stands frozen in what one makes -/
def wrapD (p : D × Nat) : D × Nat := if p.2 = 0 ∧ p.1.mdep ≠ 0 then (.fz p.1, 9) else p
def dispD (ps : List (D × Nat)) : Option (D × Nat) := (unpair ps).bind fun r => go (keysOk r.1 = true) (some (.dct r.1 ((r.2.map wrapD).map (·.1)), lvL (r.2.map wrapD) + 1))
/-! ### evaluation -/
abbrev Env := List (Option (D × Nat))
def norm (p : D × Nat) : D × Nat := if p.1.mdep = 0 then (p.1, 9) else p
def setV (ρ : Env) (i : Nat) (p : D × Nat) : Env := ρ.set i (some (norm p))
/-- a loop's target takes an item of others -/
def Tg.put (ρ : Env) : Tg → D → Out Env
  | .one i, d => .ok (setV ρ i (d, 0))
  | .tup is, .tup ds => gd (is.length = ds.length) (.ok ((is.zip ds).foldl (fun r p => setV r p.1 (p.2, 0)) ρ))
  | .tup _, _ => .bad
def rangeD (a b : Int) : List D := (List.range (b - a).toNat).map fun k => .int (a + (k : Nat))
def rangeD3 (a b c : Int) : List D := (List.range (if 0 < c then ((b - a + c - 1) / c).toNat else ((a - b + (-c) - 1) / (-c)).toNat)).map fun k => .int (a + (k : Nat) * c)
def rngD : List D → Out (List D)
  | [.int b] => gd (-(2 ^ 62) ≤ b ∧ b < 2 ^ 62) (.ok (rangeD 0 b))
  | [.int a, .int b] => gd (-(2 ^ 62) ≤ a ∧ a < 2 ^ 62 ∧ -(2 ^ 62) ≤ b ∧ b < 2 ^ 62) (.ok (rangeD a b))
  | [.int a, .int b, .int c] => gd (-(2 ^ 61) ≤ a ∧ a < 2 ^ 61 ∧ -(2 ^ 61) ≤ b ∧ b < 2 ^ 61 ∧ c ≠ 0 ∧ c.natAbs < 1073741824) (.ok (rangeD3 a b c))
  | _ => .bad
def enumD (xs : List D) : List D := (xs.zipIdx).map fun p => .tup [.int (p.2 : Nat), p.1]
def zipD (xs ys : List D) : List D := (xs.zip ys).map fun p => .tup [p.1, p.2]
structure Glo where
  gv : Nat → Option D
  cm : Nat → List Nat
/-- a comprehension's turns; nothing may be raised in them -/
def compL (f : D → Out (Option (D × Nat))) : List D → Out (List (D × Nat))
  | [] => .ok []
  | x :: xs => match f x with
    | .ok (some y) => (compL f xs).bind fun ys => gd (ys.length + 1 ≤ SZ) (.ok (y :: ys))
    | .ok none => compL f xs
    | _ => .bad
section
variable (G : Glo) (cf : Runs)
mutual
def ev (ρ : Env) : C → Out (D × Nat)
  | .cst d => .ok (d, 9)
  | .var i => .of ((ρ[i]?).bind id |>.map fun p => (p.1, 0))
  | .glb g => .of ((G.gv g).map fun d => (d, 9))
  | .bin o a b => (ev ρ a).bind fun x => (ev ρ b).bind fun y => .of (binD o x y)
  | .cmp o a b => (ev ρ a).bind fun x => (ev ρ b).bind fun y => (Out.of (cmpD o x.1 y.1)).bind fun r => .ok (.bl r, 9)
  | .chn o p a b c => (ev ρ a).bind fun x => (ev ρ b).bind fun y => (Out.of (cmpD o x.1 y.1)).bind fun r => if r = true then (ev ρ c).bind fun z => (Out.of (cmpD p y.1 z.1)).bind fun q => .ok (.bl q, 9) else .ok (.bl false, 9)
  | .not a => (ev ρ a).bind fun x => (Out.of (truth x.1)).bind fun b => .ok (.bl (!b), 9)
  | .neg a => (ev ρ a).bind fun x => match x.1 with | .int i => .ok (.int (-i), 9) | _ => .bad
  | .and a b => (ev ρ a).bind fun x => (Out.of (truth x.1)).bind fun r => if r = true then ev ρ b else .ok x
  | .or a b => (ev ρ a).bind fun x => (Out.of (truth x.1)).bind fun r => if r = true then .ok x else ev ρ b
  | .ife t a b => (ev ρ t).bind fun x => (Out.of (truth x.1)).bind fun r => if r = true then ev ρ a else ev ρ b
  | .tup es => (evs ρ es).bind fun ps => gd (ps.length ≤ SZ) (.ok (.tup (ps.map (·.1)), lvL ps))
  | .lst es => (evs ρ es).bind fun ps => gd (ps.length ≤ SZ) (.ok (.lst (ps.map (·.1)), lvL ps + 1))
  | .dct _ es => (evs ρ es).bind fun ps => .of (dispD ps)
  | .sub a i => (ev ρ a).bind fun x => (ev ρ i).bind fun y => .of (subD x.1 y.1)
  | .slc a lo hi => (ev ρ a).bind fun x => (evo ρ lo).bind fun l => (evo ρ hi).bind fun h => .of (slcD x.1 l h)
  | .rev a => (ev ρ a).bind fun x => match x.1 with | .str s => gd (s.length ≤ SZ) (.ok (.str s.reverse, 9)) | _ => .bad
  | .rvl a => (ev ρ a).bind fun x => .of ((lsqOf x.1).map fun xs => (.lst xs.reverse, lv1 xs.reverse))
  | .cal f es => (evs ρ es).bind fun ps => cf f (ps.map (·.1))
  | .bif f es => (evs ρ es).bind fun ps => .of (bifD f ps)
  | .mth m o es => (ev ρ o).bind fun x => gd (recvOk m x.1 = true) ((evs ρ es).bind fun ps => .of (methD m x ps))
  | .fld a f => (ev ρ a).bind fun x => match x.1 with | .ins c fs vs => gd (c < 100) (.of ((lookD f fs vs).map (·, 0))) | _ => .bad
  | .isi a k => (ev ρ a).bind fun x => gd (isiOk x.1 k = true) (.ok (.bl (isaD G.cm x.1 k), 9))
  | .lc it tg t e => (ev ρ it).bind fun x => (Out.of (itemsOf x.1)).bind fun xs =>
      (compL (fun d => (tg.put ρ d).bind fun ρ' => (evt ρ' t).bind fun b => if b = true then (ev ρ' e).bind fun y => .ok (some y) else .ok none) xs).bind fun ps => .ok (.lst (ps.map (·.1)), lvL ps + 1)
  -- what is walked alone
  | .rng es => (evs ρ es).bind fun ps => (rngD (ps.map (·.1))).bind fun xs => .ok (.lst xs, 9)
  | .enu e => (ev ρ e).bind fun x => .of ((lsqOf x.1).map fun xs => (.lst (enumD xs), x.2))
  | .zip a b => (ev ρ a).bind fun x => (ev ρ b).bind fun y => match x.1, y.1 with | .lst xs, .lst ys => .ok (.lst (zipD xs ys), 0) | _, _ => .bad
  | .itm e => (ev ρ e).bind fun x => match x.1 with | .dct ks vs => .ok (.lst (zipD ks vs), if x.1.mdep ≤ x.2 then 9 else 0) | _ => .bad
  | .kys e => (ev ρ e).bind fun x => match x.1 with | .dct ks vs => .ok (.lst ks, if x.1.mdep ≤ x.2 then 9 else 0) | _ => .bad
  | .rvs e => (ev ρ e).bind fun x => match x.1 with | .lst xs => .ok (.lst xs.reverse, 0) | _ => .bad
def evs (ρ : Env) : List C → Out (List (D × Nat))
  | [] => .ok []
  | e :: es => (ev ρ e).bind fun x => (evs ρ es).bind fun xs => .ok (x :: xs)
def evo (ρ : Env) : Option C → Out (Option Int)
  | none => .ok none
  | some e => (ev ρ e).bind fun x => match x.1 with | .int i => .ok (some i) | _ => .bad
def evt (ρ : Env) : Option C → Out Bool
  | none => .ok true
  | some c => (ev ρ c).bind fun x => .of (truth x.1)
end
end
end Vy

namespace Vy
open PySem PySem.Spec
open PyProof.Rows hiding St
open L2

/-! ## Roots, slots, values come to -/
structure Root where
  d : D
  n : Nat
  v : V
  O : List Addr
  Z : List Addr
abbrev Slots := List (Option Root)
def envOf (S : Slots) : Env := S.map (·.map fun r => (r.d, r.n))

section
variable (K : PySem.W.Frag) (CA : Nat → Addr)
/-- the slots as data, as they lie in H -/
structure SRep (S : Slots) (σ : St) (H : Hp) : Prop where
  len : S.length = σ.length
  rep : ∀ (i : Nat) (r : Root), S[i]? = some (some r) → σ[i]? = some (some r.v) ∧ Rep K CA H r.n r.d r.v r.O r.Z
/-- the addresses that lie in some slots -/
def Nod (S : Slots) (is : List Nat) (a : Addr) : Prop := ∃ i ∈ is, ∃ r : Root, S[i]? = some (some r) ∧ a ∈ r.O ++ r.Z
/-- a value that has come: all that stood stands; its own things are new -/
structure PVal (M : Addr → Prop) (H H' : Hp) (d : D) (n : Nat) (v : V) (O Z : List Addr) : Prop where
  same : Same H H'
  rep : Rep K CA H' n d v O Z
  fresh : ∀ a ∈ O, H a = none
  nd : O.Nodup
  zin : ∀ a ∈ Z, H a = none ∨ M a
  zo : ∀ a ∈ Z, a ∉ O
/-- an exception's class and its dict -/
def ExRep (e : Exn) (cls : Value) (dd : Option Addr) (H : Hp) : Prop :=
  cls = .ref (CA e.c) ∧ ((e.fs = [] ∧ e.vs = []) ∨ ∃ dx fvs, dd = some dx ∧ H dx = some (exd dx fvs) ∧ fvs.map (·.1) = e.fs.map mkS ∧ Reps K CA H 0 e.vs (fvs.map (·.2)) [] [])
def Den (W : WX) (M : Addr → Prop) (o : Out (D × Nat)) (σ : St) (H : Hp) (Q : VK) : Prop :=
  match o with
  | .ok p => ∀ v H' O Z, PVal K CA M H H' p.1 p.2 v O Z → Q v H'
  | .exc e => ∀ cls dd H', Same H H' → ExRep K CA e cls dd H' → W cls dd σ H'
  | .bad => False
end
section
variable {K : PySem.W.Frag} {CA : Nat → Addr} {S : Slots} {σ : St} {H H0 H1 H2 H' : Hp} {W : WX} {M M' Ma : Addr → Prop} {d : D} {n : Nat} {v : V} {O Z : List Addr}
theorem SRep.same (r : SRep K CA S σ H) (s : Same H H') : SRep K CA S σ H' := ⟨r.len, fun i q e => ⟨(r.rep i q e).1, (r.rep i q e).2.same s⟩⟩
theorem Nod.mono {is js : List Nat} (h : ∀ i ∈ is, i ∈ js) {a : Addr} : Nod S is a → Nod S js a := fun ⟨i, hi, r, e, q⟩ => ⟨i, h i hi, r, e, q⟩
theorem same_none (s : Same H H') {a : Addr} (h : H' a = none) : H a = none := Same.free s h
theorem PVal.mono (h : ∀ a, M a → M' a) (p : PVal K CA M H H' d n v O Z) : PVal K CA M' H H' d n v O Z := ⟨p.same, p.rep, p.fresh, p.nd, fun a q => (p.zin a q).imp id (h a), p.zo⟩
/-- further on -/
theorem PVal.later (p : PVal K CA M H H1 d n v O Z) (s : Same H1 H2) : PVal K CA M H H2 d n v O Z := ⟨p.same.trans s, p.rep.same s, p.fresh, p.nd, p.zin, p.zo⟩
/-- from earlier on -/
theorem PVal.ahead (s : Same H H1) (p : PVal K CA M H1 H2 d n v O Z) : PVal K CA M H H2 d n v O Z := ⟨s.trans p.same, p.rep, fun a h => same_none s (p.fresh a h), p.nd, fun a q => (p.zin a q).imp (same_none s) id, p.zo⟩
theorem PVal.imm (s : Same H H') (r : Rep K CA H' n d v [] []) : PVal K CA M H H' d n v [] [] := ⟨s, r, by simp, by simp, by simp, by simp⟩
theorem PVal.low (p : PVal K CA M H H' d n v O Z) {m : Nat} (h : m ≤ n) : ∃ O' Z', PVal K CA M H H' d m v O' Z' ∧ Low O Z O' Z' := by
  obtain ⟨O', Z', r, l⟩ := p.rep.low h
  refine ⟨O', Z', ⟨p.same, r, fun a q => p.fresh a (l.own a q), l.nd p.nd, fun a q => ?_, l.zo p.nd p.zo⟩, l⟩
  exact (l.all a q).elim (fun z => .inl (p.fresh a z)) (p.zin a)
theorem PVal.at0 (p : PVal K CA M H H' d n v O Z) : ∃ Z', PVal K CA M H H' d 0 v [] Z' := by
  obtain ⟨O', Z', q, _⟩ := p.low (Nat.zero_le _)
  have := q.rep.zero
  subst this
  exact ⟨Z', q⟩
/-- one after the other -/
theorem Den.seq {x : Out (D × Nat)} {f : D × Nat → Out (D × Nat)} {Q Q1 : VK} (s : Same H0 H1) (h : Den K CA W M (x.bind f) σ H0 Q)
    (k : ∀ p v H2 O Z, x = .ok p → PVal K CA Ma H1 H2 p.1 p.2 v O Z → Den K CA W M (f p) σ H0 Q → Q1 v H2) : Den K CA W Ma x σ H1 Q1 := by
  cases x with
  | ok p => exact fun v H2 O Z pv => k p v H2 O Z rfl pv h
  | exc e => exact fun cls dd H' s' r => h cls dd H' (s.trans s') r
  | bad => exact h
theorem Den.pass {x : Out (D × Nat)} {Q : VK} (s : Same H0 H1) (m : ∀ a, Ma a → M a) (h : Den K CA W M x σ H0 Q) : Den K CA W Ma x σ H1 Q := by
  cases x with
  | ok p => exact fun v H2 O Z pv => h v H2 O Z ((pv.mono m).ahead s)
  | exc e => exact fun cls dd H' s' r => h cls dd H' (s.trans s') r
  | bad => exact h
/-- .. where what comes first is no value of the machine -/
theorem Den.of {α : Type} {x : Option α} {f : α → Out (D × Nat)} {Q : VK} (h : Den K CA W M ((Out.of x).bind f) σ H Q) : ∃ a, x = some a ∧ Den K CA W M (f a) σ H Q := by
  cases x with
  | none => exact h.elim
  | some a => exact ⟨a, rfl, h⟩
theorem Den.bindB {x : Out Bool} {f : Bool → Out (D × Nat)} {Q : VK} (nx : ∀ e, x ≠ .exc e) (h : Den K CA W M (x.bind f) σ H Q) : ∃ b, x = .ok b ∧ Den K CA W M (f b) σ H Q := by
  cases x with
  | ok b => exact ⟨b, rfl, h⟩
  | exc e => exact absurd rfl (nx e)
  | bad => exact h.elim
theorem Den.gd {c : Prop} [Decidable c] {x : Out (D × Nat)} {Q : VK} (h : Den K CA W M (gd c x) σ H Q) : c ∧ Den K CA W M x σ H Q := by
  unfold Vy.gd at h; split at h
  · exact ⟨by assumption, h⟩
  · exact h.elim
theorem Den.val {p : D × Nat} {Q : VK} (h : Den K CA W M (.ok p) σ H Q) (s : Same H H') {v : V} (r : Rep K CA H' p.2 p.1 v [] []) : Q v H' := h v H' [] [] (.imm s r)
theorem Den.ofv {o : Option (D × Nat)} {Q : VK} (h : Den K CA W M (Out.of o) σ H Q) : ∃ p, o = some p ∧ Den K CA W M (.ok p) σ H Q := by
  cases o with
  | none => exact h.elim
  | some a => exact ⟨a, rfl, h⟩
end

mutual
/-- the slots that an expression names -/
def names : C → List Nat
  | .cst _ => []
  | .var i => [i]
  | .glb _ => []
  | .bin _ a b => names a ++ names b
  | .cmp _ a b => names a ++ names b
  | .chn _ _ a b c => names a ++ (names b ++ names c)
  | .not a => names a
  | .neg a => names a
  | .and a b => names a ++ names b
  | .or a b => names a ++ names b
  | .ife t a b => names t ++ (names a ++ names b)
  | .tup es => namesL es
  | .lst es => namesL es
  | .dct ks es => namesL es ++ namesL ks
  | .sub a i => names a ++ names i
  | .slc a lo hi => names a ++ (namesO lo ++ namesO hi)
  | .rev a => names a
  | .rvl a => names a
  | .cal _ es => namesL es
  | .bif _ es => namesL es
  | .mth _ o es => names o ++ namesL es
  | .fld a _ => names a
  | .isi a _ => names a
  | .lc it _ t e => names it ++ (namesO t ++ names e)
  | .rng es => namesL es
  | .enu e => names e
  | .zip a b => names a ++ names b
  | .itm e => names e
  | .kys e => names e
  | .rvs e => names e
def namesL : List C → List Nat
  | [] => []
  | e :: es => names e ++ namesL es
def namesO : Option C → List Nat
  | none => []
  | some e => names e
end

theorem PE.weak {X : Cx} {e : Expr} {t t' : TE} (h : PE X e t) (w : ∀ σ H Q, t' σ H Q → t σ H Q) : PE X e t' := ⟨fun pins s σ H Q I q => h.run pins s σ H Q I (w σ H Q q)⟩
theorem PT.weak {X : Cx} {e : Expr} {t t' : TT} (h : PT X e t) (w : ∀ σ H Q, t' σ H Q → t σ H Q) : PT X e t' := ⟨fun pins s σ H Q I q => h.run pins s σ H Q I (w σ H Q q)⟩
theorem PA.weak {X : Cx} {es : List Expr} {t t' : TA} (h : PA X es t) (w : ∀ σ H Q, t' σ H Q → t σ H Q) : PA X es t' := ⟨fun pos pins s σ H Q I q => h.run pos pins s σ H Q I (w σ H Q q)⟩
theorem PS.weak {X : Cx} {e : Stmt} {t t' : TS} (h : PS X e t) (w : ∀ D σ H, t' D σ H → t D σ H) : PS X e t' := ⟨fun pins s σ H D I q => h.run pins s σ H D I (w D σ H q)⟩
theorem PSs.weak {X : Cx} {e : List Stmt} {t t' : TS} (h : PSs X e t) (w : ∀ D σ H, t' D σ H → t D σ H) : PSs X e t' := ⟨fun pins s σ H D I q => h.run pins s σ H D I (w D σ H q)⟩
theorem OpR.or {X : Cx} {f : Value → Value → Sem Value} {r r' : R2} (h : OpR X f r) (h' : OpR X f r') : OpR X f (fun x y H Q => r x y H Q ∨ r' x y H Q) :=
  fun pins s σ H x y v u Q I rx ry q => q.elim (h pins s σ H x y v u Q I rx ry) (h' pins s σ H x y v u Q I rx ry)
theorem OpR.weak {X : Cx} {f : Value → Value → Sem Value} {r r' : R2} (h : OpR X f r) (w : ∀ x y H Q, r' x y H Q → r x y H Q) : OpR X f r' :=
  fun pins s σ H x y v u Q I rx ry q => h pins s σ H x y v u Q I rx ry (w _ _ _ _ q)
theorem CallR.or {X : Cx} {f : Value} {r r' : List V → Hp → VK → Prop} (h : CallR X f r) (h' : CallR X f r') : CallR X f (fun x H Q => r x H Q ∨ r' x H Q) :=
  fun pins s σ H vs us Q I rv q => q.elim (h pins s σ H vs us Q I rv) (h' pins s σ H vs us Q I rv)
theorem CallR.weak {X : Cx} {f : Value} {r r' : List V → Hp → VK → Prop} (h : CallR X f r) (w : ∀ x H Q, r' x H Q → r x H Q) : CallR X f r' :=
  fun pins s σ H vs us Q I rv q => h pins s σ H vs us Q I rv (w _ _ _ q)

/-! ### inversion of Rep -/
section
variable {K : PySem.W.Frag} {CA : Nat → Addr} {H : Hp} {n : Nat} {v : V} {O Z : List Addr}
theorem Rep.int_inv {i : Int} (r : Rep K CA H n (.int i) v O Z) : v = .int i ∧ O = [] ∧ Z = [] := by cases r; exact ⟨rfl, rfl, rfl⟩
theorem Rep.str_inv {s : Cs} (r : Rep K CA H n (.str s) v O Z) : v = .str (mkS s) ∧ O = [] ∧ Z = [] ∧ Bd s := by cases r with | str h => exact ⟨rfl, rfl, rfl, h⟩
theorem Rep.bl_inv {b : Bool} (r : Rep K CA H n (.bl b) v O Z) : v = .bl b ∧ O = [] ∧ Z = [] := by cases r; exact ⟨rfl, rfl, rfl⟩
theorem Rep.non_inv (r : Rep K CA H n .non v O Z) : v = .non ∧ O = [] ∧ Z = [] := by cases r; exact ⟨rfl, rfl, rfl⟩
theorem Rep.lst_inv {xs : List D} (r : Rep K CA H n (.lst xs) v O Z) : ∃ a vs O' Z' m, v = .ref a ∧ H a = some (.lst vs) ∧ Reps K CA H m xs vs O' Z' ∧ (∀ b ∈ O', b ∈ O) ∧ (∀ b ∈ Z', b ∈ Z) := by
  cases r with
  | lstO e r => exact ⟨_, _, _, _, _, rfl, e, r, fun b h => List.mem_cons_of_mem _ h, fun b h => h⟩
  | lstZ e r => exact ⟨_, _, _, _, _, rfl, e, r, fun b h => h, fun b h => List.mem_cons_of_mem _ h⟩
theorem Rep.scr_inv {ns : List Int} (r : Rep K CA H n (.scr ns) v O Z) : ∃ a, v = .ref a ∧ SqZ K H a (ns.map V.int) ∧ O = [] ∧ Z = [] := by
  cases r with
  | scr e => exact ⟨_, rfl, e, rfl, rfl⟩
theorem Rep.tup_inv {xs : List D} (r : Rep K CA H n (.tup xs) v O Z) : ∃ a vs, v = .ref a ∧ SqT K H a vs ∧ Reps K CA H n xs vs O Z := by
  cases r with
  | tup e r => exact ⟨_, _, rfl, e, r⟩
theorem Rep.dct_inv {ks xs : List D} (r : Rep K CA H n (.dct ks xs) v O Z) : ∃ a kvs O' Z' m, v = .ref a ∧ Rd H a (.dK kvs) ∧ KeyOk ks kvs ∧ Reps K CA H m xs (kvs.map (·.2)) O' Z' ∧ (∀ b ∈ O', b ∈ O) ∧ (∀ b ∈ Z', b ∈ Z) := by
  cases r with
  | dctO e e1 r => exact ⟨_, _, _, _, _, rfl, .inl e, e1, r, fun b h => List.mem_cons_of_mem _ h, fun b h => h⟩
  | dctZ e e1 r => exact ⟨_, _, _, _, _, rfl, e, e1, r, fun b h => h, fun b h => List.mem_cons_of_mem _ h⟩
theorem Rep.un0 {H : Hp} {d : D} {v : V} {Z : List Addr} (r : Rep K CA H 0 d v [] Z) : Rep K CA H 0 d.unfz v [] Z := by
  cases d <;> first | exact r | exact r.unfz.2.2
theorem Reps.zeroed {m : Nat} {ds : List D} {vs : List V} (r : Reps K CA H m ds vs O Z) : ∃ Z', Reps K CA H 0 ds vs [] Z' ∧ ∀ a ∈ Z', a ∈ O ∨ a ∈ Z := by
  obtain ⟨O', Z', r', l⟩ := r.low (Nat.zero_le _)
  have := r'.zero
  subst this
  exact ⟨Z', r', l.all⟩
end
theorem mdepL_append (xs ys : List D) : mdepL (xs ++ ys) = max (mdepL xs) (mdepL ys) := by
  induction xs with
  | nil => simp [mdepL]
  | cons x r ih => simp only [List.cons_append, mdepL, ih]; omega
theorem mdepL_mem {xs : List D} {d : D} (h : d ∈ xs) : d.mdep ≤ mdepL xs := by
  induction xs with
  | nil => cases h
  | cons x r ih =>
    rw [mdepL]
    rcases List.mem_cons.mp h with rfl | h
    · omega
    · have := ih h; omega
theorem mdepL_le {xs : List D} {m : Nat} (h : ∀ d ∈ xs, d.mdep ≤ m) : mdepL xs ≤ m := by
  induction xs with
  | nil => simp [mdepL]
  | cons x r ih =>
    rw [mdepL]
    have h1 := h x (by simp)
    have h2 := ih fun d hd => h d (by simp [hd])
    omega
@[simp] theorem mdepL_strs (ss : List Cs) : mdepL (ss.map D.str) = 0 := Nat.le_zero.mp (mdepL_le fun d h => by
  obtain ⟨s, _, rfl⟩ := List.mem_map.mp h; simp [D.mdep])
end Vy

namespace Vy
open PySem PySem.Spec
open PyProof.Rows hiding St
open L2

theorem SZ_eq : sizeLine = SZ := sizeLine_eq
theorem mkS_len (s : Cs) : (mkS s).length = s.length := by simp [mkS, Str.length]
theorem mkS_tl (s : Cs) : (mkS s).cps.toList = s := by simp [mkS]
theorem mkS_app (s t : Cs) : mkS s ++ mkS t = mkS (s ++ t) := TL.ext_tl (by rw [TL.tl_append]; simp [mkS])
theorem mkS_of (x : Str) : mkS x.cps.toList = x := TL.mk_tl x
theorem mkS_inj {s t : Cs} (h : mkS s = mkS t) : s = t := by
  have := congrArg (fun x : Str => x.cps.toList) h
  simpa [mkS] using this
theorem mkS_beq (s t : Cs) : (mkS s == mkS t) = (s == t) := by
  rw [Bool.eq_iff_iff]; simp only [beq_iff_eq]
  exact ⟨mkS_inj, fun h => by rw [h]⟩
theorem Bd.app {s t : Cs} (h : Bd s) (k : Bd t) : Bd (s ++ t) := fun c q => (List.mem_append.mp q).elim (h c) (k c)
theorem Bd.nil : Bd [] := fun c h => by cases h

/-! ### == -/
mutual
def toPy : D → PyData
  | .bl b => .bool b
  | .int i => .int i
  | .str s => .str (mkS s)
  | .tup xs => .tuple (toPyL xs)
  | .lst xs => .list (toPyL xs)
  | _ => .none
def toPyL : List D → List PyData
  | [] => []
  | d :: r => toPy d :: toPyL r
end
mutual
theorem toPy_depth : ∀ d, eqOk d = true → (toPy d).depth = d.dep
  | .non, _ => rfl
  | .bl _, _ => rfl
  | .int _, _ => rfl
  | .str _, _ => rfl
  | .tup xs, h => by simp only [toPy, PyData.depth, D.dep]; rw [toPyL_depth xs (by simpa [eqOk] using h)]
  | .lst xs, h => by simp only [toPy, PyData.depth, D.dep]; rw [toPyL_depth xs (by simpa [eqOk] using h)]
  | .dct _ _, h => by simp [eqOk] at h
  | .ins _ _ _, h => by simp [eqOk] at h
  | .cls _, h => by simp [eqOk] at h
  | .scr _, h => by simp [eqOk] at h
theorem toPyL_depth : ∀ ds, eqOkL ds = true → PyData.depthAll (toPyL ds) = depL ds
  | [], _ => rfl
  | d :: r, h => by
    have h : eqOk d = true ∧ eqOkL r = true := by simpa [eqOkL] using h
    simp only [toPyL, PyData.depthAll, depL]
    rw [toPy_depth d h.1, toPyL_depth r h.2]
end
mutual
theorem toPy_eqv : ∀ d e, eqOk d = true → eqOk e = true → PyData.eqv (toPy d) (toPy e) = pyEq d e
  | .non, e, _, h => by cases e <;> first | rfl | (simp [eqOk] at h)
  | .bl _, e, _, h => by cases e <;> first | rfl | (simp [eqOk] at h)
  | .int _, e, _, h => by cases e <;> first | rfl | (simp [eqOk] at h)
  | .str s, e, _, h => by
    cases e with
    | str t => simp only [toPy, PyData.eqv, pyEq]; exact mkS_beq s t
    | _ => first | rfl | (simp [eqOk] at h)
  | .tup xs, e, h, k => by
    cases e with
    | tup ys => simp only [toPy, PyData.eqv, pyEq]; exact toPyL_eqv xs ys (by simpa [eqOk] using h) (by simpa [eqOk] using k)
    | _ => first | rfl | (simp [eqOk] at k)
  | .lst xs, e, h, k => by
    cases e with
    | lst ys => simp only [toPy, PyData.eqv, pyEq]; exact toPyL_eqv xs ys (by simpa [eqOk] using h) (by simpa [eqOk] using k)
    | _ => first | rfl | (simp [eqOk] at k)
  | .dct _ _, _, h, _ => by simp [eqOk] at h
  | .ins _ _ _, _, h, _ => by simp [eqOk] at h
  | .cls _, _, h, _ => by simp [eqOk] at h
  | .scr _, _, h, _ => by simp [eqOk] at h
theorem toPyL_eqv : ∀ ds es, eqOkL ds = true → eqOkL es = true → PyData.eqvAll (toPyL ds) (toPyL es) = pyEqL ds es
  | [], [], _, _ => rfl
  | [], _ :: _, _, _ => rfl
  | _ :: _, [], _, _ => rfl
  | d :: r, e :: q, h, k => by
    have h : eqOk d = true ∧ eqOkL r = true := by simpa [eqOkL] using h
    have k : eqOk e = true ∧ eqOkL q = true := by simpa [eqOkL] using k
    simp only [toPyL, PyData.eqvAll, pyEqL]
    rw [toPy_eqv d e h.1 k.1, toPyL_eqv r q h.2 k.2]
end
section
variable {K : PySem.W.Frag} {CA : Nat → Addr} {H : Hp}
mutual
theorem Rep.dp : ∀ {n d v O Z}, Rep K CA H n d v O Z → eqOk d = true → Dp K H v (toPy d) ∧ (toPy d).canLay0 = true
  | _, _, _, _, _, .non, _ => ⟨.non, rfl⟩
  | _, _, _, _, _, .bl _, _ => ⟨.bl _, rfl⟩
  | _, _, _, _, _, .int _, _ => ⟨.int _, rfl⟩
  | _, .str s, _, _, _, .str b, _ => ⟨.str _, by
      show PyData.strOk (mkS s) = true
      unfold PyData.strOk
      rw [Array.all_eq_true_iff_forall_mem]
      intro c hc
      have hc : c ∈ s := by simpa [mkS] using hc
      simpa using b c hc⟩
  | _, _, _, _, _, .cls _, h => by simp [eqOk] at h
  | _, _, _, _, _, .scr _, h => by simp [eqOk] at h
  | _, _, _, _, _, .tup e r, h => let ⟨a, b⟩ := r.dp (by simpa [eqOk] using h); ⟨.tup e a, by simpa [toPy, PyData.canLay0] using b⟩
  | _, _, _, _, _, .lstO e r, h => let ⟨a, b⟩ := r.dp (by simpa [eqOk] using h); ⟨.lst (.of e) a, by simpa [toPy, PyData.canLay0] using b⟩
  | _, _, _, _, _, .lstZ e r, h => let ⟨a, b⟩ := r.dp (by simpa [eqOk] using h); ⟨.lst (.of e) a, by simpa [toPy, PyData.canLay0] using b⟩
  | _, _, _, _, _, .dctO _ _ _, h => by simp [eqOk] at h
  | _, _, _, _, _, .dctZ _ _ _, h => by simp [eqOk] at h
  | _, _, _, _, _, .insO _ _ _, h => by simp [eqOk] at h
  | _, _, _, _, _, .insZ _ _ _, h => by simp [eqOk] at h
theorem Reps.dp : ∀ {n ds vs O Z}, Reps K CA H n ds vs O Z → eqOkL ds = true → DpAll K H vs (toPyL ds) ∧ PyData.canLayAll0 (toPyL ds) = true
  | _, _, _, _, _, .nil, _ => ⟨.nil, rfl⟩
  | _, d :: r, _, _, _, .cons q s, h => by
    have h : eqOk d = true ∧ eqOkL r = true := by simpa [eqOkL] using h
    obtain ⟨a, b⟩ := q.dp h.1
    obtain ⟨a', b'⟩ := s.dp h.2
    exact ⟨.cons a a', by simp [toPyL, PyData.canLayAll0, b, b']⟩
end
end
section
variable {X : Cx} {CA : Nat → Addr} {W : WX} {σ0 : St}
/-- two values that came, one behind the other, and what is to come of them -/
def r2 (X : Cx) (CA : Nat → Addr) (W : WX) (σ0 : St) (f : D × Nat → D × Nat → Option (D × Nat)) : R2 := fun x y H2 Q => ∃ H M p q Ox Zx Oy Zy,
  PVal X.K CA M H H2 p.1 p.2 x Ox Zx ∧ PVal X.K CA M H H2 q.1 q.2 y Oy Zy ∧ Den X.K CA W M (Out.of (f p q)) σ0 H Q
/-- a comparison as a value -/
def cmpV (o : CO) (p q : D × Nat) : Option (D × Nat) := (cmpD o p.1 q.1).map fun r => (.bl r, 9)
theorem cmp_as (o : CO) (p q : D × Nat) : ((Out.of (cmpD o p.1 q.1)).bind fun r => Out.ok (D.bl r, 9)) = Out.of (cmpV o p q) := by
  unfold cmpV; cases cmpD o p.1 q.1 <;> rfl
def isDct : D → Bool
  | .dct _ _ => true
  | _ => false
def eqV (p q : D × Nat) : Option (D × Nat) := (go (eqOk p.1 = true ∧ eqOk q.1 = true ∧ min p.1.dep q.1.dep ≤ 60) (some (pyEq p.1 q.1))).map fun r => (.bl r, 9)
def neV (p q : D × Nat) : Option (D × Nat) := (go (eqOk p.1 = true ∧ eqOk q.1 = true ∧ min p.1.dep q.1.dep ≤ 60) (some (!pyEq p.1 q.1))).map fun r => (.bl r, 9)
theorem cmp_eqV {p q : D × Nat} (h : (isDct p.1 && isDct q.1) = false) : cmpV .eq p q = eqV p q := by
  obtain ⟨d, n⟩ := p
  obtain ⟨e, m⟩ := q
  unfold cmpV eqV
  cases d <;> cases e <;> first | rfl | cases h
theorem cmp_neV {p q : D × Nat} (h : (isDct p.1 && isDct q.1) = false) : cmpV .ne p q = neV p q := by
  obtain ⟨d, n⟩ := p
  obtain ⟨e, m⟩ := q
  unfold cmpV neV
  cases d <;> cases e <;> first | rfl | cases h
theorem op_eqG {k : Nat} (hr : Room k X.A) : OpR X (compareOp .Eq) (r2 X CA W σ0 eqV) := by
  intro pins s σ H x y v u Q I rx ry h
  obtain ⟨H0, M, p, q, Ox, Zx, Oy, Zy, pv, pw, hd⟩ := h
  obtain ⟨r, e, hd⟩ := Den.ofv hd
  obtain ⟨b, e', rfl⟩ := Option.map_eq_some_iff.mp e
  obtain ⟨⟨h1, h2, h3⟩, e⟩ := go_some (show go _ _ = _ from e')
  cases e
  obtain ⟨d1, c1⟩ := pv.rep.dp h1
  obtain ⟨d2, c2⟩ := pw.rep.dp h2
  obtain ⟨as, r1⟩ := Dp.reads I _ x v d1 rx
  obtain ⟨bs, r2⟩ := Dp.reads I _ y u d2 ry
  refine SeqAt.compareEq_reads r1 r2 c1 c2 (by rw [toPy_depth _ h1, toPy_depth _ h2]; have := hr.units; omega) ?_
  rw [toPy_eqv _ _ h1 h2]
  exact ⟨.bl _, H, I, rfl, hd.val pv.same (.bl _)⟩
theorem op_neG {k : Nat} (hr : Room k X.A) : OpR X (compareOp .NotEq) (r2 X CA W σ0 neV) := by
  intro pins s σ H x y v u Q I rx ry h
  obtain ⟨H0, M, p, q, Ox, Zx, Oy, Zy, pv, pw, hd⟩ := h
  obtain ⟨r, e, hd⟩ := Den.ofv hd
  obtain ⟨b, e', rfl⟩ := Option.map_eq_some_iff.mp e
  obtain ⟨⟨h1, h2, h3⟩, e⟩ := go_some (show go _ _ = _ from e')
  cases e
  obtain ⟨d1, c1⟩ := pv.rep.dp h1
  obtain ⟨d2, c2⟩ := pw.rep.dp h2
  obtain ⟨as, r1⟩ := Dp.reads I _ x v d1 rx
  obtain ⟨bs, r2⟩ := Dp.reads I _ y u d2 ry
  refine SeqAt.compareNe_reads r1 r2 c1 c2 (by rw [toPy_depth _ h1, toPy_depth _ h2]; have := hr.units; omega) ?_
  rw [toPy_eqv _ _ h1 h2]
  exact ⟨.bl _, H, I, rfl, hd.val pv.same (.bl _)⟩
theorem OpR.weak' {f : Value → Value → Sem Value} {g : D × Nat → D × Nat → Option (D × Nat)} {r : R2} (h : OpR X f r)
    (w : ∀ (d e : D) (n m : Nat) x y H0 H (M : Addr → Prop) Ox Zx Oy Zy (z : D × Nat) (Q : VK), PVal X.K CA M H0 H d n x Ox Zx → PVal X.K CA M H0 H e m y Oy Zy → g (d, n) (e, m) = some z → Den X.K CA W M (.ok z) σ0 H0 Q → r x y H Q) : OpR X f (r2 X CA W σ0 g) := by
  intro pins s σ H x y v u Q I rx ry h'
  obtain ⟨H0, M, ⟨d, n⟩, ⟨e, m⟩, Ox, Zx, Oy, Zy, pv, pw, hd⟩ := h'
  obtain ⟨z, e', hd⟩ := Den.ofv hd
  exact h pins s σ H x y v u Q I rx ry (w d e n m x y H0 H M Ox Zx Oy Zy z Q pv pw e' hd)
/-- orders: of numbers, of texts -/
theorem op_lt' : OpR X (compareOp .Lt) (r2 X CA W σ0 (cmpV .lt)) := by
  refine OpR.weak' (OpR.or op_lt op_lt_str) fun d e n m x y H0 H M Ox Zx Oy Zy z Q pv pw hz hd => ?_
  obtain ⟨b, e', rfl⟩ := Option.map_eq_some_iff.mp hz
  cases d <;> cases e <;> first | (cases e'; done) | skip
  · cases e'; obtain ⟨rfl, _⟩ := pv.rep.int_inv; obtain ⟨rfl, _⟩ := pw.rep.int_inv
    exact .inl ⟨_, _, rfl, rfl, hd.val pv.same (.bl _)⟩
  · cases e'; obtain ⟨rfl, _⟩ := pv.rep.str_inv; obtain ⟨rfl, _⟩ := pw.rep.str_inv
    exact .inr ⟨_, _, rfl, rfl, hd.val pv.same (.bl _)⟩
theorem op_le' : OpR X (compareOp .LtE) (r2 X CA W σ0 (cmpV .le)) := by
  refine OpR.weak' (OpR.or op_le op_le_str) fun d e n m x y H0 H M Ox Zx Oy Zy z Q pv pw hz hd => ?_
  obtain ⟨b, e', rfl⟩ := Option.map_eq_some_iff.mp hz
  cases d <;> cases e <;> first | (cases e'; done) | skip
  · cases e'; obtain ⟨rfl, _⟩ := pv.rep.int_inv; obtain ⟨rfl, _⟩ := pw.rep.int_inv
    exact .inl ⟨_, _, rfl, rfl, hd.val pv.same (.bl _)⟩
  · cases e'; obtain ⟨rfl, _⟩ := pv.rep.str_inv; obtain ⟨rfl, _⟩ := pw.rep.str_inv
    exact .inr ⟨_, _, rfl, rfl, hd.val pv.same (.bl _)⟩
theorem op_gt' : OpR X (compareOp .Gt) (r2 X CA W σ0 (cmpV .gt)) := by
  refine OpR.weak' (OpR.or op_gt op_gt_str) fun d e n m x y H0 H M Ox Zx Oy Zy z Q pv pw hz hd => ?_
  obtain ⟨b, e', rfl⟩ := Option.map_eq_some_iff.mp hz
  cases d <;> cases e <;> first | (cases e'; done) | skip
  · cases e'; obtain ⟨rfl, _⟩ := pv.rep.int_inv; obtain ⟨rfl, _⟩ := pw.rep.int_inv
    exact .inl ⟨_, _, rfl, rfl, hd.val pv.same (.bl _)⟩
  · cases e'; obtain ⟨rfl, _⟩ := pv.rep.str_inv; obtain ⟨rfl, _⟩ := pw.rep.str_inv
    exact .inr ⟨_, _, rfl, rfl, hd.val pv.same (.bl _)⟩
theorem op_ge' : OpR X (compareOp .GtE) (r2 X CA W σ0 (cmpV .ge)) := by
  refine OpR.weak' (OpR.or op_ge op_ge_str) fun d e n m x y H0 H M Ox Zx Oy Zy z Q pv pw hz hd => ?_
  obtain ⟨b, e', rfl⟩ := Option.map_eq_some_iff.mp hz
  cases d <;> cases e <;> first | (cases e'; done) | skip
  · cases e'; obtain ⟨rfl, _⟩ := pv.rep.int_inv; obtain ⟨rfl, _⟩ := pw.rep.int_inv
    exact .inl ⟨_, _, rfl, rfl, hd.val pv.same (.bl _)⟩
  · cases e'; obtain ⟨rfl, _⟩ := pv.rep.str_inv; obtain ⟨rfl, _⟩ := pw.rep.str_inv
    exact .inr ⟨_, _, rfl, rfl, hd.val pv.same (.bl _)⟩

/-! ### in -/
theorem findC_iff (sub : Cs) : ∀ (s : Cs) (k : Nat), (findC sub k s).isSome = true ↔ ∃ i, i ≤ s.length ∧ sub <+: s.drop i
  | [], k => by
    unfold findC
    constructor
    · intro h
      split at h
      · rename_i e; exact ⟨0, Nat.le_refl _, by rw [e]; exact List.nil_prefix⟩
      · cases h
    · rintro ⟨i, hi, h⟩
      have : sub = [] := by simpa using h
      rw [if_pos this]; rfl
  | c :: r, k => by
    unfold findC
    constructor
    · intro h
      split at h
      · rename_i e; exact ⟨0, Nat.zero_le _, List.isPrefixOf_iff_prefix.mp e⟩
      · obtain ⟨i, hi, q⟩ := (findC_iff sub r (k + 1)).mp h
        exact ⟨i + 1, by simpa using hi, by simpa using q⟩
    · rintro ⟨i, hi, h⟩
      split
      · rfl
      · rename_i e
        cases i with
        | zero => exact absurd (List.isPrefixOf_iff_prefix.mpr (by simpa using h)) e
        | succ j => exact (findC_iff sub r (k + 1)).mpr ⟨j, by simpa using hi, by simpa using h⟩
theorem pre_prefix (S l : Cs) : TL.pre S l = true ↔ S <+: l := by
  unfold TL.pre
  rw [beq_iff_eq, List.prefix_iff_eq_take]
  exact eq_comm
theorem subAt_iff (x y : Str) (i : Nat) : (i + y.length ≤ x.length ∧ Builtin.Str.subAt x y i = true) ↔ (i ≤ x.length ∧ y.cps.toList <+: x.cps.toList.drop i) := by
  by_cases hy : TL.tl y = []
  · have e : y = mkS [] := TL.ext_tl (by rw [hy]; rfl)
    subst e
    have h0 : (mkS []).length = 0 := mkS_len []
    rw [h0, Nat.add_zero]
    refine and_congr_right fun h => ⟨fun _ => by simp [mkS], fun _ => ?_⟩
    simp [Builtin.Str.subAt, mkS, Str.length]; omega
  · have := TL.at_iff (x := x) hy i
    rw [pre_prefix] at this
    constructor
    · intro h
      exact ⟨by omega, this.mp h⟩
    · intro h
      exact this.mpr h.2
theorem in_findC (s t : Cs) : (!(Builtin.Str.occurrences (mkS t) (mkS s) 0 (mkS t).length 1).isEmpty) = (findC s 0 t).isSome := by
  rw [Bool.eq_iff_iff, StrLaws.found_iff, findC_iff]
  constructor
  · rintro ⟨i, h⟩
    obtain ⟨a, b⟩ := (subAt_iff _ _ i).mp h
    exact ⟨i, by rwa [mkS_len] at a, by simpa [mkS] using b⟩
  · rintro ⟨i, a, b⟩
    exact ⟨i, (subAt_iff _ _ i).mpr ⟨by rwa [mkS_len], by simpa [mkS] using b⟩⟩
theorem any_py (d : D) (hd : eqOk d = true) : ∀ ys, eqOkL ys = true → (toPyL ys).any (fun z => PyData.eqv z (toPy d)) = ys.any (fun y => pyEq y d)
  | [], _ => rfl
  | y :: r, h => by
    have h : eqOk y = true ∧ eqOkL r = true := by simpa [eqOkL] using h
    simp only [toPyL, List.any_cons]
    rw [toPy_eqv y d h.1 hd, any_py d hd r h.2]
def rInA (K : PySem.W.Frag) (CA : Nat → Addr) (neg : Bool) : R2 := fun x y H Q => ∃ d e n m Ox Zx Oy Zy b, Rep K CA H n d x Ox Zx ∧ Rep K CA H m e y Oy Zy ∧ (match e with | .lst _ => True | .tup _ => True | _ => False) ∧ inD d e = some b ∧ Q (.bl (if neg then !b else b)) H
theorem op_inA {k : Nat} (hr : Room k X.A) : OpR X (compareOp .In) (rInA X.K CA false) := by
  intro pins s σ H x y v u Q I rx ry ⟨d, e, n, m, Ox, Zx, Oy, Zy, b, r1, r2, hm, hb, q⟩
  cases e <;> first | exact hm.elim | skip
  all_goals
    rename_i ys
    obtain ⟨⟨h1, h2, h3⟩, e⟩ := go_some (show go _ _ = _ from hb)
    cases e
    obtain ⟨d1, c1⟩ := r1.dp h1
    obtain ⟨d2, c2⟩ := r2.dp (by simpa [eqOk] using h2)
    obtain ⟨as, q1⟩ := Dp.reads I _ x v d1 rx
    obtain ⟨bs, q2⟩ := Dp.reads I _ y u d2 ry
    simp only [toPy] at q2 c2
  · refine SeqAt.in_tuple_reads q2 q1 (by simpa [PyData.canLay0] using c2) c1 (by rw [toPyL_depth _ h2, toPy_depth _ h1]; have := hr.units; omega) ?_
    rw [any_py d h1 ys h2]
    exact ⟨.bl _, H, I, rfl, q⟩
  · refine SeqAt.in_list_reads q2 q1 (by simpa [PyData.canLay0] using c2) c1 (by rw [toPyL_depth _ h2, toPy_depth _ h1]; have := hr.units; omega) ?_
    rw [any_py d h1 ys h2]
    exact ⟨.bl _, H, I, rfl, q⟩
theorem op_notInA {k : Nat} (hr : Room k X.A) : OpR X (compareOp .NotIn) (rInA X.K CA true) := by
  intro pins s σ H x y v u Q I rx ry ⟨d, e, n, m, Ox, Zx, Oy, Zy, b, r1, r2, hm, hb, q⟩
  cases e <;> first | exact hm.elim | skip
  all_goals
    rename_i ys
    obtain ⟨⟨h1, h2, h3⟩, e⟩ := go_some (show go _ _ = _ from hb)
    cases e
    obtain ⟨d1, c1⟩ := r1.dp h1
    obtain ⟨d2, c2⟩ := r2.dp (by simpa [eqOk] using h2)
    obtain ⟨as, q1⟩ := Dp.reads I _ x v d1 rx
    obtain ⟨bs, q2⟩ := Dp.reads I _ y u d2 ry
    simp only [toPy] at q2 c2
  · refine SeqAt.notIn_tuple_reads q2 q1 (by simpa [PyData.canLay0] using c2) c1 (by rw [toPyL_depth _ h2, toPy_depth _ h1]; have := hr.units; omega) ?_
    rw [any_py d h1 ys h2]
    exact ⟨.bl _, H, I, rfl, q⟩
  · refine SeqAt.notIn_list_reads q2 q1 (by simpa [PyData.canLay0] using c2) c1 (by rw [toPyL_depth _ h2, toPy_depth _ h1]; have := hr.units; omega) ?_
    rw [any_py d h1 ys h2]
    exact ⟨.bl _, H, I, rfl, q⟩
end
end Vy

namespace Vy
open PySem PySem.Spec
open PyProof.Rows hiding St
open L2

/-! ### dicts -/
theorem vKey_kV {k : D} {κ : Key} (h : vKey k = some κ) {K : PySem.W.Frag} {CA : Nat → Addr} {H : Hp} {n : Nat} {v : V} {O Z : List Addr} (r : Rep K CA H n k v O Z) : v = kV κ := by
  cases k <;> first | (cases h; done) | skip
  · cases h; exact r.int_inv.1
  · cases h; exact r.str_inv.1
theorem vKey_eq {j k : D} {κ κ' : Key} (h : vKey j = some κ') (h' : vKey k = some κ) : pyEq j k = decide (κ' = κ) := by
  cases j <;> first | (cases h; done) | skip
  · cases k <;> first | (cases h'; done) | skip
    · cases h; cases h'; rw [key_ll]; rfl
    · cases h; cases h'; rw [key_lr]; rfl
  · cases k <;> first | (cases h'; done) | skip
    · cases h; cases h'; rw [key_rl]; rfl
    · cases h; cases h'; rw [key_rr]; rename_i s t; show (s == t) = _; rw [← mkS_beq]; (rw [Bool.eq_iff_iff]; simp)
theorem valV_cons {κ κ' : Key} {v : V} {r : List (Key × V)} : valV ((κ', v) :: r) κ = if κ' = κ then some v else valV r κ := by
  unfold valV
  rw [List.find?_cons]
  by_cases h : κ' = κ <;> simp [h]
section
variable {K : PySem.W.Frag} {CA : Nat → Addr} {H : Hp}
theorem dct_find {k : D} {κ : Key} (hk : vKey k = some κ) {n : Nat} : ∀ {ks ds : List D} {kvs : List (Key × V)} {O Z : List Addr}, ks.map vKey = kvs.map (fun p => some p.1) → Reps K CA H n ds (kvs.map (·.2)) O Z →
    (∀ p, (ks.zip ds).find? (fun p => pyEq p.1 k) = some p → ∃ v O1 Z1, valV kvs κ = some v ∧ Rep K CA H n p.2 v O1 Z1 ∧ (∀ a ∈ O1, a ∈ O) ∧ ∀ a ∈ Z1, a ∈ Z) ∧
    ((ks.zip ds).find? (fun p => pyEq p.1 k) = none → valV kvs κ = none) ∧ ks.any (fun j => pyEq j k) = (valV kvs κ).isSome := by
  intro ks
  induction ks with
  | nil =>
    intro ds kvs O Z e r
    cases kvs with
    | nil => exact ⟨fun p h => by simp at h, fun _ => rfl, rfl⟩
    | cons _ _ => simp at e
  | cons j ks ih =>
    intro ds kvs O Z e r
    cases kvs with
    | nil => simp at e
    | cons q kvs =>
      obtain ⟨κ', v⟩ := q
      simp only [List.map_cons, List.cons.injEq] at e
      rw [List.map_cons] at r
      cases r with
      | @cons _ d _ ds' _ O1 Z1 O2 Z2 r1 r2 =>
        have ee := vKey_eq e.1 hk
        rw [valV_cons]
        by_cases hc : κ' = κ
        · rw [if_pos hc]
          have e1 : pyEq j k = true := by rw [ee]; exact decide_eq_true hc
          refine ⟨fun p h => ?_, fun h => ?_, ?_⟩
          · simp only [List.zip_cons_cons, List.find?_cons, e1] at h
            cases h
            exact ⟨v, O1, Z1, rfl, r1, fun a q => List.mem_append_left _ q, fun a q => List.mem_append_left _ q⟩
          · simp [List.zip_cons_cons, List.find?_cons, e1] at h
          · simp [e1]
        · rw [if_neg hc]
          have e1 : pyEq j k = false := by rw [ee]; exact decide_eq_false hc
          obtain ⟨a, b, c⟩ := ih e.2 r2
          refine ⟨fun p h => ?_, fun h => ?_, ?_⟩
          · simp only [List.zip_cons_cons, List.find?_cons, e1] at h
            obtain ⟨v, P, Y, h1, h2, h3, h4⟩ := a p h
            exact ⟨v, P, Y, h1, h2, fun a q => List.mem_append_right _ (h3 a q), fun a q => List.mem_append_right _ (h4 a q)⟩
          · simp only [List.zip_cons_cons, List.find?_cons, e1] at h
            exact b h
          · simp only [List.any_cons, e1, Bool.false_or]; exact c
end
section
variable {X : Cx} {CA : Nat → Addr} {W : WX} {σ0 : St}
theorem eqOk_mem : ∀ {ws : List D}, eqOkL ws = true → ∀ {d : D}, d ∈ ws → eqOk d = true
  | w :: ws, h, d, hd => by
    have h : eqOk w = true ∧ eqOkL ws = true := by simpa [eqOkL] using h
    rcases List.mem_cons.mp hd with z | z
    · rw [z]; exact h.1
    · exact eqOk_mem h.2 z
/-- entry by entry, one dict's against another's -/
theorem dct_hits {pins : List (Addr × Obj)} {σ : St} {H : Hp} {s : Shared} {A : Around} {k : Nat} (I : Inv X pins σ H s) (hr : A.units + 150 < cLine) {ls ws : List D} {lvs : List (Key × V)} {lva : List (Key × Value)} {n2 : Nat} {O2 Z2 : List Addr} (hl : ls.map vKey = lvs.map (fun p => some p.1)) (r2 : Reps X.K CA H n2 ws (lvs.map (·.2)) O2 Z2) (hw : eqOkL ws = true) (rb : KV lvs lva) :
    ∀ {ks vs : List D} {kvs : List (Key × V)} {va : List (Key × Value)} {n : Nat} {O Z : List Addr}, ks.map vKey = kvs.map (fun p => some p.1) → Reps X.K CA H n vs (kvs.map (·.2)) O Z → eqOkL vs = true → depL vs ≤ 50 → KV kvs va →
      PySem.W.KeqHits A s lva va ((ks.zip vs).all fun p => match (ls.zip ws).find? fun q => pyEq q.1 p.1 with | some q => pyEq p.2 q.2 | none => false) := by
  intro ks
  induction ks with
  | nil =>
    intro vs kvs va n O Z e r _ _ ra
    cases kvs with
    | nil => unfold KV at ra; cases ra; exact .nil
    | cons _ _ => cases e
  | cons j ks ih =>
    intro vs kvs va n O Z e r hv hd ra
    cases kvs with
    | nil => cases e
    | cons kv kvs =>
      simp only [List.map_cons] at e r
      have hk : vKey j = some kv.1 := (List.cons.inj e).1
      unfold KV at ra
      cases ra with
      | cons rh rt =>
        cases r with
        | cons q1 q2 =>
          rename_i b bs v vs' _ _ _ _
          have hv : eqOk v = true ∧ eqOkL vs' = true := by simpa [eqOkL] using hv
          have hd : v.dep ≤ 50 ∧ depL vs' ≤ 50 := by simp only [depL] at hd; omega
          obtain ⟨f1, f2, _⟩ := dct_find hk hl r2
          have rr := rb.val kv.1
          have tl := ih (List.cons.inj e).2 q2 hv.2 hd.2 rt
          rw [List.zip_cons_cons, List.all_cons]
          obtain ⟨bk, bv⟩ := b
          have hb : bk = kv.1 := rh.1.symm
          subst hb
          simp only
          cases hf : (ls.zip ws).find? fun q => pyEq q.1 j with
          | none =>
            rw [f2 hf] at rr
            have : valueAt lva kv.1 = none := by
              cases ev : valueAt lva kv.1 with
              | none => rfl
              | some u => rw [ev] at rr; exact rr.elim
            exact .miss this
          | some q =>
            obtain ⟨y, O1, Z1, g1, g2, _, _⟩ := f1 q hf
            rw [g1] at rr
            obtain ⟨yv, hy, ry⟩ := rr.some_of
            have hq : eqOk q.2 = true := by
              have hm := List.mem_of_find?_eq_some hf
              exact eqOk_mem hw (List.of_mem_zip (a := q.1) (b := q.2) hm).2
            obtain ⟨d1, c1⟩ := q1.dp hv.1
            obtain ⟨d2, c2⟩ := g2.dp hq
            obtain ⟨as, r1⟩ := Dp.reads I _ _ bv d1 rh.2
            obtain ⟨bs', r2'⟩ := Dp.reads I _ _ yv d2 ry
            refine .hit hy ?_ tl
            have := SeqAt.eqAt_reads (toPy v) (toPy q.2) A s bv yv as bs' r1 r2' c1 c2 (by rw [toPy_depth _ hv.1, toPy_depth _ hq]; omega)
            rwa [toPy_eqv _ _ hv.1 hq] at this
theorem op_eq' {k : Nat} (hr : Room k X.A) : OpR X (compareOp .Eq) (r2 X CA W σ0 (cmpV .eq)) := by
  intro pins s σ H x y v u Q I rx ry h
  obtain ⟨H0, M, p, q, Ox, Zx, Oy, Zy, pv, pw, hd⟩ := h
  cases hb : isDct p.1 && isDct q.1 with
  | false =>
    rw [cmp_eqV hb] at hd
    exact op_eqG hr pins s σ H x y v u Q I rx ry ⟨H0, M, p, q, Ox, Zx, Oy, Zy, pv, pw, hd⟩
  | true =>
    obtain ⟨d, n⟩ := p
    obtain ⟨e, m⟩ := q
    obtain ⟨z, hz, hd⟩ := Den.ofv hd
    cases d <;> first | (cases hb; done) | skip
    cases e <;> first | (cases hb; done) | skip
    obtain ⟨b, e', rfl⟩ := Option.map_eq_some_iff.mp hz
    obtain ⟨⟨h1, h2, h3⟩, e⟩ := go_some (show go _ _ = _ from e')
    cases e
    obtain ⟨a, kvs, _, _, _, rfl, ra, ka, sa, _⟩ := pv.rep.dct_inv
    obtain ⟨b, lvs, _, _, _, rfl, rb, kb, sb, _⟩ := pw.rep.dct_inv
    obtain rfl : v = Value.ref a := rx
    obtain rfl : u = Value.ref b := ry
    obtain ⟨_, ya, va, xa, da⟩ := dk_rd I.hok ra
    obtain ⟨_, yb, vb, xb, db⟩ := dk_rd I.hok rb
    have l1 := congrArg List.length ka.1
    have l2 := congrArg List.length kb.1
    simp only [List.length_map] at l1 l2
    refine PySem.W.keq_eq (knd := mixKind X.prog X.w) ya yb da db (by have := hr.un; omega) (fun _ => dct_hits (k := k) I (by have := hr.un; show X.A.units + 1 + 150 < cLine; omega) kb.1 sb h2 xb ka.1 sa h1 h3 xa) ?_
    refine ⟨.bl _, H, I, ?_, hd.val pv.same (.bl _)⟩
    show Value.bool _ = Value.bool _
    rw [← xa.length, ← xb.length, ← l1, ← l2]; rfl
theorem op_ne' {k : Nat} (hr : Room k X.A) : OpR X (compareOp .NotEq) (r2 X CA W σ0 (cmpV .ne)) := by
  intro pins s σ H x y v u Q I rx ry h
  obtain ⟨H0, M, p, q, Ox, Zx, Oy, Zy, pv, pw, hd⟩ := h
  cases hb : isDct p.1 && isDct q.1 with
  | false =>
    rw [cmp_neV hb] at hd
    exact op_neG hr pins s σ H x y v u Q I rx ry ⟨H0, M, p, q, Ox, Zx, Oy, Zy, pv, pw, hd⟩
  | true =>
    obtain ⟨d, n⟩ := p
    obtain ⟨e, m⟩ := q
    obtain ⟨z, hz, hd⟩ := Den.ofv hd
    cases d <;> first | (cases hb; done) | skip
    cases e <;> first | (cases hb; done) | skip
    obtain ⟨b, e', rfl⟩ := Option.map_eq_some_iff.mp hz
    obtain ⟨⟨h1, h2, h3⟩, e⟩ := go_some (show go _ _ = _ from e')
    cases e
    obtain ⟨a, kvs, _, _, _, rfl, ra, ka, sa, _⟩ := pv.rep.dct_inv
    obtain ⟨b, lvs, _, _, _, rfl, rb, kb, sb, _⟩ := pw.rep.dct_inv
    obtain rfl : v = Value.ref a := rx
    obtain rfl : u = Value.ref b := ry
    obtain ⟨_, ya, va, xa, da⟩ := dk_rd I.hok ra
    obtain ⟨_, yb, vb, xb, db⟩ := dk_rd I.hok rb
    have l1 := congrArg List.length ka.1
    have l2 := congrArg List.length kb.1
    simp only [List.length_map] at l1 l2
    refine PySem.W.keq_ne (knd := mixKind X.prog X.w) ya yb da db (by have := hr.un; omega) (fun _ => dct_hits (k := k) I (by have := hr.un; show X.A.units + 1 + 150 < cLine; omega) kb.1 sb h2 xb ka.1 sa h1 h3 xa) ?_
    refine ⟨.bl _, H, I, ?_, hd.val pv.same (.bl _)⟩
    show Value.bool _ = Value.bool _
    rw [← xa.length, ← xb.length, ← l1, ← l2]; rfl
theorem op_in' {k : Nat} (hr : Room k X.A) : OpR X (compareOp .In) (r2 X CA W σ0 (cmpV .isin)) := by
  have hD : OpR X (compareOp .In) (fun y x H Q => ∃ a o, x = .ref a ∧ DGet H a y o ∧ Q (.bl o.isSome) H) := by
    intro pins s σ H y x v u Q I ry rx ⟨a, o, e, g, q⟩
    subst e
    obtain rfl : u = Value.ref a := rx
    exact d_in (hu_of hr) I g ry fun s3 I3 => ⟨.bl o.isSome, H, I3, rfl, q⟩
  refine OpR.weak' (OpR.or op_in_str (OpR.or (op_inA (CA := CA) hr) hD)) fun d e n m x y H0 H M Ox Zx Oy Zy z Q pv pw hz hd => ?_
  obtain ⟨b, e', rfl⟩ := Option.map_eq_some_iff.mp hz
  have e' : inD d e = some b := e'
  cases e <;> first | (cases e'; done) | skip
  · -- text
    cases d <;> first | (cases e'; done) | skip
    cases e'
    obtain ⟨rfl, _⟩ := pv.rep.str_inv; obtain ⟨rfl, _⟩ := pw.rep.str_inv
    refine .inl ⟨_, _, rfl, rfl, ?_⟩
    rw [in_findC]
    exact hd.val pv.same (.bl _)
  · exact .inr (.inl ⟨_, _, _, _, _, _, _, _, _, pv.rep, pw.rep, trivial, e', hd.val pv.same (.bl _)⟩)
  · exact .inr (.inl ⟨_, _, _, _, _, _, _, _, _, pv.rep, pw.rep, trivial, e', hd.val pv.same (.bl _)⟩)
  · obtain ⟨h1, e⟩ := go_some (show go _ _ = _ from e')
    cases e
    obtain ⟨κ, hk⟩ := Option.isSome_iff_exists.mp h1
    obtain ⟨a, kvs, O', Z', m', rfl, hrd, hko, hrs, _⟩ := pw.rep.dct_inv
    obtain ⟨_, _, h3⟩ := dct_find hk hko.1 hrs
    refine .inr (.inr ⟨a, valV kvs κ, rfl, .inl ⟨kvs, κ, hrd, vKey_kV hk pv.rep, rfl⟩, ?_⟩)
    rw [← h3]
    exact hd.val pv.same (.bl _)
theorem op_notIn' {k : Nat} (hr : Room k X.A) : OpR X (compareOp .NotIn) (r2 X CA W σ0 (cmpV .notin)) := by
  have hD : OpR X (compareOp .NotIn) (fun y x H Q => ∃ a o, x = .ref a ∧ DGet H a y o ∧ Q (.bl (!o.isSome)) H) := by
    intro pins s σ H y x v u Q I ry rx ⟨a, o, e, g, q⟩
    subst e
    obtain rfl : u = Value.ref a := rx
    exact d_notIn (hu_of hr) I g ry fun s3 I3 => ⟨.bl (!o.isSome), H, I3, rfl, q⟩
  refine OpR.weak' (OpR.or L2.op_notIn_str (OpR.or (op_notInA (CA := CA) hr) hD)) fun d e n m x y H0 H M Ox Zx Oy Zy z Q pv pw hz hd => ?_
  obtain ⟨b, e', rfl⟩ := Option.map_eq_some_iff.mp hz
  obtain ⟨b', e'', e3⟩ := Option.bind_eq_some_iff.mp (show (inD d e).bind _ = some b from e')
  cases e3
  have e' : inD d e = some b' := e''
  cases e <;> first | (cases e'; done) | skip
  · cases d <;> first | (cases e'; done) | skip
    cases e'
    obtain ⟨rfl, _⟩ := pv.rep.str_inv; obtain ⟨rfl, _⟩ := pw.rep.str_inv
    refine .inl ⟨_, _, rfl, rfl, ?_⟩
    rw [in_findC]
    exact hd.val pv.same (.bl _)
  · exact .inr (.inl ⟨_, _, _, _, _, _, _, _, _, pv.rep, pw.rep, trivial, e', hd.val pv.same (.bl _)⟩)
  · exact .inr (.inl ⟨_, _, _, _, _, _, _, _, _, pv.rep, pw.rep, trivial, e', hd.val pv.same (.bl _)⟩)
  · obtain ⟨h1, e⟩ := go_some (show go _ _ = _ from e')
    cases e
    obtain ⟨κ, hk⟩ := Option.isSome_iff_exists.mp h1
    obtain ⟨a, kvs, O', Z', m', rfl, hrd, hko, hrs, _⟩ := pw.rep.dct_inv
    obtain ⟨_, _, h3⟩ := dct_find hk hko.1 hrs
    refine .inr (.inr ⟨a, valV kvs κ, rfl, .inl ⟨kvs, κ, hrd, vKey_kV hk pv.rep, rfl⟩, ?_⟩)
    rw [← h3]
    exact hd.val pv.same (.bl _)
theorem op_is' : OpR X (compareOp .Is) (r2 X CA W σ0 (cmpV .is_)) := by
  refine OpR.weak' op_isN fun d e n m x y H0 H M Ox Zx Oy Zy z Q pv pw hz hd => ?_
  obtain ⟨b, e', rfl⟩ := Option.map_eq_some_iff.mp hz
  cases e <;> first | (cases e'; done) | (cases d <;> (cases e'; done)) | skip
  obtain ⟨rfl, _⟩ := pw.rep.non_inv
  refine ⟨rfl, ?_⟩
  have : decide (x = V.non) = b := by
    cases d <;> cases e' <;> (have r := pv.rep; cases r <;> first | rfl | (rename_i hq _ hr; obtain ⟨a, rfl⟩ := hr.ref (by assumption); rfl))
  rw [this]
  exact hd.val pv.same (.bl _)
theorem op_isnot' : OpR X (compareOp .IsNot) (r2 X CA W σ0 (cmpV .isnot)) := by
  refine OpR.weak' op_notN fun d e n m x y H0 H M Ox Zx Oy Zy z Q pv pw hz hd => ?_
  obtain ⟨b, e', rfl⟩ := Option.map_eq_some_iff.mp hz
  cases e <;> first | (cases e'; done) | (cases d <;> (cases e'; done)) | skip
  obtain ⟨rfl, _⟩ := pw.rep.non_inv
  refine ⟨rfl, ?_⟩
  have : (!decide (x = V.non)) = b := by
    cases d <;> cases e' <;> (have r := pv.rep; cases r <;> first | rfl | (rename_i hq _ hr; obtain ⟨a, rfl⟩ := hr.ref (by assumption); rfl))
  rw [this]
  exact hd.val pv.same (.bl _)
end
def CO.op : CO → CmpOp
  | .eq => .Eq | .ne => .NotEq | .lt => .Lt | .le => .LtE | .gt => .Gt | .ge => .GtE | .isin => .In | .notin => .NotIn | .is_ => .Is | .isnot => .IsNot
theorem op_cmp {X : Cx} {CA : Nat → Addr} {W : WX} {σ0 : St} {k : Nat} (hr : Room k X.A) : ∀ o : CO, OpR X (compareOp o.op) (r2 X CA W σ0 (cmpV o))
  | .eq => op_eq' hr
  | .ne => op_ne' hr
  | .lt => op_lt'
  | .le => op_le'
  | .gt => op_gt'
  | .ge => op_ge'
  | .isin => op_in' hr
  | .notin => op_notIn' hr
  | .is_ => op_is'
  | .isnot => op_isnot'
end Vy

namespace Vy
open PySem PySem.Spec
open PyProof.Rows hiding St
open L2

section
variable {K : PySem.W.Frag} {CA : Nat → Addr} {H H0 H1 H' : Hp} {M : Addr → Prop} {n : Nat} {v : V} {O Z : List Addr}
theorem PVal.lst_inv {xs : List D} (p : PVal K CA M H H' (.lst xs) n v O Z) : ∃ a vs Z0, v = .ref a ∧ H' a = some (.lst vs) ∧ Reps K CA H' 0 xs vs [] Z0 ∧ ∀ b ∈ Z0, H b = none ∨ M b := by
  obtain ⟨a, vs, O', Z', m, e, h, r, h1, h2⟩ := p.rep.lst_inv
  obtain ⟨Z0, r0, h0⟩ := r.zeroed
  exact ⟨a, vs, Z0, e, h, r0, fun b q => (h0 b q).elim (fun z => .inl (p.fresh b (h1 b z))) fun z => p.zin b (h2 b z)⟩
theorem PVal.tup_inv {xs : List D} (p : PVal K CA M H H' (.tup xs) n v O Z) : ∃ a vs Z0, v = .ref a ∧ SqT K H' a vs ∧ Reps K CA H' 0 xs vs [] Z0 ∧ ∀ b ∈ Z0, H b = none ∨ M b := by
  obtain ⟨a, vs, e, h, r⟩ := p.rep.tup_inv
  obtain ⟨Z0, r0, h0⟩ := r.zeroed
  exact ⟨a, vs, Z0, e, h, r0, fun b q => (h0 b q).elim (fun z => .inl (p.fresh b z)) fun z => p.zin b z⟩
/-- a new list, its items of others -/
theorem PVal.newList {xs : List D} {vs : List V} {Z0 : List Addr} {p : Addr} (s : Same H H1) (r : Reps K CA H1 0 xs vs [] Z0) (hz : ∀ b ∈ Z0, H b = none ∨ M b) (hp : H1 p = none) :
    ∃ O Z, PVal K CA M H (upd H1 p (.lst vs)) (.lst xs) (lv1 xs) (.ref p) O Z := by
  have k : Same H1 (upd H1 p (.lst vs)) := sameNew hp
  have r' := r.same k
  unfold lv1
  by_cases hm : mdepL xs = 0
  · rw [if_pos hm]
    obtain ⟨_, _, r8⟩ := r'.imm (m := 8) hm
    exact ⟨[p], [], s.trans k, .lstO upd_same r8, fun a q => by simp at q; subst q; exact same_none s hp, by simp, by simp, by simp⟩
  · rw [if_neg hm]
    refine ⟨[p], Z0, s.trans k, .lstO (O := []) upd_same r', fun a q => by simp at q; subst q; exact same_none s hp, by simp, hz, fun a q z => ?_⟩
    simp at z; subst z
    exact (r.there a (by simpa using q)) hp
/-- a new dict, its values of others -/
theorem PVal.newDct {ks xs : List D} {kvs : List (L2.Key × V)} {Z0 : List Addr} {p : Addr} (s : Same H H1) (hk : KeyOk ks kvs) (r : Reps K CA H1 0 xs (kvs.map (·.2)) [] Z0) (hz : ∀ b ∈ Z0, H b = none ∨ M b) (hp : H1 p = none) :
    ∃ O Z, PVal K CA M H (upd H1 p (.dK kvs)) (.dct ks xs) (lv1 xs) (.ref p) O Z := by
  have k : Same H1 (upd H1 p (.dK kvs)) := sameNew hp
  have r' := r.same k
  unfold lv1
  by_cases hm : mdepL xs = 0
  · rw [if_pos hm]
    obtain ⟨_, _, r8⟩ := r'.imm (m := 8) hm
    exact ⟨[p], [], s.trans k, .dctO upd_same hk r8, fun a q => by simp at q; subst q; exact same_none s hp, by simp, by simp, by simp⟩
  · rw [if_neg hm]
    refine ⟨[p], Z0, s.trans k, .dctO (O := []) upd_same hk r', fun a q => by simp at q; subst q; exact same_none s hp, by simp, hz, fun a q z => ?_⟩
    simp at z; subst z
    exact (r.there a (by simpa using q)) hp
/-- a new tuple of what does not change -/
theorem PVal.newTup {xs : List D} {vs : List V} {p : Addr} {m : Nat} (s : Same H H1) (r : Reps K CA H1 m xs vs O Z) (hm : mdepL xs = 0) (hp : H1 p = none) :
    PVal K CA M H (upd H1 p (.tup vs)) (.tup xs) 9 (.ref p) [] [] := by
  have k : Same H1 (upd H1 p (.tup vs)) := sameNew hp
  obtain ⟨_, _, r9⟩ := (r.same k).imm (m := 9) hm
  exact .imm (s.trans k) (.tup (.of upd_same) r9)
theorem PVal.newTup0 {xs : List D} {vs : List V} {Z0 : List Addr} {p : Addr} (s : Same H H1) (r : Reps K CA H1 0 xs vs [] Z0) (hz : ∀ b ∈ Z0, H b = none ∨ M b) (hp : H1 p = none) :
    ∃ O Z, PVal K CA M H (upd H1 p (.tup vs)) (.tup xs) (lvt xs) (.ref p) O Z := by
  by_cases hm : mdepL xs = 0
  · exact ⟨_, _, by unfold lvt; rw [if_pos hm]; exact PVal.newTup s r hm hp⟩
  · have k : Same H1 (upd H1 p (.tup vs)) := sameNew hp
    refine ⟨[], Z0, ?_⟩
    unfold lvt
    rw [if_neg hm]
    exact ⟨s.trans k, .tup (.of upd_same) (r.same k), by simp, by simp, hz, by simp⟩
/-- the same tuple -/
theorem PVal.sameTup {xs : List D} {vs : List V} {Z0 : List Addr} {a : Addr} (s : Same H H1) (r : Reps K CA H1 0 xs vs [] Z0) (hz : ∀ b ∈ Z0, H b = none ∨ M b) (ha : SqT K H1 a vs) :
    ∃ O Z, PVal K CA M H H1 (.tup xs) (lvt xs) (.ref a) O Z := by
  unfold lvt
  by_cases hm : mdepL xs = 0
  · rw [if_pos hm]
    obtain ⟨_, _, r9⟩ := r.imm (m := 9) hm
    exact ⟨_, _, .imm s (.tup ha r9)⟩
  · rw [if_neg hm]
    exact ⟨[], Z0, s, .tup ha r, by simp, by simp, hz, by simp⟩
theorem Reps.take : ∀ {n ds vs O Z} (k : Nat), Reps K CA H n ds vs O Z → ∃ O' Z', Reps K CA H n (ds.take k) (vs.take k) O' Z' ∧ (∀ a ∈ O', a ∈ O) ∧ ∀ a ∈ Z', a ∈ Z
  | _, _, _, _, _, 0, r => ⟨[], [], by simpa using Reps.nil, by simp, by simp⟩
  | _, _, _, _, _, _ + 1, .nil => ⟨[], [], by simpa using Reps.nil, by simp, by simp⟩
  | _, _, _, _, _, k + 1, .cons r s => by
    obtain ⟨O', Z', q, h1, h2⟩ := s.take k
    refine ⟨_, _, by simpa using Reps.cons r q, fun a z => ?_, fun a z => ?_⟩
    · rcases List.mem_append.mp z with z | z
      · simp [z]
      · simp [h1 a z]
    · rcases List.mem_append.mp z with z | z
      · simp [z]
      · simp [h2 a z]
theorem Reps.drop : ∀ {n ds vs O Z} (k : Nat), Reps K CA H n ds vs O Z → ∃ O' Z', Reps K CA H n (ds.drop k) (vs.drop k) O' Z' ∧ (∀ a ∈ O', a ∈ O) ∧ ∀ a ∈ Z', a ∈ Z
  | _, _, _, _, _, 0, r => ⟨_, _, by simpa using r, fun a h => h, fun a h => h⟩
  | _, _, _, _, _, _ + 1, .nil => ⟨[], [], by simpa using Reps.nil, by simp, by simp⟩
  | _, _, _, _, _, k + 1, .cons r s => by
    obtain ⟨O', Z', q, h1, h2⟩ := s.drop k
    exact ⟨_, _, by simpa using q, fun a z => List.mem_append_right _ (h1 a z), fun a z => List.mem_append_right _ (h2 a z)⟩
theorem Reps.rep : ∀ {ds vs Z} (k : Nat), Reps K CA H 0 ds vs [] Z → ∃ Z', Reps K CA H 0 (List.replicate k ds).flatten (List.replicate k vs).flatten [] Z' ∧ ∀ a ∈ Z', a ∈ Z
  | _, _, _, 0, r => ⟨[], by simpa using Reps.nil, by simp⟩
  | _, _, Z, k + 1, r => by
    obtain ⟨Z', q, h⟩ := r.rep k
    refine ⟨Z ++ Z', by simpa [List.replicate_succ] using r.append q, fun a z => ?_⟩
    rcases List.mem_append.mp z with z | z
    · exact z
    · exact h a z
theorem mdepL_rep (k : Nat) (xs : List D) : mdepL (List.replicate k xs).flatten ≤ mdepL xs := mdepL_le fun d h => by
  obtain ⟨l, hl, hd⟩ := List.mem_flatten.mp h
  have := List.eq_of_mem_replicate hl
  subst this
  exact mdepL_mem hd
theorem lv1_rep {k : Nat} {xs : List D} (h : k ≠ 0) : lv1 (List.replicate k xs).flatten = lv1 xs := by
  unfold lv1
  have : mdepL (List.replicate k xs).flatten = mdepL xs := by
    refine Nat.le_antisymm (mdepL_rep k xs) ?_
    cases k with
    | zero => exact absurd rfl h
    | succ k => rw [List.replicate_succ, List.flatten_cons, mdepL_append]; omega
  rw [this]
end
theorem cut_length {α : Type} (xs : List α) (lo hi : Option Int) : (cut xs lo hi).length ≤ xs.length := by
  unfold cut; rw [List.length_take, List.length_drop]; omega
theorem sx_eq (n d : Nat) (o : Option Int) : sx n d o = HT.sIx n d o := by
  cases o with
  | none => rfl
  | some i =>
    unfold sx HT.sIx
    first
    | rfl
    | (simp only; split <;> first | rfl | omega | (split <;> first | rfl | omega))
section
variable {X : Cx} {CA : Nat → Addr} {W : WX} {σ0 : St}
theorem op_mulS : OpR X (binaryOp .Mult) (fun x y H Q => ∃ z i, x = .str z ∧ y = .int i ∧ -(2 ^ 62) ≤ i ∧ i < 2 ^ 62 ∧ z.length * i.toNat ≤ sizeLine ∧ Q (.str (mkS (List.replicate i.toNat z.cps.toList).flatten)) H) := by
  intro pins s σ H x y v u Q I rx ry ⟨z, i, e1, e2, h1, h2, hz, q⟩
  subst e1; subst e2
  obtain ⟨t, rfl⟩ := rx
  obtain ⟨t', rfl⟩ := ry
  have hs : sizeLine = 16777216 := sizeLine_eq
  refine SB.mul ⟨by simp; omega, fun a b => ?_, fun a b => ?_⟩ fun t' k => ?_
  · have hi : (0 : Int) < i := by omega
    have : (z.length : Int) * i ≤ 16777216 := by
      have e : ((z.length * i.toNat : Nat) : Int) = (z.length : Int) * i := by rw [Int.natCast_mul, Int.toNat_of_nonneg (by omega)]
      rw [← e]; omega
    intro hlt
    have h3 : (2 ^ 63 - 1) / i < (z.length : Int) := hlt
    have h4 := (Int.ediv_lt_iff_lt_mul hi).mp h3
    omega
  · unfold Builtin.Str.tooLong
    first
    | (simp; omega)
    | (rw [decide_eq_false]; omega)
  · refine ⟨.str (mkS (List.replicate i.toNat z.cps.toList).flatten), H, I.tok _, ?_, q⟩
    have e : Txt.mul z i = mkS (List.replicate i.toNat z.cps.toList).flatten := by
      unfold Txt.mul
      by_cases h : i < 1
      · rw [if_pos h]
        have : i.toNat = 0 := by omega
        rw [this]; rfl
      · rw [if_neg h]
        have fl : ∀ (m : Nat) (acc : Array Nat), (List.replicate m z.cps).foldl (· ++ ·) acc = acc ++ (List.replicate m z.cps.toList).flatten.toArray := fun m => by
          induction m with
          | zero => intro acc; simp
          | succ m ih => intro acc; rw [List.replicate_succ, List.foldl_cons, ih, List.replicate_succ, List.flatten_cons]; apply Array.toList_inj.mp; simp
        by_cases hc : (i == 1 || z.length == 0) = true
        · rw [if_pos hc]
          apply TL.ext_tl
          show z.cps.toList = (mkS _).cps.toList
          rw [mkS_tl]
          simp only [Bool.or_eq_true, beq_iff_eq] at hc
          rcases hc with hc | hc
          · subst hc; simp
          · have : z.cps.toList = [] := by have := TL.len_tl z; rw [hc] at this; exact List.eq_nil_of_length_eq_zero this.symm
            rw [this]
            induction i.toNat with
            | zero => rfl
            | succ m ih => rw [List.replicate_succ, List.flatten_cons, ← ih]; rfl
        · rw [if_neg hc, fl]; simp [mkS]
    rw [← e]
    exact ⟨_, rfl⟩
end
end Vy

namespace Vy
open PySem PySem.Spec
open PyProof.Rows hiding St
open L2
theorem go_none_iff {c : Prop} [Decidable c] {α : Type} {x : Option α} {z : α} : go c x = some z ↔ c ∧ x = some z := by
  unfold go; split <;> simp [*]
theorem Reps.ne {K : PySem.W.Frag} {CA : Nat → Addr} {H : Hp} {n : Nat} {ds : List D} {vs : List V} {O Z : List Addr} (r : Reps K CA H n ds vs O Z) : ds = [] ↔ vs = [] := by
  have := r.length
  constructor
  · intro h; subst h; exact List.eq_nil_of_length_eq_zero this.symm
  · intro h; subst h; exact List.eq_nil_of_length_eq_zero this
section
variable {X : Cx} {CA : Nat → Addr} {W : WX} {σ0 : St}
def BO.op : BO → Operator
  | .add => .Add | .sub => .Sub | .mul => .Mult | .fdv => .FloorDiv | .mod => .Mod | .pow => .Pow
theorem Bd.rep {s : Cs} (h : Bd s) (k : Nat) : Bd (List.replicate k s).flatten := fun c q => by
  obtain ⟨l, hl, hc⟩ := List.mem_flatten.mp q
  rw [List.eq_of_mem_replicate hl] at hc
  exact h c hc
theorem op_badd : OpR X (binaryOp .Add) (r2 X CA W σ0 (binD .add)) := by
  refine OpR.weak' (OpR.or op_add (OpR.or op_add_str (OpR.or op_cat op_catT))) fun d e n m x y H0 H M Ox Zx Oy Zy z Q pv pw hz hd => ?_
  cases d <;> first | (cases hz; done) | skip
  all_goals (cases e <;> first | (cases hz; done) | skip)
  · cases hz; obtain ⟨rfl, _⟩ := pv.rep.int_inv; obtain ⟨rfl, _⟩ := pw.rep.int_inv
    exact .inl ⟨_, _, rfl, rfl, hd.val pv.same (.int _)⟩
  · obtain ⟨hl, e⟩ := go_some (show go _ _ = _ from hz)
    cases e
    obtain ⟨rfl, _, _, b1⟩ := pv.rep.str_inv; obtain ⟨rfl, _, _, b2⟩ := pw.rep.str_inv
    refine .inr (.inl ⟨_, _, rfl, rfl, by rw [mkS_len, mkS_len, SZ_eq]; exact hl, ?_⟩)
    rw [mkS_app]
    exact hd.val pv.same (.str (b1.app b2))
  · obtain ⟨⟨n1, hl⟩, e⟩ := go_some (show go _ _ = _ from hz)
    cases e
    obtain ⟨a, vs, Z1, e1, h1, r1, z1⟩ := pv.tup_inv
    obtain ⟨b, ws, Z2, e2, h2, r2, z2⟩ := pw.tup_inv
    refine .inr (.inr (.inr ⟨a, b, vs, ws, e1, e2, h1, h2, fun h => n1 (r1.ne.mpr h), by rw [← r1.length, ← r2.length, SZ_eq]; exact hl, fun h => ?_, fun _ p hp => ?_⟩))
    · have := r2.ne.mpr h
      subst this
      obtain ⟨O, Z, pp⟩ := PVal.sameTup pv.same r1 z1 h1
      rw [List.append_nil] at hd
      exact hd _ _ _ _ pp
    · obtain ⟨O, Z, pp⟩ := PVal.newTup0 pv.same (r1.append r2) (fun b q => (List.mem_append.mp q).elim (z1 b) (z2 b)) hp
      exact hd _ _ _ _ pp
  · obtain ⟨hl, e⟩ := go_some (show go _ _ = _ from hz)
    cases e
    obtain ⟨a, vs, Z1, e1, h1, r1, z1⟩ := pv.lst_inv
    obtain ⟨b, ws, Z2, e2, h2, r2, z2⟩ := pw.lst_inv
    refine .inr (.inr (.inl ⟨a, b, vs, ws, e1, e2, h1, h2, by rw [← r1.length, ← r2.length, SZ_eq]; exact hl, fun p hp => ?_⟩))
    obtain ⟨O, Z, pp⟩ := PVal.newList pv.same (r1.append r2) (fun b q => (List.mem_append.mp q).elim (z1 b) (z2 b)) hp
    exact hd _ _ _ _ pp
theorem op_bmul : OpR X (binaryOp .Mult) (r2 X CA W σ0 (binD .mul)) := by
  refine OpR.weak' (OpR.or op_mul (OpR.or op_mulS op_rep)) fun d e n m x y H0 H M Ox Zx Oy Zy z Q pv pw hz hd => ?_
  cases d <;> first | (cases hz; done) | skip
  all_goals (cases e <;> first | (cases hz; done) | skip)
  · obtain ⟨hl, e⟩ := go_some (show go _ _ = _ from hz)
    cases e
    obtain ⟨rfl, _⟩ := pv.rep.int_inv; obtain ⟨rfl, _⟩ := pw.rep.int_inv
    exact .inl ⟨_, _, rfl, rfl, hl, hd.val pv.same (.int _)⟩
  · obtain ⟨⟨a1, a2, hl⟩, e⟩ := go_some (show go _ _ = _ from hz)
    cases e
    obtain ⟨rfl, _, _, b1⟩ := pv.rep.str_inv; obtain ⟨rfl, _⟩ := pw.rep.int_inv
    refine .inr (.inl ⟨_, _, rfl, rfl, a1, a2, by rw [mkS_len, SZ_eq]; exact hl, ?_⟩)
    rw [mkS_tl]
    exact hd.val pv.same (.str (b1.rep _))
  · obtain ⟨⟨a1, a2, hl⟩, e⟩ := go_some (show go _ _ = _ from hz)
    cases e
    rename_i xs j
    obtain ⟨a, vs, Z1, e1, h1, r1, z1⟩ := pv.lst_inv
    obtain ⟨rfl, _⟩ := pw.rep.int_inv
    refine .inr (.inr ⟨a, _, vs, e1, rfl, h1, by omega, by omega, by rw [← r1.length, SZ_eq]; exact hl, fun p hp => ?_⟩)
    obtain ⟨Z', r', h'⟩ := r1.rep j.toNat
    obtain ⟨O, Z, pp⟩ := PVal.newList pv.same r' (fun b q => z1 b (h' b q)) hp
    by_cases hj : j.toNat = 0
    · rw [hj] at pp ⊢
      rw [hj] at hd
      have : lv1 (List.replicate 0 xs).flatten = 9 := rfl
      rw [this] at pp
      obtain ⟨O', Z', p', _⟩ := pp.low (m := lv1 xs) (by unfold lv1; split <;> omega)
      exact hd _ _ _ _ p'
    · rw [lv1_rep hj] at pp
      exact hd _ _ _ _ pp
theorem op_bin : ∀ o : BO, OpR X (binaryOp o.op) (r2 X CA W σ0 (binD o))
  | .add => op_badd
  | .mul => op_bmul
  | .sub => by
    refine OpR.weak' op_sub fun d e n m x y H0 H M Ox Zx Oy Zy z Q pv pw hz hd => ?_
    cases d <;> first | (cases hz; done) | skip
    cases e <;> first | (cases hz; done) | skip
    cases hz; obtain ⟨rfl, _⟩ := pv.rep.int_inv; obtain ⟨rfl, _⟩ := pw.rep.int_inv
    exact ⟨_, _, rfl, rfl, hd.val pv.same (.int _)⟩
  | .fdv => by
    refine OpR.weak' op_fdivN fun d e n m x y H0 H M Ox Zx Oy Zy z Q pv pw hz hd => ?_
    cases d <;> first | (cases hz; done) | skip
    cases e <;> first | (cases hz; done) | skip
    obtain ⟨hl, e⟩ := go_some (show go _ _ = _ from hz)
    cases e; obtain ⟨rfl, _⟩ := pv.rep.int_inv; obtain ⟨rfl, _⟩ := pw.rep.int_inv
    exact ⟨_, _, rfl, rfl, hl, hd.val pv.same (.int _)⟩
  | .mod => by
    refine OpR.weak' op_modN fun d e n m x y H0 H M Ox Zx Oy Zy z Q pv pw hz hd => ?_
    cases d <;> first | (cases hz; done) | skip
    cases e <;> first | (cases hz; done) | skip
    obtain ⟨hl, e⟩ := go_some (show go _ _ = _ from hz)
    cases e; obtain ⟨rfl, _⟩ := pv.rep.int_inv; obtain ⟨rfl, _⟩ := pw.rep.int_inv
    exact ⟨_, _, rfl, rfl, hl, hd.val pv.same (.int _)⟩
  | .pow => by
    refine OpR.weak' op_pow fun d e n m x y H0 H M Ox Zx Oy Zy z Q pv pw hz hd => ?_
    cases d <;> first | (cases hz; done) | skip
    cases e <;> first | (cases hz; done) | skip
    obtain ⟨hl, e⟩ := go_some (show go _ _ = _ from hz)
    cases e; obtain ⟨rfl, _⟩ := pv.rep.int_inv; obtain ⟨rfl, _⟩ := pw.rep.int_inv
    exact ⟨_, _, rfl, rfl, hl, hd.val pv.same (.int _)⟩
end

/-! ### items -/
theorem ix_eq (n : Nat) (i : Int) : ix n i = ixN n i := rfl
theorem Reps.atI {K : PySem.W.Frag} {CA : Nat → Addr} {H : Hp} {ds : List D} {vs : List V} {Z : List Addr} {i : Int} {d : D} (r : Reps K CA H 0 ds vs [] Z) (h : at? ds i = some d) :
    ∃ v Z1, L2.atI vs i = some v ∧ Rep K CA H 0 d v [] Z1 ∧ ∀ a ∈ Z1, a ∈ Z := by
  obtain ⟨j, hj, hd⟩ := Option.bind_eq_some_iff.mp h
  obtain ⟨v, Z1, e, q, hz⟩ := r.get0 j d hd
  refine ⟨v, Z1, ?_, q, hz⟩
  show (ixN vs.length i).bind _ = _
  rw [← r.length, ← ix_eq, hj]
  exact e
theorem IxR.weak {X : Cx} {r r' : R2} (h : IxR X r) (w : ∀ x y H Q, r' x y H Q → r x y H Q) : IxR X r' := fun va sl pins s σ H x y v u Q I rx ry q => h va sl pins s σ H x y v u Q I rx ry (w _ _ _ _ q)
theorem IxR.weak' {X : Cx} {CA : Nat → Addr} {W : WX} {σ0 : St} {g : D × Nat → D × Nat → Option (D × Nat)} {r : R2} (h : IxR X r)
    (w : ∀ (d e : D) (n m : Nat) x y H0 H (M : Addr → Prop) Ox Zx Oy Zy (z : D × Nat) (Q : VK), PVal X.K CA M H0 H d n x Ox Zx → PVal X.K CA M H0 H e m y Oy Zy → g (d, n) (e, m) = some z → Den X.K CA W M (.ok z) σ0 H0 Q → r x y H Q) : IxR X (r2 X CA W σ0 g) := by
  intro va sl pins s σ H x y v u Q I rx ry h' hs
  obtain ⟨H0, M, ⟨d, n⟩, ⟨e, m⟩, Ox, Zx, Oy, Zy, pv, pw, hd⟩ := h'
  obtain ⟨z, e', hd⟩ := Den.ofv hd
  exact h va sl pins s σ H x y v u Q I rx ry (w d e n m x y H0 H M Ox Zx Oy Zy z Q pv pw e' hd) hs
def subV (p q : D × Nat) : Option (D × Nat) := subD p.1 q.1
def rIxD : R2 := fun x y H Q => ∃ a v, x = .ref a ∧ DGet H a y (some v) ∧ Q v H
theorem ix_dict {X : Cx} {k : Nat} (hr : Room k X.A) : IxR X rIxD := by
  intro va sl pins s σ H x y v u Q I rx ry ⟨a, w, e, g, q⟩ hs
  subst e
  obtain rfl : v = Value.ref a := rx
  exact tail_any (dict_typeIs I g) PySem.F.slot_dict_getitem.lookup (d_getItem (hu_of hr) I g ry fun w' s3 I3 rw' => ⟨w, H, I3, rw', q⟩) hs
theorem ix_sub {X : Cx} {CA : Nat → Addr} {W : WX} {σ0 : St} {k : Nat} (hr : Room k X.A) : IxR X (r2 X CA W σ0 subV) := by
  refine IxR.weak' (ix_seq.or (ix_dict hr)) fun d e n m x y H0 H M Ox Zx Oy Zy z Q pv pw hz hd => ?_
  have hz : subD d e = some z := hz
  cases d <;> first | (cases hz; done) | skip
  · cases e <;> first | (cases hz; done) | skip
    obtain ⟨hl, e⟩ := go_some (show go _ _ = _ from hz)
    obtain ⟨c, e2, rfl⟩ := Option.map_eq_some_iff.mp e
    obtain ⟨rfl, _, _, b⟩ := pv.rep.str_inv; obtain ⟨rfl, _⟩ := pw.rep.int_inv
    refine .inl (.inr (.inr ⟨_, _, c, rfl, rfl, by rw [mkS_len, SZ_eq]; exact hl, by rw [mkS_tl]; exact e2, ?_⟩))
    have hc : c < 1114112 := by
      obtain ⟨j, _, hj⟩ := Option.bind_eq_some_iff.mp e2
      exact b c (List.mem_of_getElem? hj)
    exact hd.val pv.same (.str (s := [c]) fun a q => by simp at q; subst q; exact hc)
  · cases e <;> first | (cases hz; done) | skip
    obtain ⟨c, e, rfl⟩ := Option.map_eq_some_iff.mp hz
    obtain ⟨a, vs, Z0, e1, h1, r, z0⟩ := pv.tup_inv; obtain ⟨rfl, _⟩ := pw.rep.int_inv
    obtain ⟨v, Z1, q1, q2, q3⟩ := r.atI e
    exact .inl (.inr (.inl ⟨a, vs, _, v, e1, rfl, h1, q1, hd v H [] Z1 ⟨pv.same, q2, by simp, by simp, fun b q => z0 b (q3 b q), by simp⟩⟩))
  · cases e <;> first | (cases hz; done) | skip
    obtain ⟨c, e, rfl⟩ := Option.map_eq_some_iff.mp hz
    obtain ⟨a, vs, Z0, e1, h1, r, z0⟩ := pv.lst_inv; obtain ⟨rfl, _⟩ := pw.rep.int_inv
    obtain ⟨v, Z1, q1, q2, q3⟩ := r.atI e
    exact .inl (.inl ⟨a, vs, _, v, e1, rfl, .of h1, q1, hd v H [] Z1 ⟨pv.same, q2, by simp, by simp, fun b q => z0 b (q3 b q), by simp⟩⟩)
  · obtain ⟨h1, e'⟩ := go_some (show go _ _ = _ from hz)
    obtain ⟨p, e2, rfl⟩ := Option.map_eq_some_iff.mp e'
    obtain ⟨κ, hk⟩ := Option.isSome_iff_exists.mp h1
    obtain ⟨a, kvs, O', Z', m', rfl, hrd, hko, hrs, hO, hZ⟩ := pv.rep.dct_inv
    obtain ⟨h1, _, _⟩ := dct_find hk hko.1 hrs
    obtain ⟨v, O1, Z1, q1, q2, q3, q4⟩ := h1 p e2
    refine .inr ⟨a, v, rfl, .inl ⟨kvs, κ, hrd, vKey_kV hk pw.rep, q1.symm⟩, ?_⟩
    obtain ⟨O2, Z2, q5, l⟩ := q2.low (Nat.zero_le _)
    have := q5.zero
    subst this
    refine hd v H [] Z2 ⟨pv.same, q5.un0, by simp, by simp, fun b q => ?_, by simp⟩
    rcases l.all b q with z | z
    · exact .inl (pv.fresh b (hO b (q3 b z)))
    · exact pv.zin b (hZ b (q4 b z))
  · cases e <;> first | (cases hz; done) | skip
    obtain ⟨c, e, rfl⟩ := Option.map_eq_some_iff.mp hz
    obtain ⟨a, rfl, h1, _⟩ := pv.rep.scr_inv; obtain ⟨rfl, _⟩ := pw.rep.int_inv
    refine .inl (.inl ⟨a, _, _, .int c, rfl, rfl, h1.l, ?_, hd.val pv.same (.int _)⟩)
    obtain ⟨j, hj, hc⟩ := Option.bind_eq_some_iff.mp e
    show (ixN _ _).bind _ = _
    rw [List.length_map, ← ix_eq, hj]
    show (List.map V.int _)[j]? = _
    rw [List.getElem?_map, hc]; rfl

/-! ### slices -/
theorem cutV_cut (xs : List V) (lo hi : Option Int) : cutV xs lo hi = cut xs lo hi := by unfold cutV cut; rw [sx_eq, sx_eq]
theorem SlR.or {X : Cx} {r r' : V → Option Int → Option Int → Hp → VK → Prop} (h : SlR X r) (h' : SlR X r') : SlR X fun x l u H Q => r x l u H Q ∨ r' x l u H Q :=
  fun pins s σ H x v vl vu lo hi sl Q I rx hs pl pu q => q.elim (h pins s σ H x v vl vu lo hi sl Q I rx hs pl pu) (h' pins s σ H x v vl vu lo hi sl Q I rx hs pl pu)
theorem SlR.weak {X : Cx} {r r' : V → Option Int → Option Int → Hp → VK → Prop} (h : SlR X r) (w : ∀ x l u H Q, r' x l u H Q → r x l u H Q) : SlR X r' :=
  fun pins s σ H x v vl vu lo hi sl Q I rx hs pl pu q => h pins s σ H x v vl vu lo hi sl Q I rx hs pl pu (w _ _ _ _ _ q)
def rSl (X : Cx) (CA : Nat → Addr) (W : WX) (σ0 : St) : V → Option Int → Option Int → Hp → VK → Prop := fun x lo hi H Q => ∃ (H0 : Hp) (M : Addr → Prop) (p : D × Nat) (Ox Zx : List Addr), PVal X.K CA M H0 H p.1 p.2 x Ox Zx ∧ Den X.K CA W M (Out.of (slcD p.1 lo hi)) σ0 H0 Q
theorem Bd.cut {s : Cs} (h : Bd s) (lo hi : Option Int) : Bd (cut s lo hi) := fun c q => h c (List.mem_of_mem_drop (List.mem_of_mem_take q))
theorem mdepL_sub {xs ys : List D} (h : ∀ d ∈ ys, d ∈ xs) : mdepL ys ≤ mdepL xs := mdepL_le fun d hd => mdepL_mem (h d hd)
theorem lv1_sub {xs ys : List D} (h : ∀ d ∈ ys, d ∈ xs) : lv1 xs ≤ lv1 ys := by
  have := mdepL_sub h
  unfold lv1
  split <;> split <;> omega
theorem sl_all {X : Cx} {CA : Nat → Addr} {W : WX} {σ0 : St} : SlR X (rSl X CA W σ0) := by
  refine SlR.weak (SlR.or sl_list (SlR.or sl_tupA sl_str)) fun x lo hi H Q ⟨H0, M, ⟨d, n⟩, Ox, Zx, pv, hd⟩ => ?_
  obtain ⟨z, hz, hd'⟩ := Den.ofv hd
  replace hd := hd'
  clear hd'
  cases d <;> first | (cases hz; done) | skip
  · rename_i s
    obtain ⟨hl, e⟩ := go_some (show go _ _ = _ from hz)
    cases e
    obtain ⟨rfl, _, _, b⟩ := pv.rep.str_inv
    refine .inr (.inr ⟨_, rfl, by rw [mkS_len, SZ_eq]; exact hl, ?_⟩)
    have e : cutS (mkS s) lo hi = mkS (cut s lo hi) := by
      apply TL.ext_tl
      unfold cutS cut
      simp [mkS, Str.length, sx_eq]
    rw [e]
    exact hd.val pv.same (.str (b.cut _ _))
  · rename_i xs
    cases hz
    obtain ⟨a, vs, Z0, e1, h1, r, z0⟩ := pv.tup_inv
    subst e1
    obtain ⟨O1, Z1, r1, h3, h4⟩ := r.drop (sx xs.length 0 lo)
    obtain ⟨O2, Z2, r2, h5, h6⟩ := r1.take (sx xs.length xs.length hi - sx xs.length 0 lo)
    have : O2 = [] := r2.zero
    subst this
    have hc : cutV vs lo hi = (vs.drop (sx xs.length 0 lo)).take (sx xs.length xs.length hi - sx xs.length 0 lo) := by rw [cutV_cut, cut, ← r.length]
    refine .inr (.inl ⟨a, vs, rfl, h1, fun hw => ?_, fun hw p hp => ?_⟩)
    · rw [← sx_eq, ← sx_eq, ← r.length] at hw
      have e : cut xs lo hi = xs := by unfold cut; rw [hw.1, hw.2]; simp
      rw [e] at hd
      obtain ⟨O, Z, pp⟩ := PVal.sameTup pv.same r z0 h1
      exact hd _ _ _ _ pp
    · rw [hc]
      obtain ⟨O, Z, pp⟩ := PVal.newTup0 pv.same r2 (fun b q => z0 b (h4 b (h6 b q))) hp
      exact hd _ _ _ _ pp
  · rename_i xs
    cases hz
    obtain ⟨a, vs, Z0, e1, h1, r, z0⟩ := pv.lst_inv
    refine .inl ⟨a, vs, e1, .of h1, fun p hp => ?_⟩
    obtain ⟨O1, Z1, r1, h3, h4⟩ := r.drop (sx xs.length 0 lo)
    obtain ⟨O2, Z2, r2, h5, h6⟩ := r1.take (sx xs.length xs.length hi - sx xs.length 0 lo)
    have : O2 = [] := r2.zero
    subst this
    have hc : cutV vs lo hi = (vs.drop (sx xs.length 0 lo)).take (sx xs.length xs.length hi - sx xs.length 0 lo) := by rw [cutV_cut, cut, ← r.length]
    rw [hc]
    obtain ⟨O, Z, pp⟩ := PVal.newList pv.same r2 (fun b q => z0 b (h4 b (h6 b q))) hp
    obtain ⟨O', Z', p', _⟩ := pp.low (m := lv1 xs) (lv1_sub fun d hd => List.mem_of_mem_drop (List.mem_of_mem_take hd))
    exact hd _ _ _ _ p'
  · rename_i ns
    cases hz
    obtain ⟨a, rfl, h1, _⟩ := pv.rep.scr_inv
    refine .inl ⟨a, _, rfl, h1.l, fun p hp => ?_⟩
    have ri : ∀ l : List Int, Reps X.K CA H 0 (l.map D.int) (l.map V.int) [] [] := fun l => by
      induction l with
      | nil => exact .nil
      | cons i r ih => exact Reps.cons (O := []) (Z := []) (.int i) ih
    have hc : cutV (ns.map V.int) lo hi = (cut ns lo hi).map V.int := by
      rw [cutV_cut]; unfold cut; rw [List.length_map, List.map_take, List.map_drop]
    rw [hc]
    have hm : lv1 ((cut ns lo hi).map D.int) = 9 := by
      unfold lv1; rw [if_pos]
      exact Nat.le_zero.mp (mdepL_le fun d h => by obtain ⟨i, _, rfl⟩ := List.mem_map.mp h; simp [D.mdep])
    obtain ⟨O, Z, pp⟩ := PVal.newList pv.same (ri (cut ns lo hi)) (by simp) hp
    rw [hm] at pp
    exact hd _ _ _ _ pp
end Vy

namespace Vy
open PySem PySem.Spec
open PyProof.Rows hiding St
open L2

/-! ## rows of values -/
section
variable (K : PySem.W.Frag) (CA : Nat → Addr)
inductive PVs (M : Addr → Prop) (H H' : Hp) : List (D × Nat) → List V → List Addr → List Addr → Prop
  | nil : PVs M H H' [] [] [] []
  | cons {p v O Z ps vs O' Z'} : PVal K CA M H H' p.1 p.2 v O Z → PVs M H H' ps vs O' Z' → (∀ a ∈ O', a ∉ O ++ Z) → (∀ a ∈ O, a ∉ Z') → PVs M H H' (p :: ps) (v :: vs) (O ++ O') (Z ++ Z')
def DenL (W : WX) (M : Addr → Prop) (o : Out (List (D × Nat))) (σ : St) (H : Hp) (Q : List V → Hp → Prop) : Prop :=
  match o with
  | .ok ps => ∀ vs H' O Z, Same H H' → PVs K CA M H H' ps vs O Z → Q vs H'
  | .exc e => ∀ cls dd H', Same H H' → ExRep K CA e cls dd H' → W cls dd σ H'
  | .bad => False
end
section
variable {K : PySem.W.Frag} {CA : Nat → Addr} {S : Slots} {σ : St} {H H0 H1 H2 H' : Hp} {W : WX} {M M' Ma : Addr → Prop} {O Z : List Addr} {ps : List (D × Nat)} {vs : List V}
theorem PVs.mono (h : ∀ a, M a → M' a) (p : PVs K CA M H H' ps vs O Z) : PVs K CA M' H H' ps vs O Z := by
  induction p with
  | nil => exact .nil
  | cons q _ a b ih => exact .cons (q.mono h) ih a b
theorem PVs.later (p : PVs K CA M H H1 ps vs O Z) (s : Same H1 H2) : PVs K CA M H H2 ps vs O Z := by
  induction p with
  | nil => exact .nil
  | cons q _ a b ih => exact .cons (q.later s) ih a b
theorem PVs.ahead (s : Same H H1) (p : PVs K CA M H1 H2 ps vs O Z) : PVs K CA M H H2 ps vs O Z := by
  induction p with
  | nil => exact .nil
  | cons q _ a b ih => exact .cons (q.ahead s) ih a b
theorem PVs.fresh (p : PVs K CA M H H' ps vs O Z) : ∀ a ∈ O, H a = none := by
  induction p with
  | nil => simp
  | cons q _ a b ih => exact fun x h => (List.mem_append.mp h).elim (q.fresh x) (ih x)
theorem PVs.zin (p : PVs K CA M H H' ps vs O Z) : ∀ a ∈ Z, H a = none ∨ M a := by
  induction p with
  | nil => simp
  | cons q _ a b ih => exact fun x h => (List.mem_append.mp h).elim (q.zin x) (ih x)
theorem PVs.there (p : PVs K CA M H H' ps vs O Z) : ∀ a ∈ O ++ Z, H' a ≠ none := by
  induction p with
  | nil => simp
  | cons q _ a b ih =>
    intro x h
    simp only [List.mem_append] at h
    rcases h with (h | h) | h | h
    · exact q.rep.there x (by simp [h])
    · exact ih x (by simp [h])
    · exact q.rep.there x (by simp [h])
    · exact ih x (by simp [h])
theorem PVs.nd (p : PVs K CA M H H' ps vs O Z) : O.Nodup := by
  induction p with
  | nil => simp
  | cons q _ a b ih =>
    refine List.nodup_append.mpr ⟨q.nd, ih, fun x hx y hy e => ?_⟩
    subst e
    exact a x hy (by simp [hx])
theorem PVs.zo (p : PVs K CA M H H' ps vs O Z) : ∀ a ∈ Z, a ∉ O := by
  induction p with
  | nil => simp
  | cons q _ a b ih =>
    intro x h z
    rcases List.mem_append.mp h with h | h <;> rcases List.mem_append.mp z with z | z
    · exact q.zo x h z
    · exact a x z (by simp [h])
    · exact b x z h
    · exact ih x h z
theorem PVs.length (p : PVs K CA M H H' ps vs O Z) : ps.length = vs.length := by
  induction p with
  | nil => rfl
  | cons q _ a b ih => simp [ih]
/-- together, as a row of data at a level -/
theorem PVs.reps (p : PVs K CA M H H' ps vs O Z) : ∀ m, m ≤ lvL ps → ∃ O' Z', Reps K CA H' m (ps.map (·.1)) vs O' Z' ∧ Low O Z O' Z' := by
  induction p with
  | nil => exact fun m _ => ⟨[], [], .nil, .refl⟩
  | @cons q v O1 Z1 ps vs O2 Z2 pv _ a b ih =>
    intro m hm
    obtain ⟨d, n⟩ := q
    rw [lvL] at hm
    by_cases hd : d.mdep = 0
    · rw [if_pos hd] at hm
      obtain ⟨O', Z', r, l⟩ := ih m hm
      obtain ⟨e1, e2, r1⟩ := pv.rep.imm (m := m) hd
      subst e1; subst e2
      exact ⟨_, _, .cons r1 r, Low.append .refl l⟩
    · rw [if_neg hd] at hm
      obtain ⟨O', Z', r, l⟩ := ih m (by omega)
      obtain ⟨O3, Z3, r1, l1⟩ := pv.rep.low (m := m) (by show m ≤ n; omega)
      exact ⟨_, _, .cons r1 r, Low.append l1 l⟩
theorem PVs.reps0 (p : PVs K CA M H H' ps vs O Z) : ∃ Z', Reps K CA H' 0 (ps.map (·.1)) vs [] Z' ∧ ∀ a ∈ Z', H a = none ∨ M a := by
  obtain ⟨O', Z', r, l⟩ := p.reps 0 (Nat.zero_le _)
  have := r.zero
  subst this
  exact ⟨Z', r, fun a h => (l.all a h).elim (fun z => .inl (p.fresh a z)) (p.zin a)⟩
theorem DenL.seq {x : Out (List (D × Nat))} {f : List (D × Nat) → Out (D × Nat)} {Q : VK} {Q1 : List V → Hp → Prop} (s : Same H0 H1) (h : Den K CA W M (x.bind f) σ H0 Q)
    (k : ∀ ps vs H2 O Z, x = .ok ps → Same H1 H2 → PVs K CA Ma H1 H2 ps vs O Z → Den K CA W M (f ps) σ H0 Q → Q1 vs H2) : DenL K CA W Ma x σ H1 Q1 := by
  cases x with
  | ok p => exact fun vs H2 O Z s2 pv => k p vs H2 O Z rfl s2 pv h
  | exc e => exact fun cls dd H' s' r => h cls dd H' (s.trans s') r
  | bad => exact h
end

/-! ## the context of a body -/
structure Nm where
  N : List Str
  fn : Nat → Str
  gn : Nat → Str
  cn : Nat → Str
  mt : Nat → Option (Nat × Str)
/-- what the static scope tells of the names -/
structure ScOk (sc : Scope) (X : Cx) : Prop where
  loc : ∀ x, sc.names.lookup x = some .local → X.env.scope.names.lookup x = some .local
  cel : ∀ x, sc.names.lookup x = some .cell → X.env.scope.names.lookup x = some .cell ∧ X.fn x = true
  fre : ∀ x, sc.names.lookup x = some .free → X.env.scope.names.lookup x = some .free ∨ X.env.scope.names.lookup x = some .cell
  glo : ∀ x, sc.names.lookup x = some .globalImplicit → X.env.kindOf x = some .globalImplicit
/-- what a def of the table promises -/
def spF (K : PySem.W.Frag) (CA : Nat → Addr) (cf : Runs) (np : Nat) (f : Nat) : Sp := fun vs H Q E =>
  vs.length = np ∧ ∃ ds Z, Reps K CA H 0 ds vs [] Z ∧ Den K CA (fun cls dd _ H' => E cls dd H') (fun a => a ∈ Z) (cf f ds) [] H Q
/-- how a def is come to: by its name, or as a class's method -/
def Reach (K : PySem.W.Frag) (mg : Str → Option Value) (CA : Nat → Addr) (x : Str) (a : Addr) : Option (Nat × Str) → Prop
  | none => mg x = some (.ref a)
  | some (c, m) => Meth K (CA c) m a
structure FnRec (X : Cx) (CA : Nat → Addr) (cf : Runs) (k : Nat) (x : Str) (mt : Option (Nat × Str)) (f : Nat) (np : Nat) : Prop where
  ex : ∃ (a : Addr) (fd : FuncData) (ps : List Str), Reach X.K X.mg CA x a mt ∧ PySem.W.keepIn X.K (.ref a) = true ∧ Binds X.K fd ps [] ∧ ps.length = np ∧ FnOk X.prog X.w X.K X.mg X.base (L2.CX X.prog X.w) k a fd ps (spF X.K CA cf np f)
structure CtxOk (X : Cx) (nm : Nm) (G : Glo) (CA : Nat → Addr) (cf : Runs) (np : Nat → Option Nat) (bl : List Str) : Prop where
  N : X.N = nm.N
  nd : X.N.Nodup
  calm : X.calm = true
  lev : ∃ k, Room k X.A ∧ ∀ f n, np f = some n → FnRec X CA cf k (nm.fn f) (nm.mt f) f n
  blt : ∀ x ∈ bl, X.mg x = none
  glb : ∀ g d, G.gv g = some d → ∃ u v, X.mg (nm.gn g) = some u ∧ RelV v u ∧ ∀ H, Rep X.K CA H 9 d v [] []
end Vy

namespace Vy
open PySem PySem.Spec
open PyProof.Rows hiding St
open L2

theorem BoolOp_and2 : True := trivial
section
variable {X : Cx} {nm : Nm} {G : Glo} {CA : Nat → Addr} {cf : Runs} {W : WX}
/-- an expression's reading by values -/
def tE (X : Cx) (G : Glo) (CA : Nat → Addr) (cf : Runs) (W : WX) (c : C) : TE := fun σ H Q => ∃ S, SRep X.K CA S σ H ∧ Den X.K CA W (Nod S (names c)) (ev G cf (envOf S) c) σ H Q
def tL (X : Cx) (G : Glo) (CA : Nat → Addr) (cf : Runs) (W : WX) (cs : List C) : TA := fun σ H Q => ∃ S, SRep X.K CA S σ H ∧ DenL X.K CA W (Nod S (namesL cs)) (evs G cf (envOf S) cs) σ H Q
def DenB (K : PySem.W.Frag) (CA : Nat → Addr) (W : WX) (o : Out Bool) (σ : St) (H : Hp) (Q : Bool → Hp → Prop) : Prop :=
  match o with
  | .ok b => ∀ H', Same H H' → Q b H'
  | .exc e => ∀ cls dd H', Same H H' → ExRep K CA e cls dd H' → W cls dd σ H'
  | .bad => False
def evB (G : Glo) (cf : Runs) (ρ : Env) (c : C) : Out Bool := (ev G cf ρ c).bind fun x => .of (truth x.1)
def tT (X : Cx) (G : Glo) (CA : Nat → Addr) (cf : Runs) (W : WX) (c : C) : TT := fun σ H Q => ∃ S, SRep X.K CA S σ H ∧ DenB X.K CA W (evB G cf (envOf S) c) σ H Q


theorem envOf_get (S : Slots) (i : Nat) : ((envOf S)[i]?).bind id = ((S[i]?).bind id).map fun r => (r.d, r.n) := by
  unfold envOf
  rw [List.getElem?_map]
  cases S[i]? with
  | none => rfl
  | some o => cases o <;> rfl
theorem var_read {i : Nat} {σ : St} {H : Hp} {Q : VK} (h : tE X G CA cf W (.var i) σ H Q) : tVar i σ H Q := by
  obtain ⟨S, sr, hd⟩ := h
  obtain ⟨p, hp, hd⟩ := Den.ofv (show Den _ _ _ _ (Out.of _) _ _ _ from hd)
  rw [envOf_get] at hp
  obtain ⟨q, hq, e⟩ := Option.map_eq_some_iff.mp hp
  obtain ⟨r, hr, e2⟩ := Option.map_eq_some_iff.mp hq
  subst e2; subst e
  have hi : S[i]? = some (some r) := by
    cases h : S[i]? with
    | none => rw [h] at hr; cases hr
    | some o => rw [h] at hr; cases o with
      | none => cases hr
      | some r' => cases hr; rfl
  obtain ⟨h1, h2⟩ := sr.rep i r hi
  obtain ⟨O', Z', r', l⟩ := h2.low (Nat.zero_le _)
  have := r'.zero
  subst this
  exact ⟨r.v, h1, hd r.v H [] Z' ⟨Same.refl H, r', by simp, by simp, fun a q => .inr ⟨i, by simp [names], r, hi, by
    rcases l.all a q with z | z <;> simp [z]⟩, by simp⟩⟩
def bdB (s : Cs) : Bool := s.all (· < 1114112)
theorem e_var {i : Nat} {x : Str} {pos : Pos} (hN : X.N[i]? = some x) (hv : Vis X.env.scope x) (hd : (x == ("__debug__" : Str)) = false) (hcd : (x == ("__classdict__" : Str)) = false) : PE X (.Name x pos) (tE X G CA cf W (.var i)) := PE.weak (pe_var hN hv hd hcd) fun σ H Q h => var_read h
theorem bdB_ok {s : Cs} (h : bdB s = true) : Bd s := fun c q => by
  have := List.all_eq_true.mp h c q
  simpa using this
theorem e_int {i : Int} {j pos} : PE X (.Constant (.int i) j pos) (tE X G CA cf W (.cst (.int i))) := PE.weak pe_int fun σ H Q ⟨S, sr, hd⟩ => hd _ H [] [] (.imm (Same.refl H) (.int i))
theorem e_bl {b : Bool} {j pos} : PE X (.Constant (.bool b) j pos) (tE X G CA cf W (.cst (.bl b))) := PE.weak pe_bl fun σ H Q ⟨S, sr, hd⟩ => hd _ H [] [] (.imm (Same.refl H) (.bl b))
theorem e_non {j pos} : PE X (.Constant .none j pos) (tE X G CA cf W (.cst .non)) := PE.weak pe_non fun σ H Q ⟨S, sr, hd⟩ => hd _ H [] [] (.imm (Same.refl H) .non)
theorem e_str {x : Str} {s : Cs} {j pos} (e : x = mkS s) (h : bdB s = true) : PE X (.Constant (.str x) j pos) (tE X G CA cf W (.cst (.str s))) := by
  subst e
  exact PE.weak pe_str fun σ H Q ⟨S, sr, hd⟩ => hd _ H [] [] (.imm (Same.refl H) (.str (bdB_ok h)))
theorem e_glb {g : Nat} {x : Str} {pos : Pos} {np : Nat → Option Nat} {bl : List Str} (C : CtxOk X nm G CA cf np bl) (hx : x = nm.gn g) (hg : Gl X x) (hg' : (G.gv g).isSome = true) (hd : (x == ("__debug__" : Str)) = false) : PE X (.Name x pos) (tE X G CA cf W (.glb g)) := by
  obtain ⟨d, hd'⟩ := Option.isSome_iff_exists.mp hg'
  obtain ⟨u, v, h1, h2, h3⟩ := C.glb g d hd'
  subst hx
  refine PE.weak (pe_glob hg h1 h2 hd) fun σ H Q ⟨S, sr, hh⟩ => ?_
  have e : ev G cf (envOf S) (.glb g) = .ok (d, 9) := by simp [ev, hd']
  rw [e] at hh
  exact hh v H [] [] (.imm (Same.refl H) (h3 H))
theorem Nod.l {S : Slots} {is js : List Nat} {a : Addr} : Nod S is a → Nod S (is ++ js) a := Nod.mono fun i h => List.mem_append_left _ h
theorem Nod.r {S : Slots} {is js : List Nat} {a : Addr} : Nod S js a → Nod S (is ++ js) a := Nod.mono fun i h => List.mem_append_right _ h
/-- two in a row -/
theorem two {a b c : C} {f : D × Nat → D × Nat → Option (D × Nat)} (hn : names c = names a ++ names b) (he : ∀ ρ, ev G cf ρ c = (ev G cf ρ a).bind fun x => (ev G cf ρ b).bind fun y => .of (f x y)) {σ0 : St} {σ : St} {H : Hp} {Q : VK}
    (h : tE X G CA cf W c σ H Q) : tE X G CA cf W a σ H fun x H1 => tE X G CA cf W b σ H1 fun y H2 => r2 X CA W σ f x y H2 Q := by
  obtain ⟨S, sr, hd⟩ := h
  rw [he, hn] at hd
  refine ⟨S, sr, Den.seq (Same.refl H) hd fun p v H1 O Z e1 pv hd1 => ?_⟩
  refine ⟨S, sr.same pv.same, Den.seq pv.same hd1 fun q w H2 O' Z' e2 pw hd2 => ?_⟩
  exact ⟨H, _, p, q, O, Z, O', Z', (pv.later pw.same).mono fun a => Nod.l, (pw.ahead pv.same).mono fun a => Nod.r, hd2⟩
theorem e_bin {o : BO} {a b : C} {ea eb : Expr} {pos : Pos} (ha : PE X ea (tE X G CA cf W a)) (hb : PE X eb (tE X G CA cf W b)) : PE X (.BinOp ea o.op eb pos) (tE X G CA cf W (.bin o a b)) := by
  refine ⟨fun pins s σ H Q I h => ?_⟩
  exact (pe_op (op_bin (σ0 := σ) o) ha hb).run pins s σ H Q I (two rfl (fun ρ => by rw [ev]) (σ0 := σ) h)
theorem e_sub {a b : C} {ea eb : Expr} {pos : Pos} {k : Nat} (hr : Room k X.A) (ha : PE X ea (tE X G CA cf W a)) (hb : PE X eb (tE X G CA cf W b)) (hs : PlainIx eb) : PE X (.Subscript ea eb pos) (tE X G CA cf W (.sub a b)) := by
  refine ⟨fun pins s σ H Q I h => ?_⟩
  exact (pe_ix (ix_sub (σ0 := σ) hr) ha hb hs).run pins s σ H Q I (two (f := subV) rfl (fun ρ => by rw [ev]; rfl) (σ0 := σ) h)
theorem e_cmp {o : CO} {a b : C} {ea eb : Expr} {pos : Pos} {k : Nat} (hr : Room k X.A) (ha : PE X ea (tE X G CA cf W a)) (hb : PE X eb (tE X G CA cf W b)) (hm : behindInMarks o.op eb = false) : PE X (.Compare ea [o.op] [eb] pos) (tE X G CA cf W (.cmp o a b)) := by
  refine ⟨fun pins s σ H Q I h => ?_⟩
  exact (pe_cmpR (op_cmp (σ0 := σ) hr o) ha hb hm).run pins s σ H Q I (two (f := cmpV o) rfl (fun ρ => by rw [ev]; simp only [cmp_as]) (σ0 := σ) h)
/-- truth -/
theorem tru_of {d : D} {n : Nat} {v : V} {O Z : List Addr} {H : Hp} {b : Bool} (r : Rep X.K CA H n d v O Z) (h : truth d = some b) : TruV X.K v H b := by
  cases r with
  | non => cases h; rfl
  | bl => cases h; rfl
  | int => cases h; rfl
  | @str n s hb =>
    obtain ⟨hl, e⟩ : s.length ≤ SZ ∧ _ := by
      have h : (if s.length ≤ SZ then some (!s.isEmpty) else none) = some b := h
      split at h
      · exact ⟨by assumption, h⟩
      · cases h
    cases e
    refine ⟨by rw [mkS_len, SZ_eq]; exact hl, ?_⟩
    rw [mkS_len]
    cases s with
    | nil => rfl
    | cons c r => simp; omega
  | cls => cases h
  | scr e => cases h
  | tup e r => cases h; exact .inr (.inl ⟨_, e, by cases r <;> rfl⟩)
  | lstO e r => cases h; exact .inl ⟨_, .of e, by cases r <;> rfl⟩
  | lstZ e r => cases h; exact .inl ⟨_, .of e, by cases r <;> rfl⟩
  | dctO e r => cases h
  | dctZ e r => cases h
  | insO e r => cases h
  | insZ e r => cases h
  | fz _ _ _ => cases h
  | hol => cases h
end
end Vy

namespace Vy
open PySem PySem.Spec
open PyProof.Rows hiding St
open L2
section
variable {X : Cx} {nm : Nm} {G : Glo} {CA : Nat → Addr} {cf : Runs} {W : WX}

theorem DenB.seq {K : PySem.W.Frag} {CA : Nat → Addr} {σ : St} {H0 H1 : Hp} {Ma : Addr → Prop} {x : Out (D × Nat)} {f : D × Nat → Out Bool} {Q : Bool → Hp → Prop} {Q1 : VK} (s : Same H0 H1) (h : DenB K CA W (x.bind f) σ H0 Q)
    (k : ∀ p v H2 O Z, x = .ok p → PVal K CA Ma H1 H2 p.1 p.2 v O Z → DenB K CA W (f p) σ H0 Q → Q1 v H2) : Den K CA W Ma x σ H1 Q1 := by
  cases x with
  | ok p => exact fun v H2 O Z pv => k p v H2 O Z rfl pv h
  | exc e => exact fun cls dd H' s' r => h cls dd H' (s.trans s') r
  | bad => exact h
theorem DenB.seqB {K : PySem.W.Frag} {CA : Nat → Addr} {σ : St} {H0 H1 : Hp} {x : Out Bool} {f : Bool → Out Bool} {Q : Bool → Hp → Prop} {Q1 : Bool → Hp → Prop} (s : Same H0 H1) (h : DenB K CA W (x.bind f) σ H0 Q)
    (k : ∀ b H2, x = .ok b → Same H1 H2 → DenB K CA W (f b) σ H0 Q → Q1 b H2) : DenB K CA W x σ H1 Q1 := by
  cases x with
  | ok p => exact fun H2 s2 => k p H2 rfl s2 h
  | exc e => exact fun cls dd H' s' r => h cls dd H' (s.trans s') r
  | bad => exact h
theorem Den.seqB {K : PySem.W.Frag} {CA : Nat → Addr} {σ : St} {H0 H1 : Hp} {M : Addr → Prop} {x : Out Bool} {f : Bool → Out (D × Nat)} {Q : VK} {Q1 : Bool → Hp → Prop} (s : Same H0 H1) (h : Den K CA W M (x.bind f) σ H0 Q)
    (k : ∀ b H2, x = .ok b → Same H1 H2 → Den K CA W M (f b) σ H0 Q → Q1 b H2) : DenB K CA W x σ H1 Q1 := by
  cases x with
  | ok p => exact fun H2 s2 => k p H2 rfl s2 h
  | exc e => exact fun cls dd H' s' r => h cls dd H' (s.trans s') r
  | bad => exact h
theorem DenB.of {K : PySem.W.Frag} {CA : Nat → Addr} {σ : St} {H : Hp} {x : Option Bool} {Q : Bool → Hp → Prop} (h : DenB K CA W (Out.of x) σ H Q) : ∃ b, x = some b ∧ ∀ H', Same H H' → Q b H' := by
  cases x with
  | none => exact h.elim
  | some b => exact ⟨b, rfl, h⟩
theorem obind_assoc {α β γ : Type} (x : Out α) (f : α → Out β) (g : β → Out γ) : (x.bind f).bind g = x.bind fun a => (f a).bind g := by cases x <;> rfl
theorem obind_of {α β : Type} (x : Option α) (f : α → Option β) : ((Out.of x).bind fun a => Out.of (f a)) = Out.of (x.bind f) := by cases x <;> rfl

/-! ### tests -/
/-- a value's truth as a test -/
theorem t_val {c : C} {e : Expr} (h : PE X e (tE X G CA cf W c)) (he : ∀ whole, isTrue e X.env whole = (do let v ← whole; standAt e.pos; holding [v] (truthy v))) : PT X e (tT X G CA cf W c) := by
  refine PT.weak (pt_truth h he) fun σ H Q ⟨S, sr, hd⟩ => ?_
  refine ⟨S, sr, DenB.seq (Same.refl H) hd fun p v H2 O Z e1 pv hd => ?_⟩
  obtain ⟨b, hb, q⟩ := DenB.of hd
  exact ⟨b, tru_of pv.rep hb, q H2 pv.same⟩
theorem twoB {a b : C} {f : D × Nat → D × Nat → Option Bool} {x : Out Bool} {σ : St} {H : Hp} {Q : Bool → Hp → Prop} {S : Slots} (sr : SRep X.K CA S σ H) (he : x = (ev G cf (envOf S) a).bind fun p => (ev G cf (envOf S) b).bind fun q => .of (f p q))
    (h : DenB X.K CA W x σ H Q) : tE X G CA cf W a σ H fun x H1 => tE X G CA cf W b σ H1 fun y H2 => r2 X CA W σ (fun p q => (f p q).map fun r => (.bl r, 9)) x y H2 fun z H3 => ∃ k, z = .bl k ∧ Q k H3 := by
  rw [he] at h
  refine ⟨S, sr, DenB.seq (Same.refl H) h fun p v H1 O Z e1 pv hd1 => ?_⟩
  refine ⟨S, sr.same pv.same, DenB.seq pv.same hd1 fun q w H2 O' Z' e2 pw hd2 => ?_⟩
  refine ⟨H, Nod S (names a ++ names b), p, q, O, Z, O', Z', (pv.later pw.same).mono fun a => Nod.l, (pw.ahead pv.same).mono fun a => Nod.r, ?_⟩
  obtain ⟨r, hr, hq⟩ := DenB.of hd2
  show Den X.K CA W _ (Out.of ((f p q).map _)) σ H _
  rw [hr]
  intro v' H' O3 Z3 p3
  exact ⟨r, p3.rep.bl_inv.1, hq H' p3.same⟩
theorem t_cmp {o : CO} {a b : C} {ea eb : Expr} {pos : Pos} {k : Nat} (hr : Room k X.A) (ha : PE X ea (tE X G CA cf W a)) (hb : PE X eb (tE X G CA cf W b)) (hm : behindInMarks o.op eb = false) : PT X (.Compare ea [o.op] [eb] pos) (tT X G CA cf W (.cmp o a b)) := by
  refine ⟨fun pins s σ H Q I h => ?_⟩
  obtain ⟨S, sr, hd⟩ := h
  refine (pt_cmpR (op_cmp (CA := CA) (W := W) (σ0 := σ) hr o) ha hb hm).run pins s σ H Q I ?_
  refine twoB (f := fun p q => cmpD o p.1 q.1) sr ?_ hd
  unfold evB
  rw [ev, obind_assoc]
  congr 1; funext p
  rw [obind_assoc]
  congr 1; funext q
  cases cmpD o p.1 q.1 <;> rfl
theorem PVal.rest {K : PySem.W.Frag} {CA : Nat → Addr} {M : Addr → Prop} {H H' : Hp} {d : D} {n : Nat} {v : V} {O Z : List Addr} (p : PVal K CA M H H' d n v O Z) : ∃ Z', PVal K CA (fun _ => True) H' H' d 0 v [] Z' := by
  obtain ⟨O', Z', r, l⟩ := p.rep.low (Nat.zero_le _)
  have := r.zero
  subst this
  exact ⟨Z', Same.refl _, r, by simp, by simp, fun _ _ => .inr trivial, by simp⟩
theorem chn_ok {o o' : CO} {a b c : C} {σ : St} {H : Hp} {Q : VK} {S : Slots} (sr : SRep X.K CA S σ H) (h : Den X.K CA W (Nod S (names (.chn o o' a b c))) (ev G cf (envOf S) (.chn o o' a b c)) σ H Q) :
    tChain (r2 X CA W σ (cmpV o)) (r2 X CA W σ (cmpV o')) (tE X G CA cf W a) (tE X G CA cf W b) (tE X G CA cf W c) σ H Q := by
  rw [ev] at h
  refine ⟨S, sr, Den.seq (Same.refl H) h fun p v H1 O Z e1 pv hd1 => ?_⟩
  refine ⟨S, sr.same pv.same, Den.seq pv.same hd1 fun q w H2 O' Z' e2 pw hd2 => ?_⟩
  obtain ⟨Zp, p0⟩ := (pv.later pw.same).rest
  obtain ⟨Zq, q0⟩ := pw.rest
  refine ⟨H2, fun _ => True, (p.1, 0), (q.1, 0), [], Zp, [], Zq, p0, q0, ?_⟩
  obtain ⟨r, hr, hd3⟩ := Den.of hd2
  unfold cmpV
  rw [hr]
  intro v' H3 O3 Z3 p3
  refine ⟨r, p3.rep.bl_inv.1, ?_⟩
  have s23 : Same H2 H3 := p3.same
  have s3 : Same H H3 := (pv.same.trans pw.same).trans s23
  cases r with
  | false =>
    rw [if_neg (by decide)] at hd3 ⊢
    exact hd3.val s3 (.bl false)
  | true =>
    rw [if_pos rfl] at hd3 ⊢
    refine ⟨S, sr.same s3, Den.seq s3 hd3 fun z w' H4 O4 Z4 e4 pz hd4 => ?_⟩
    rw [cmp_as] at hd4
    exact ⟨H, Nod S (names (.chn o o' a b c)), q, z, _, _, _, _, ((pw.ahead pv.same).later (s23.trans pz.same)).mono fun a h => Nod.r (Nod.l h), (pz.ahead s3).mono fun a h => Nod.r (Nod.r h), hd4⟩
theorem e_chn {o o' : CO} {a b c : C} {ea eb ec : Expr} {pos : Pos} {k : Nat} (hr : Room k X.A) (ha : PE X ea (tE X G CA cf W a)) (hb : PE X eb (tE X G CA cf W b)) (hc : PE X ec (tE X G CA cf W c)) (hm : lastMarks [o.op, o'.op] [eb, ec] = false) : PE X (.Compare ea [o.op, o'.op] [eb, ec] pos) (tE X G CA cf W (.chn o o' a b c)) := by
  refine ⟨fun pins s σ H Q I ⟨S, sr, h⟩ => ?_⟩
  exact (pe_chain (op_cmp (CA := CA) (W := W) (σ0 := σ) hr o) (op_cmp (CA := CA) (W := W) (σ0 := σ) hr o') ha hb hc hm).run pins s σ H Q I (chn_ok sr h)
theorem chn_val {o o' : CO} {a b c : C} {ρ : Env} {p : D × Nat} (h : ev G cf ρ (.chn o o' a b c) = .ok p) : ∃ r, p = (.bl r, 9) := by
  rw [ev] at h
  obtain ⟨x, _, h⟩ := Out.bind_eq_ok h
  obtain ⟨y, _, h⟩ := Out.bind_eq_ok h
  obtain ⟨r, _, h⟩ := Out.bind_eq_ok h
  split at h
  · obtain ⟨z, _, h⟩ := Out.bind_eq_ok h
    obtain ⟨q, _, h⟩ := Out.bind_eq_ok h
    cases h; exact ⟨_, rfl⟩
  · cases h; exact ⟨_, rfl⟩
/-- a comparison's own value, as a test -/
theorem as_test {c : C} {S : Slots} {σ : St} {H : Hp} {Q : Bool → Hp → Prop} (hv : ∀ p, ev G cf (envOf S) c = .ok p → ∃ r, p = (.bl r, 9)) (h : DenB X.K CA W (evB G cf (envOf S) c) σ H Q) :
    Den X.K CA W (Nod S (names c)) (ev G cf (envOf S) c) σ H fun z H3 => ∃ k, z = .bl k ∧ Q k H3 := by
  unfold evB at h
  cases e : ev G cf (envOf S) c with
  | ok p =>
    obtain ⟨r, rfl⟩ := hv p e
    rw [e] at h
    intro v' H' O Z pv
    exact ⟨r, pv.rep.bl_inv.1, h H' pv.same⟩
  | exc x => rw [e] at h; exact h
  | bad => rw [e] at h; exact h
theorem t_chn {o o' : CO} {a b c : C} {ea eb ec : Expr} {pos : Pos} {k : Nat} (hr : Room k X.A) (ha : PE X ea (tE X G CA cf W a)) (hb : PE X eb (tE X G CA cf W b)) (hc : PE X ec (tE X G CA cf W c)) (hm : lastMarks [o.op, o'.op] [eb, ec] = false) : PT X (.Compare ea [o.op, o'.op] [eb, ec] pos) (tT X G CA cf W (.chn o o' a b c)) := by
  refine ⟨fun pins s σ H Q I ⟨S, sr, h⟩ => ?_⟩
  exact (pt_chain (op_cmp (CA := CA) (W := W) (σ0 := σ) hr o) (op_cmp (CA := CA) (W := W) (σ0 := σ) hr o') ha hb hc hm).run pins s σ H Q I (chn_ok sr (as_test (fun p => chn_val) h))
theorem evB_not (ρ : Env) (a : C) : evB G cf ρ (.not a) = (evB G cf ρ a).bind fun b => .ok (!b) := by
  unfold evB; rw [ev, obind_assoc, obind_assoc]
  congr 1; funext x
  cases truth x.1 <;> rfl
theorem evB_and (ρ : Env) (a b : C) : evB G cf ρ (.and a b) = (evB G cf ρ a).bind fun r => if r = true then evB G cf ρ b else .ok false := by
  unfold evB; rw [ev, obind_assoc, obind_assoc]
  congr 1; funext x
  cases e : truth x.1 with
  | none => rfl
  | some r => cases r <;> simp [e]
theorem evB_or (ρ : Env) (a b : C) : evB G cf ρ (.or a b) = (evB G cf ρ a).bind fun r => if r = true then .ok true else evB G cf ρ b := by
  unfold evB; rw [ev, obind_assoc, obind_assoc]
  congr 1; funext x
  cases e : truth x.1 with
  | none => rfl
  | some r => cases r <;> simp [e]
theorem t_not {a : C} {ea : Expr} {pos : Pos} (ha : PT X ea (tT X G CA cf W a)) : PT X (.UnaryOp .Not ea pos) (tT X G CA cf W (.not a)) := by
  refine PT.weak (pt_not ha) fun σ H Q ⟨S, sr, h⟩ => ?_
  rw [evB_not] at h
  exact ⟨S, sr, DenB.seqB (Same.refl H) h fun b H2 _ s2 hd => hd H2 s2⟩
theorem t_and {a b : C} {ea eb : Expr} {rest : List Expr} {pos : Pos} (ha : PT X ea (tT X G CA cf W a)) (hb : PW X (.BoolOp .And (eb :: rest) pos) (tT X G CA cf W b)) : PW X (.BoolOp .And (ea :: eb :: rest) pos) (tT X G CA cf W (.and a b)) := by
  refine ⟨fun wh pins s σ H Q I ⟨S, sr, h⟩ => (pw_and ha hb).run wh pins s σ H Q I ?_⟩
  rw [evB_and] at h
  refine ⟨S, sr, DenB.seqB (Same.refl H) h fun r H2 _ s2 hd => ?_⟩
  cases r with
  | true => rw [if_pos rfl] at hd ⊢; exact ⟨S, sr.same s2, by cases e : evB G cf (envOf S) b with
    | ok x => rw [e] at hd; exact fun H' s' => hd H' (s2.trans s')
    | exc x => rw [e] at hd; exact fun cls dd H' s' r => hd cls dd H' (s2.trans s') r
    | bad => rw [e] at hd; exact hd⟩
  | false => rw [if_neg (by decide)] at hd ⊢; exact hd H2 s2
theorem t_or {a b : C} {ea eb : Expr} {rest : List Expr} {pos : Pos} (ha : PT X ea (tT X G CA cf W a)) (hb : PW X (.BoolOp .Or (eb :: rest) pos) (tT X G CA cf W b)) : PW X (.BoolOp .Or (ea :: eb :: rest) pos) (tT X G CA cf W (.or a b)) := by
  refine ⟨fun wh pins s σ H Q I ⟨S, sr, h⟩ => (pw_or ha hb).run wh pins s σ H Q I ?_⟩
  rw [evB_or] at h
  refine ⟨S, sr, DenB.seqB (Same.refl H) h fun r H2 _ s2 hd => ?_⟩
  cases r with
  | false => rw [if_neg (by decide)] at hd ⊢; exact ⟨S, sr.same s2, by cases e : evB G cf (envOf S) b with
    | ok x => rw [e] at hd; exact fun H' s' => hd H' (s2.trans s')
    | exc x => rw [e] at hd; exact fun cls dd H' s' r => hd cls dd H' (s2.trans s') r
    | bad => rw [e] at hd; exact hd⟩
  | true => rw [if_pos rfl] at hd ⊢; exact hd H2 s2
theorem t_and1 {b : C} {eb : Expr} {pos : Pos} (hb : PT X eb (tT X G CA cf W b)) : PW X (.BoolOp .And [eb] pos) (tT X G CA cf W b) := pw_and1 hb
theorem t_or1 {b : C} {eb : Expr} {pos : Pos} (hb : PT X eb (tT X G CA cf W b)) : PW X (.BoolOp .Or [eb] pos) (tT X G CA cf W b) := pw_or1 hb

/-! ### and, or, not as values -/
theorem e_not {a : C} {ea : Expr} {pos : Pos} (ha : PE X ea (tE X G CA cf W a)) : PE X (.UnaryOp .Not ea pos) (tE X G CA cf W (.not a)) := by
  refine PE.weak (pe_notT ha) fun σ H Q ⟨S, sr, h⟩ => ?_
  rw [ev] at h
  refine ⟨S, sr, Den.seq (Same.refl H) h fun p v H2 O Z e1 pv hd => ?_⟩
  obtain ⟨b, hb, hd⟩ := Den.of hd
  exact ⟨b, tru_of pv.rep hb, hd.val pv.same (.bl _)⟩
theorem e_neg {a : C} {ea : Expr} {pos : Pos} (ha : PE X ea (tE X G CA cf W a)) : PE X (.UnaryOp .USub ea pos) (tE X G CA cf W (.neg a)) := by
  refine PE.weak (pe_un un_neg ha) fun σ H Q ⟨S, sr, h⟩ => ?_
  rw [ev] at h
  refine ⟨S, sr, Den.seq (Same.refl H) h fun p v H2 O Z e1 pv hd => ?_⟩
  obtain ⟨d, n⟩ := p
  cases d <;> first | exact hd.elim | skip
  obtain ⟨rfl, _⟩ := pv.rep.int_inv
  exact ⟨_, rfl, hd.val pv.same (.int _)⟩
theorem e_and {a b : C} {ea eb : Expr} {rest : List Expr} {pos : Pos} (ha : PE X ea (tE X G CA cf W a)) (hb : PE X (.BoolOp .And (eb :: rest) pos) (tE X G CA cf W b)) : PE X (.BoolOp .And (ea :: eb :: rest) pos) (tE X G CA cf W (.and a b)) := by
  refine PE.weak (pe_andT ha hb) fun σ H Q ⟨S, sr, h⟩ => ?_
  rw [ev] at h
  refine ⟨S, sr, Den.seq (Same.refl H) h fun p v H2 O Z e1 pv hd => ?_⟩
  obtain ⟨r, hb, hd⟩ := Den.of hd
  refine ⟨r, tru_of pv.rep hb, ?_⟩
  cases r with
  | true => rw [if_pos rfl] at hd ⊢; exact ⟨S, sr.same pv.same, Den.pass pv.same (fun a => Nod.r) hd⟩
  | false => rw [if_neg (by decide)] at hd ⊢; exact hd v H2 O Z (pv.mono fun a => Nod.l)
theorem e_or {a b : C} {ea eb : Expr} {rest : List Expr} {pos : Pos} (ha : PE X ea (tE X G CA cf W a)) (hb : PE X (.BoolOp .Or (eb :: rest) pos) (tE X G CA cf W b)) : PE X (.BoolOp .Or (ea :: eb :: rest) pos) (tE X G CA cf W (.or a b)) := by
  refine PE.weak (pe_orT ha hb) fun σ H Q ⟨S, sr, h⟩ => ?_
  rw [ev] at h
  refine ⟨S, sr, Den.seq (Same.refl H) h fun p v H2 O Z e1 pv hd => ?_⟩
  obtain ⟨r, hb, hd⟩ := Den.of hd
  refine ⟨r, tru_of pv.rep hb, ?_⟩
  cases r with
  | false => rw [if_neg (by decide)] at hd ⊢; exact ⟨S, sr.same pv.same, Den.pass pv.same (fun a => Nod.r) hd⟩
  | true => rw [if_pos rfl] at hd ⊢; exact hd v H2 O Z (pv.mono fun a => Nod.l)
theorem e_one {o : PySem.BoolOp} {b : C} {eb : Expr} {pos : Pos} (hb : PE X eb (tE X G CA cf W b)) : PE X (.BoolOp o [eb] pos) (tE X G CA cf W b) := pe_one hb
theorem e_ife {t a b : C} {et ea eb : Expr} {pos : Pos} (ht : PT X et (tT X G CA cf W t)) (ha : PE X ea (tE X G CA cf W a)) (hb : PE X eb (tE X G CA cf W b)) : PE X (.IfExp et ea eb pos) (tE X G CA cf W (.ife t a b)) := by
  refine PE.weak (pe_ifExp ht ha hb) fun σ H Q ⟨S, sr, h⟩ => ?_
  rw [ev, ← obind_assoc] at h
  refine ⟨S, sr, Den.seqB (x := evB G cf (envOf S) t) (Same.refl H) h fun r H2 _ s2 hd => ?_⟩
  cases r with
  | true => rw [if_pos rfl] at hd ⊢; exact ⟨S, sr.same s2, Den.pass s2 (fun a h => Nod.r (Nod.l h)) hd⟩
  | false => rw [if_neg (by decide)] at hd ⊢; exact ⟨S, sr.same s2, Den.pass s2 (fun a h => Nod.r (Nod.r h)) hd⟩

/-! ### rows -/
theorem a_nil : PA X [] (tL X G CA cf W []) := PA.weak pa_nil fun σ H Q ⟨S, sr, h⟩ => h [] H [] [] (Same.refl H) .nil
theorem Nod.there {S : Slots} {σ : St} {H : Hp} (sr : SRep X.K CA S σ H) {is : List Nat} {a : Addr} (h : Nod S is a) : H a ≠ none := by
  obtain ⟨i, _, r, e, q⟩ := h
  exact (sr.rep i r e).2.there a q
theorem a_cons {c : C} {cs : List C} {e : Expr} {es : List Expr} (ha : PE X e (tE X G CA cf W c)) (hr : PA X es (tL X G CA cf W cs)) (hs : starEach (e :: es) X.env = (false, eval e X.env) :: starEach es X.env) : PA X (e :: es) (tL X G CA cf W (c :: cs)) := by
  refine PA.weak (pa_cons ha hr hs) fun σ H Q ⟨S, sr, h⟩ => ?_
  rw [evs] at h
  have key : ∀ {α : Type} (x : Out α), True := fun _ => trivial
  refine ⟨S, sr, ?_⟩
  cases e1 : ev G cf (envOf S) c with
  | exc x => rw [e1] at h; exact h
  | bad => rw [e1] at h; exact h
  | ok p =>
    rw [e1] at h
    simp only [Out.bind_ok] at h
    intro v H1 O Z pv
    refine ⟨S, sr.same pv.same, ?_⟩
    cases e2 : evs G cf (envOf S) cs with
    | exc x => rw [e2] at h; exact fun cls dd H' s' r => h cls dd H' (pv.same.trans s') r
    | bad => rw [e2] at h; exact h
    | ok ps =>
      rw [e2] at h
      intro vs H2 O' Z' s2 pw
      refine h _ _ _ _ (pv.same.trans s2) (.cons ((pv.later s2).mono fun a => Nod.l) ((pw.ahead pv.same).mono fun a => Nod.r) (fun a ha hb => ?_) fun a ha hb => ?_)
      · exact pv.rep.there a hb (pw.fresh a ha)
      · rcases pw.zin a hb with z | z
        · exact pv.rep.there a (by simp [ha]) z
        · exact Nod.there sr z (pv.fresh a ha)
theorem e_tup {cs : List C} {es : List Expr} {x1} {pos : Pos} (ha : PA X es (tL X G CA cf W cs)) : PE X (.Tuple es x1 pos) (tE X G CA cf W (.tup cs)) := by
  refine PE.weak (pe_tup ha) fun σ H Q ⟨S, sr, h⟩ => ?_
  rw [ev] at h
  refine ⟨S, sr, DenL.seq (Same.refl H) h fun ps vs H2 O Z e1 s2 pv hd => ?_⟩
  obtain ⟨hl, hd⟩ := hd.gd
  refine ⟨by rw [← pv.length, SZ_eq]; exact hl, fun p hp => ?_⟩
  have k : Same H2 (upd H2 p (.tup vs)) := sameNew hp
  obtain ⟨O', Z', r, l⟩ := pv.reps (lvL ps) (Nat.le_refl _)
  exact hd _ _ O' Z' ⟨s2.trans k, .tup (.of upd_same) (r.same k), fun a q => pv.fresh a (l.own a q), l.nd pv.nd, fun a q => (l.all a q).elim (fun z => .inl (pv.fresh a z)) (pv.zin a), l.zo pv.nd pv.zo⟩
theorem lst_read {cs : List C} {σ : St} {H : Hp} {Q : VK} (h : tE X G CA cf W (.lst cs) σ H Q) : tLst (tL X G CA cf W cs) σ H Q := by
  obtain ⟨S, sr, h⟩ := h
  rw [ev] at h
  refine ⟨S, sr, DenL.seq (Same.refl H) h fun ps vs H2 O Z e1 s2 pv hd => ?_⟩
  obtain ⟨hl, hd⟩ := hd.gd
  refine ⟨by rw [← pv.length, SZ_eq]; exact hl, fun p hp => ?_⟩
  have k : Same H2 (upd H2 p (.lst vs)) := sameNew hp
  obtain ⟨O', Z', r, l⟩ := pv.reps (lvL ps) (Nat.le_refl _)
  have hn : ∀ a ∈ O ++ Z, a ≠ p := fun a q e => pv.there a q (by rw [e]; exact hp)
  refine hd _ _ (p :: O') Z' ⟨s2.trans k, .lstO upd_same (r.same k), fun a q => ?_, ?_, fun a q => (l.all a q).elim (fun z => .inl (pv.fresh a z)) (pv.zin a), fun a q z => ?_⟩
  · rcases List.mem_cons.mp q with rfl | q
    · exact same_none s2 hp
    · exact pv.fresh a (l.own a q)
  · exact List.nodup_cons.mpr ⟨fun q => hn p (by simp [l.own p q]) rfl, l.nd pv.nd⟩
  · rcases List.mem_cons.mp z with rfl | z
    · exact hn a (by rcases l.all a q with w | w <;> simp [w]) rfl
    · exact l.zo pv.nd pv.zo a q z
theorem e_lst {cs : List C} {es : List Expr} {pos : Pos} (ha : PA X es (tL X G CA cf W cs)) : PE X (.List es pos) (tE X G CA cf W (.lst cs)) := PE.weak (pe_lst ha) fun σ H Q h => lst_read h
theorem e_dct0 {pos : Pos} : PE X (.Dict [] [] pos) (tE X G CA cf W (.dct [] [])) := by
  refine PE.weak pe_dnewK fun σ H Q ⟨S, sr, h⟩ p hp => ?_
  have e : ev G cf (envOf S) (.dct [] []) = .ok (.dct [] [], 10) := by simp [ev, evs, dispD, unpair, go, keysOk, lvL]
  rw [e] at h
  exact h _ _ [p] [] ⟨sameNew hp, .dctO (n := 9) upd_same ⟨rfl, by simp, by simp⟩ .nil, by simpa using hp, by simp, by simp, by simp⟩
end
end Vy

namespace Vy
open PySem PySem.Spec
open PyProof.Rows hiding St
open L2
/-! ### no star -/
def noStar : Expr → Bool
  | .Starred _ _ => false
  | _ => true
theorem star_cons {e : Expr} {es : List Expr} {env : PySem.Env} (h : noStar e = true) : starEach (e :: es) env = (false, eval e env) :: starEach es env := by
  cases e <;> first | rfl | (cases h)
theorem star_all {env : PySem.Env} : ∀ {es : List Expr}, es.all noStar = true → ∀ x ∈ starEach es env, x.1 = false
  | [], _, x, hx => by cases hx
  | e :: es, h, x, hx => by
    rw [List.all_cons, Bool.and_eq_true] at h
    rw [star_cons h.1] at hx
    rcases List.mem_cons.mp hx with rfl | hx
    · rfl
    · exact star_all h.2 x hx

theorem back_any {env : PySem.Env} {es : List Expr} {pos : Pos} (h : es.all noStar = true) : (backTo pos (starEach es env)).any (·.1) = false := by
  rw [List.any_eq_false]
  intro x hx
  obtain ⟨y, hy, rfl⟩ := List.mem_map.mp hx
  simp [star_all h y hy]
theorem back_few {env : PySem.Env} {es : List Expr} {pos : Pos} (h : es.all noStar = true) (hl : es.length < 30) :
    ((backTo pos (starEach es env)).all (fun x => !x.1) && (backToKw pos (keywordEach [] env)).all (fun x => x.1.isSome)
      && decide (es.length + ([] : List Keyword).length + (if ([] : List Keyword).isEmpty then 0 else 1) < 30)) = true := by
  rw [Bool.and_eq_true, Bool.and_eq_true]
  refine ⟨⟨?_, rfl⟩, by simpa using hl⟩
  rw [List.all_eq_true]
  intro x hx
  obtain ⟨y, hy, rfl⟩ := List.mem_map.mp hx
  simp [star_all h y hy]
theorem back_one {env : PySem.Env} {e : Expr} {pos : Pos} (h : noStar e = true) : backTo pos (starEach [e] env) = [(false, eval e env)] := by
  rw [star_cons h]; rfl
theorem back_two {env : PySem.Env} {e f : Expr} {pos : Pos} (h : noStar e = true) (h' : noStar f = true) : backTo pos (starEach [e, f] env) = [(false, eval e env), (false, eval f env)] := by
  rw [star_cons h, star_cons h']; rfl
/-- no call of super in front of a method -/
def noSup : Expr → Bool
  | .Call (.Name _ _) [] [] _ => false
  | _ => true
theorem base_ok {o : Expr} {m : Str} {env : PySem.Env} (h : noSup o = true) : attributeBase o m env (eval o env) = eval o env := by
  unfold attributeBase
  split
  · simp [noSup] at h
  · rfl
section
variable {X : Cx} {nm : Nm} {G : Glo} {CA : Nat → Addr} {cf : Runs} {W : WX}
/-! ### slices -/
def tO (X : Cx) (G : Glo) (CA : Nat → Addr) (cf : Runs) (W : WX) (c : Option C) : TO := fun σ H Q => ∃ S, SRep X.K CA S σ H ∧ (match evo G cf (envOf S) c with
  | .ok o => ∀ H', Same H H' → Q o H'
  | .exc e => ∀ cls dd H', Same H H' → ExRep X.K CA e cls dd H' → W cls dd σ H'
  | .bad => False)
theorem o_none : PO X none (tO X G CA cf W none) := ⟨fun pins s σ H Q I ⟨S, sr, h⟩ => po_none.run pins s σ H Q I (h H (Same.refl H))⟩
theorem o_some {c : C} {e : Expr} (h : PE X e (tE X G CA cf W c)) : PO X (some e) (tO X G CA cf W (some c)) := by
  refine ⟨fun pins s σ H Q I ⟨S, sr, hd⟩ => (po_some h).run pins s σ H Q I ?_⟩
  rw [evo] at hd
  refine ⟨S, sr, ?_⟩
  cases e1 : ev G cf (envOf S) c with
  | exc x => rw [e1] at hd; exact hd
  | bad => rw [e1] at hd; exact hd
  | ok p =>
    rw [e1] at hd
    intro v H1 O Z pv
    obtain ⟨d, n⟩ := p
    cases d <;> first | exact hd.elim | skip
    exact ⟨_, pv.rep.int_inv.1, hd H1 pv.same⟩
theorem e_slc {a : C} {lo hi : Option C} {ea : Expr} {elo ehi : Option Expr} {p2 pos : Pos} (ha : PE X ea (tE X G CA cf W a)) (hl : PO X elo (tO X G CA cf W lo)) (hh : PO X ehi (tO X G CA cf W hi)) : PE X (.Subscript ea (.Slice elo ehi none p2) pos) (tE X G CA cf W (.slc a lo hi)) := by
  refine ⟨fun pins s σ H Q I ⟨S, sr, h⟩ => (pe_slice (sl_all (CA := CA) (W := W) (σ0 := σ)) ha hl hh).run pins s σ H Q I ?_⟩
  rw [ev] at h
  refine ⟨S, sr, Den.seq (Same.refl H) h fun p v H1 O Z e1 pv hd1 => ⟨S, sr.same pv.same, ?_⟩⟩
  cases e2 : evo G cf (envOf S) lo with
  | exc x => rw [e2] at hd1; exact fun cls dd H' s' r => hd1 cls dd H' (pv.same.trans s') r
  | bad => rw [e2] at hd1; exact hd1
  | ok l =>
    rw [e2] at hd1
    intro H2 s2
    refine ⟨S, sr.same (pv.same.trans s2), ?_⟩
    simp only [Out.bind_ok] at hd1
    cases e3 : evo G cf (envOf S) hi with
    | exc x => rw [e3] at hd1; exact fun cls dd H' s' r => hd1 cls dd H' ((pv.same.trans s2).trans s') r
    | bad => rw [e3] at hd1; exact hd1
    | ok u =>
      rw [e3] at hd1
      intro H3 s3
      exact ⟨H, _, p, O, Z, (pv.later (s2.trans s3)).mono fun a => Nod.l, hd1⟩
/-! ### calls of defs -/
theorem spF_of {f np : Nat} {cs : List C} {σ : St} {H : Hp} {Q : VK} {S : Slots} (sr : SRep X.K CA S σ H) (hn : cs.length = np) (h : Den X.K CA W (Nod S (names (.cal f cs))) (ev G cf (envOf S) (.cal f cs)) σ H Q) :
    tL X G CA cf W cs σ H fun vs H1 => spF X.K CA cf np f vs H1 Q (WE W σ) := by
  rw [ev] at h
  refine ⟨S, sr, DenL.seq (Same.refl H) h fun ps vs H2 O Z e1 s2 pv hd => ?_⟩
  obtain ⟨Z', r, hz⟩ := pv.reps0
  have hl : cs.length = ps.length := by
    clear h hd
    have : ∀ (cs : List C) (ps : List (D × Nat)), evs G cf (envOf S) cs = .ok ps → cs.length = ps.length := by
      intro cs
      induction cs with
      | nil => intro ps h; rw [evs] at h; cases h; rfl
      | cons c cs ih =>
        intro ps h
        rw [evs] at h
        obtain ⟨x, _, h⟩ := Out.bind_eq_ok h
        obtain ⟨xs, h2, h⟩ := Out.bind_eq_ok h
        cases h
        simp [ih xs h2]
    exact this cs ps e1
  refine ⟨by rw [← pv.length, ← hl, hn], ps.map (·.1), Z', r, ?_⟩
  cases e2 : cf f (ps.map (·.1)) with
  | bad => rw [e2] at hd; exact hd
  | exc x => rw [e2] at hd; exact fun cls dd H' s' q => hd cls dd H' (s2.trans s') q
  | ok q =>
    rw [e2] at hd
    intro v H' O' Z'' pw
    refine hd v H' O' Z'' ⟨s2.trans pw.same, pw.rep, fun a q => same_none s2 (pw.fresh a q), pw.nd, fun a q => ?_, pw.zo⟩
    rcases pw.zin a q with z | z
    · exact .inl (same_none s2 z)
    · exact hz a z
theorem e_cal0 {np : Nat → Option Nat} {bl : List Str} {f n : Nat} {x : Str} {p pos : Pos} (C : CtxOk X nm G CA cf np bl) (tk : Takes X W) (hf : np f = some n) (hx : x = nm.fn f) (hmt : nm.mt f = none) (hn : 0 = n) (hg : Gl X x)
    (hdb : (x == ("__debug__" : Str)) = false) : PE X (.Call (.Name x p) [] [] pos) (tE X G CA cf W (.cal f [])) := by
  obtain ⟨k, hr, hF⟩ := C.lev
  obtain ⟨a, fd, ps, h1, h2, h3, h4, h5⟩ := (hF f n hf).ex
  rw [hmt] at h1
  replace h1 : X.mg (nm.fn f) = some (.ref a) := h1
  rw [← hx] at h1
  refine ⟨fun pins s σ H Q I ⟨S, sr, h⟩ => ?_⟩
  refine wpAny_Call_Name_kw (ld_glob I hg h1 ?_ hdb)
  refine PySem.W.callWith_K0 I.kIn h2 ?_
  obtain ⟨S', sr', q⟩ := spF_of (W := W) (np := n) sr (by simpa using hn) h
  exact run_fnS (us := []) h5 hr h3 (passAt tk σ) I .nil (q [] H [] [] (Same.refl H) .nil)
theorem e_cal {np : Nat → Option Nat} {bl : List Str} {f n : Nat} {x : Str} {cs : List C} {e : Expr} {es : List Expr} {p pos : Pos} (C : CtxOk X nm G CA cf np bl) (tk : Takes X W) (hf : np f = some n) (hx : x = nm.fn f) (hmt : nm.mt f = none) (hn : cs.length = n) (hg : Gl X x)
    (ha : PA X (e :: es) (tL X G CA cf W cs)) (hdb : (x == ("__debug__" : Str)) = false) (hs : (e :: es).all noStar = true) : PE X (.Call (.Name x p) (e :: es) [] pos) (tE X G CA cf W (.cal f cs)) := by
  obtain ⟨k, hr, hF⟩ := C.lev
  obtain ⟨a, fd, ps, h1, h2, h3, h4, h5⟩ := (hF f n hf).ex
  rw [hmt] at h1
  replace h1 : X.mg (nm.fn f) = some (.ref a) := h1
  rw [← hx] at h1
  rw [List.all_cons, Bool.and_eq_true] at hs
  refine PE.weak (pe_callS h5 hr hg h1 h2 h3 (fun σ => passAt tk σ) ha hdb (star_cons hs.1) (back_any hs.2)) fun σ H Q ⟨S, sr, h⟩ => ?_
  exact spF_of sr hn h

/-! ### built-in functions -/
def rC (X : Cx) (CA : Nat → Addr) (W : WX) (σ0 : St) (f : Bi) : List V → Hp → VK → Prop := fun vs H2 Q => ∃ H M ps O Z, Same H H2 ∧ PVs X.K CA M H H2 ps vs O Z ∧ Den X.K CA W M (Out.of (bifD f ps)) σ0 H Q
theorem PVs.one_inv {K : PySem.W.Frag} {M : Addr → Prop} {H H2 : Hp} {p : D × Nat} {vs : List V} {O Z : List Addr} (h : PVs K CA M H H2 [p] vs O Z) : ∃ v, vs = [v] ∧ PVal K CA M H H2 p.1 p.2 v O Z := by
  cases h with
  | cons a b _ _ => cases b; exact ⟨_, rfl, by simpa using a⟩
theorem PVs.two_inv {K : PySem.W.Frag} {M : Addr → Prop} {H H2 : Hp} {p q : D × Nat} {vs : List V} {O Z : List Addr} (h : PVs K CA M H H2 [p, q] vs O Z) : ∃ v w O1 Z1 O2 Z2, vs = [v, w] ∧ PVal K CA M H H2 p.1 p.2 v O1 Z1 ∧ PVal K CA M H H2 q.1 q.2 w O2 Z2 := by
  cases h with
  | cons a b _ _ => obtain ⟨w, rfl, c⟩ := b.one_inv; exact ⟨_, _, _, _, _, _, rfl, a, c⟩
theorem CallR.one {v : Value} {f : Bi} {σ0 : St} {r : List V → Hp → VK → Prop} (h : CallR X v r) (h0 : ∀ ps, (∀ p, ps ≠ [p]) → bifD f ps = none)
    (w : ∀ (d : D) (n : Nat) x H0 H (M : Addr → Prop) Ox Zx (z : D × Nat) (Q : VK), PVal X.K CA M H0 H d n x Ox Zx → bifD f [(d, n)] = some z → Den X.K CA W M (.ok z) σ0 H0 Q → r [x] H Q) : CallR X v (rC X CA W σ0 f) := by
  refine CallR.weak h fun vs H Q ⟨H0, M, ps, O, Z, s, pv, hd⟩ => ?_
  obtain ⟨z, hz, hd'⟩ := Den.ofv hd
  by_cases hp : ∃ p, ps = [p]
  · obtain ⟨p, rfl⟩ := hp
    obtain ⟨v, rfl, q⟩ := pv.one_inv
    exact w _ _ v H0 H M O Z z Q q hz hd'
  · rw [h0 ps fun p e => hp ⟨p, e⟩] at hz; cases hz
theorem bool_list {K : PySem.W.Frag} {H : Hp} : ∀ {xs : List D} {vs : List V} {n : Nat} {O Z : List Addr} {bs : List Bool}, Reps K CA H n xs vs O Z → boolsOf xs = some bs → vs = bs.map V.bl
  | [], _, _, _, _, bs, .nil, h => by cases h; rfl
  | d :: r, _, _, _, _, bs, .cons a b, h => by
    cases d <;> first | (cases h; done) | skip
    obtain ⟨cs, h1, rfl⟩ := Option.map_eq_some_iff.mp h
    rw [a.bl_inv.1, bool_list b h1]; rfl
theorem int_list {K : PySem.W.Frag} {H : Hp} : ∀ {xs : List D} {vs : List V} {n : Nat} {O Z : List Addr} {bs : List Int}, Reps K CA H n xs vs O Z → intsOf xs = some bs → vs = bs.map V.int
  | [], _, _, _, _, bs, .nil, h => by cases h; rfl
  | d :: r, _, _, _, _, bs, .cons a b, h => by
    cases d <;> first | (cases h; done) | skip
    obtain ⟨cs, h1, rfl⟩ := Option.map_eq_some_iff.mp h
    rw [a.int_inv.1, int_list b h1]; rfl
theorem str_list {K : PySem.W.Frag} {H : Hp} : ∀ {xs : List D} {vs : List V} {n : Nat} {O Z : List Addr} {bs : List Cs}, Reps K CA H n xs vs O Z → strsOf xs = some bs → vs = bs.map (fun s => V.str (mkS s)) ∧ ∀ s ∈ bs, Bd s
  | [], _, _, _, _, bs, .nil, h => by cases h; exact ⟨rfl, by simp⟩
  | d :: r, _, _, _, _, bs, .cons a b, h => by
    cases d <;> first | (cases h; done) | skip
    obtain ⟨cs, h1, rfl⟩ := Option.map_eq_some_iff.mp h
    obtain ⟨e, _, _, hb⟩ := a.str_inv
    obtain ⟨e2, hb2⟩ := str_list b h1
    rw [e, e2]
    exact ⟨rfl, fun s hs => (List.mem_cons.mp hs).elim (fun z => by rw [z]; exact hb) (hb2 s)⟩
theorem call_lenR : CallR X (.builtin "len") (fun xs H Q => ∃ a kvs, xs = [V.ref a] ∧ Rd H a (.dK kvs) ∧ Q (.int kvs.length) H) := by
  intro pins s σ H xs us Q I r h
  obtain ⟨a, kvs, rfl, ha, q⟩ := h
  obtain ⟨u, rfl, ru⟩ := vals1 r
  cases ru
  exact d_len I ha fun t s' I' => ⟨.int kvs.length, H, I', ⟨t, rfl⟩, q⟩
theorem c_len {σ0 : St} : CallR X (.builtin "len") (rC X CA W σ0 .len) := by
  refine CallR.one (CallR.or call_len call_lenR) (fun ps h => ?_) fun d n x H0 H M Ox Zx z Q pv hz hd => ?_
  · match ps, h with
    | [], _ => rfl
    | [p], h => exact absurd rfl (h p)
    | p :: q :: r, _ => obtain ⟨d, n⟩ := p; cases d <;> rfl
  · cases d <;> first | (cases hz; done) | skip
    · obtain ⟨hl, e⟩ := go_some (show go _ _ = _ from hz)
      cases e
      obtain ⟨rfl, _⟩ := pv.rep.str_inv
      exact .inl ⟨_, _, rfl, ⟨by rw [mkS_len, SZ_eq]; exact hl, (mkS_len _).symm⟩, hd.val pv.same (.int _)⟩
    · cases hz
      obtain ⟨a, vs, rfl, h1, r⟩ := pv.rep.tup_inv
      exact .inl ⟨_, _, rfl, .inr ⟨vs, h1, r.length⟩, hd.val pv.same (.int _)⟩
    · cases hz
      obtain ⟨a, vs, Z0, rfl, h1, r, _⟩ := pv.lst_inv
      exact .inl ⟨_, _, rfl, .inl ⟨vs, .of h1, r.length⟩, hd.val pv.same (.int _)⟩
    · cases hz
      obtain ⟨a, kvs, O', Z', m, rfl, h1, h2, _⟩ := pv.rep.dct_inv
      have := congrArg List.length h2.1
      simp only [List.length_map] at this
      exact .inr ⟨_, _, rfl, h1, by rw [← this]; exact hd.val pv.same (.int _)⟩
    · cases hz
      obtain ⟨a, rfl, h1, _⟩ := pv.rep.scr_inv
      exact .inl ⟨_, _, rfl, .inl ⟨_, h1.l, by simp⟩, hd.val pv.same (.int _)⟩
theorem one_no {f : Bi} (h2 : ∀ p q r, bifD f (p :: q :: r) = none) (h0 : bifD f [] = none) : ∀ ps : List (D × Nat), (∀ p, ps ≠ [p]) → bifD f ps = none
  | [], _ => h0
  | [p], h => absurd rfl (h p)
  | p :: q :: r, _ => h2 p q r
theorem c_all {σ0 : St} (hc : X.calm = true) : CallR X (.builtin "all") (rC X CA W σ0 .all) := by
  refine CallR.one (cr_all hc) (one_no (fun p q r => by obtain ⟨d, n⟩ := p; cases d <;> rfl) rfl) fun d n x H0 H M Ox Zx z Q pv hz hd => ?_
  cases d <;> first | (cases hz; done) | skip
  obtain ⟨bs, hb, rfl⟩ := Option.map_eq_some_iff.mp hz
  obtain ⟨a, vs, Z0, rfl, h1, r, _⟩ := pv.lst_inv
  have := bool_list r hb
  subst this
  exact ⟨a, bs, rfl, .of h1, hd.val pv.same (.bl _)⟩
theorem c_any {σ0 : St} (hc : X.calm = true) : CallR X (.builtin "any") (rC X CA W σ0 .any) := by
  refine CallR.one (cr_any hc) (one_no (fun p q r => by obtain ⟨d, n⟩ := p; cases d <;> rfl) rfl) fun d n x H0 H M Ox Zx z Q pv hz hd => ?_
  cases d <;> first | (cases hz; done) | skip
  obtain ⟨bs, hb, rfl⟩ := Option.map_eq_some_iff.mp hz
  obtain ⟨a, vs, Z0, rfl, h1, r, _⟩ := pv.lst_inv
  have := bool_list r hb
  subst this
  exact ⟨a, bs, rfl, .of h1, hd.val pv.same (.bl _)⟩
theorem c_sum {σ0 : St} (hc : X.calm = true) : CallR X (.builtin "sum") (rC X CA W σ0 .sum) := by
  refine CallR.one (cr_sum hc) (one_no (fun p q r => by obtain ⟨d, n⟩ := p; cases d <;> rfl) rfl) fun d n x H0 H M Ox Zx z Q pv hz hd => ?_
  cases d <;> first | (cases hz; done) | skip
  obtain ⟨bs, hb, rfl⟩ := Option.map_eq_some_iff.mp hz
  obtain ⟨a, vs, Z0, rfl, h1, r, _⟩ := pv.lst_inv
  have := int_list r hb
  subst this
  exact ⟨a, bs, rfl, .of h1, hd.val pv.same (.int _)⟩
theorem c_ord {σ0 : St} : CallR X (.builtin "ord") (rC X CA W σ0 .ord) := by
  refine CallR.one call_ord (one_no (fun p q r => by obtain ⟨d, n⟩ := p; cases d <;> first | rfl | (rename_i s; cases s with | nil => rfl | cons c s => cases s <;> rfl)) rfl) fun d n x H0 H M Ox Zx z Q pv hz hd => ?_
  cases d <;> first | (cases hz; done) | skip
  rename_i s
  match s, hz, pv with
  | [c], hz, pv =>
    cases hz
    obtain ⟨rfl, _⟩ := pv.rep.str_inv
    refine ⟨_, rfl, by rw [mkS_len]; rfl, ?_⟩
    have : (mkS [c]).cps.getD 0 0 = c := by simp [mkS]
    rw [this]
    exact hd.val pv.same (.int _)
theorem c_str {σ0 : St} : CallR X (.type "str") (rC X CA W σ0 .str) := by
  refine CallR.one call_str_int (one_no (fun p q r => by obtain ⟨d, n⟩ := p; cases d <;> rfl) rfl) fun d n x H0 H M Ox Zx z Q pv hz hd => ?_
  cases d <;> first | (cases hz; done) | skip
  rename_i i
  obtain ⟨hl, e⟩ := go_some (show go _ _ = _ from hz)
  cases e
  obtain ⟨rfl, _⟩ := pv.rep.int_inv
  refine ⟨_, rfl, hl, ?_⟩
  have e : (Str.ofString (toString i)) = mkS (codesOfInt i) := (mkS_of _).symm
  rw [e]
  refine hd.val pv.same (.str fun c hc => ?_)
  have hc : c ∈ (toString i).toList.map Char.toNat := by rw [← TL.tl_ofString]; exact hc
  obtain ⟨ch, _, rfl⟩ := List.mem_map.mp hc
  have := ch.valid
  simp only [UInt32.isValidChar, Nat.isValidChar] at this
  show ch.val.toNat < _
  omega
theorem c_int {σ0 : St} : CallR X (.type "int") (rC X CA W σ0 .int) := by
  refine CallR.one call_int1 (one_no (fun p q r => by obtain ⟨d, n⟩ := p; cases d <;> rfl) rfl) fun d n x H0 H M Ox Zx z Q pv hz hd => ?_
  cases d <;> first | (cases hz; done) | skip
  · cases hz
    obtain ⟨rfl, _⟩ := pv.rep.bl_inv
    exact .inr ⟨_, rfl, hd.val pv.same (.int _)⟩
  · cases hz
    obtain ⟨rfl, _⟩ := pv.rep.int_inv
    exact .inl ⟨_, rfl, hd.val pv.same (.int _)⟩
theorem keys_reps {K : PySem.W.Frag} {H : Hp} : ∀ {ks : List D} {kvs : List (Key × V)}, ks.map vKey = kvs.map (fun p => some p.1) → (∀ s, D.str s ∈ ks → Bd s) → Reps K CA H 0 ks (kvs.map fun p => kV p.1) [] []
  | [], [], _, _ => .nil
  | [], _ :: _, h, _ => by simp at h
  | _ :: _, [], h, _ => by simp at h
  | k :: ks, p :: kvs, h, hb => by
    simp only [List.map_cons, List.cons.injEq] at h
    have r := keys_reps (K := K) (H := H) h.2 fun s hs => hb s (by simp [hs])
    have r1 : Rep K CA H 0 k (kV p.1) [] [] := by
      obtain ⟨h1, _⟩ := h
      cases k <;> first | (cases h1; done) | skip
      · have := h1; simp only [vKey, Option.some.injEq] at this; rw [← this]; exact .int _
      · have := h1; simp only [vKey, Option.some.injEq] at this; rw [← this]; exact .str (hb _ (by simp))
    exact Reps.cons (O := []) (Z := []) r1 r
theorem ints_reps {K : PySem.W.Frag} {H : Hp} : ∀ l : List Int, Reps K CA H 0 (l.map D.int) (l.map V.int) [] []
  | [] => .nil
  | i :: r => Reps.cons (O := []) (Z := []) (.int i) (ints_reps r)
theorem c_list {σ0 : St} (hc : X.calm = true) : CallR X (.type "list") (rC X CA W σ0 .list) := by
  refine CallR.one (CallR.or call_list_of (call_listD hc)) (one_no (fun p q r => by obtain ⟨d, n⟩ := p; cases d <;> rfl) rfl) fun d n x H0 H M Ox Zx z Q pv hz hd => ?_
  cases d <;> first | (cases hz; done) | skip
  · cases hz
    obtain ⟨a, vs, Z0, rfl, h1, r, z0⟩ := pv.tup_inv
    refine .inl ⟨a, vs, rfl, .inr h1, fun l hl => ?_⟩
    obtain ⟨O, Z, pp⟩ := PVal.newList pv.same r z0 hl
    exact hd _ _ _ _ pp
  · cases hz
    obtain ⟨a, vs, Z0, rfl, h1, r, z0⟩ := pv.lst_inv
    refine .inl ⟨a, vs, rfl, .inl (.of h1), fun l hl => ?_⟩
    obtain ⟨O, Z, pp⟩ := PVal.newList pv.same r z0 hl
    exact hd _ _ _ _ pp
  · cases hz
    obtain ⟨a, kvs, O', Z', m, rfl, h1, h2, _⟩ := pv.rep.dct_inv
    refine .inr ⟨a, kvs, rfl, h1, fun p hp => ?_⟩
    obtain ⟨O, Z, pp⟩ := PVal.newList pv.same (keys_reps h2.1 h2.2.2) (by simp) hp
    exact hd _ _ _ _ pp
  · cases hz
    obtain ⟨a, rfl, h1, _⟩ := pv.rep.scr_inv
    refine .inl ⟨a, _, rfl, .inl h1.l, fun p hp => ?_⟩
    obtain ⟨O, Z, pp⟩ := PVal.newList pv.same (ints_reps _) (by simp) hp
    exact hd _ _ _ _ pp
theorem c_dict {σ0 : St} : CallR X (.type "dict") (rC X CA W σ0 .dict) := by
  refine CallR.one call_dictD (one_no (fun p q r => by obtain ⟨d, n⟩ := p; cases d <;> rfl) rfl) fun d n x H0 H M Ox Zx z Q pv hz hd => ?_
  cases d <;> first | (cases hz; done) | skip
  cases hz
  obtain ⟨a, kvs, O', Z', m, rfl, h1, h2, r, hO, hZ⟩ := pv.rep.dct_inv
  obtain ⟨Z0, r0, h0⟩ := r.zeroed
  refine ⟨a, kvs, rfl, h1, fun p hp => ?_⟩
  obtain ⟨O, Z, pp⟩ := PVal.newDct (M := M) pv.same h2 r0 (fun b hb => by
    rcases h0 b hb with z | z
    · exact .inl (pv.fresh b (hO b z))
    · exact pv.zin b (hZ b z)) hp
  exact hd _ _ _ _ pp
theorem c_tuple {σ0 : St} : CallR X (.type "tuple") (rC X CA W σ0 .tuple) := by
  refine CallR.one call_tuple_of (one_no (fun p q r => by obtain ⟨d, n⟩ := p; cases d <;> rfl) rfl) fun d n x H0 H M Ox Zx z Q pv hz hd => ?_
  cases d <;> first | (cases hz; done) | skip
  · cases hz
    obtain ⟨a, vs, rfl, h1, r⟩ := pv.rep.tup_inv
    exact ⟨a, vs, rfl, .inr ⟨h1, hd _ _ _ _ pv⟩⟩
  · obtain ⟨hm, e⟩ := go_some (show go _ _ = _ from hz)
    cases e
    obtain ⟨a, vs, Z0, rfl, h1, r, z0⟩ := pv.lst_inv
    exact ⟨a, vs, rfl, .inl ⟨.of h1, fun l hl => hd _ _ _ _ (PVal.newTup pv.same r hm hl)⟩⟩
theorem c_bool {σ0 : St} : CallR X (.type "bool") (rC X CA W σ0 .bool) := by
  refine CallR.one call_bool1 (one_no (fun p q r => by obtain ⟨d, n⟩ := p; cases d <;> rfl) rfl) fun d n x H0 H M Ox Zx z Q pv hz hd => ?_
  cases d <;> first | (cases hz; done) | skip
  · cases hz
    obtain ⟨rfl, _⟩ := pv.rep.bl_inv
    exact .inr ⟨_, rfl, hd.val pv.same (.bl _)⟩
  · cases hz
    obtain ⟨rfl, _⟩ := pv.rep.int_inv
    exact .inl ⟨_, rfl, hd.val pv.same (.bl _)⟩
end
end Vy

namespace Vy
open PySem PySem.Spec
open PyProof.Rows hiding St
open L2
section
variable {X : Cx} {nm : Nm} {G : Glo} {CA : Nat → Addr} {cf : Runs} {W : WX}
theorem two_no {f : Bi} {d : D} {n : Nat} : True := trivial
theorem CallR.twoI {v : Value} {f : Bi} {σ0 : St} {g : Int → Int → Int} (h : CallR X v (fun xs H Q => ∃ i j, xs = [.int i, .int j] ∧ Q (.int (g i j)) H))
    (hf : ∀ ps z, bifD f ps = some z → (∃ p, ps = [p]) ∨ ∃ i n j m, ps = [(.int i, n), (.int j, m)] ∧ z = (.int (g i j), 9)) {r1 : List V → Hp → VK → Prop} (h1 : CallR X v r1)
    (w : ∀ (d : D) (n : Nat) x H0 H (M : Addr → Prop) Ox Zx (z : D × Nat) (Q : VK), PVal X.K CA M H0 H d n x Ox Zx → bifD f [(d, n)] = some z → Den X.K CA W M (.ok z) σ0 H0 Q → r1 [x] H Q) : CallR X v (rC X CA W σ0 f) := by
  refine CallR.weak (CallR.or h h1) fun vs H Q ⟨H0, M, ps, O, Z, s, pv, hd⟩ => ?_
  obtain ⟨z, hz, hd'⟩ := Den.ofv hd
  rcases hf ps z hz with ⟨p, rfl⟩ | ⟨i, n, j, m, rfl, rfl⟩
  · obtain ⟨v, rfl, q⟩ := pv.one_inv
    exact .inr (w _ _ v H0 H M O Z z Q q hz hd')
  · obtain ⟨v, w', O1, Z1, O2, Z2, rfl, p1, p2⟩ := pv.two_inv
    rw [p1.rep.int_inv.1, p2.rep.int_inv.1]
    exact .inl ⟨i, j, rfl, hd'.val s (.int _)⟩
theorem minI_le : ∀ (l : List Int) (m : Int), (minI m l = m ∨ minI m l ∈ l) ∧ minI m l ≤ m ∧ ∀ y ∈ l, minI m l ≤ y
  | [], m => ⟨.inl rfl, Int.le_refl _, by simp⟩
  | x :: r, m => by
    obtain ⟨a, b, c⟩ := minI_le r (if x < m then x else m)
    rw [minI]
    by_cases h : x < m
    · rw [if_pos h] at a b c ⊢
      refine ⟨.inr (a.elim (fun z => by rw [z]; simp) fun z => by simp [z]), by omega, fun y hy => ?_⟩
      rcases List.mem_cons.mp hy with rfl | hy
      · exact b
      · exact c y hy
    · rw [if_neg h] at a b c ⊢
      refine ⟨a.imp id fun z => by simp [z], b, fun y hy => ?_⟩
      rcases List.mem_cons.mp hy with rfl | hy
      · omega
      · exact c y hy
theorem maxI_ge : ∀ (l : List Int) (m : Int), (maxI m l = m ∨ maxI m l ∈ l) ∧ m ≤ maxI m l ∧ ∀ y ∈ l, y ≤ maxI m l
  | [], m => ⟨.inl rfl, Int.le_refl _, by simp⟩
  | x :: r, m => by
    obtain ⟨a, b, c⟩ := maxI_ge r (if m < x then x else m)
    rw [maxI]
    by_cases h : m < x
    · rw [if_pos h] at a b c ⊢
      refine ⟨.inr (a.elim (fun z => by rw [z]; simp) fun z => by simp [z]), by omega, fun y hy => ?_⟩
      rcases List.mem_cons.mp hy with rfl | hy
      · exact b
      · exact c y hy
    · rw [if_neg h] at a b c ⊢
      refine ⟨a.imp id fun z => by simp [z], b, fun y hy => ?_⟩
      rcases List.mem_cons.mp hy with rfl | hy
      · omega
      · exact c y hy
theorem cr_minE (hc : X.calm = true) : CallR X (.builtin "min") (fun vs H Q => ∃ (a : Addr) (n : Int) (ns : List Int), vs = [V.ref a] ∧ SqL X.K H a ((n :: ns).map V.int) ∧ Q (.int (minI n ns)) H) := by
  intro pins s σ H vs us Q I r ⟨a, n, ns, e, h, q⟩
  refine cr_min hc pins s σ H vs us Q I r ⟨a, n :: ns, e, h, by simp, fun m hm hy => ?_⟩
  obtain ⟨h1, h2, h3⟩ := minI_le ns n
  have : m = minI n ns := by
    have a1 : m ≤ minI n ns := by
      rcases h1 with z | z
      · rw [z]; exact hy n (by simp)
      · exact hy _ (by simp [z])
    have a2 : minI n ns ≤ m := by
      rcases List.mem_cons.mp hm with rfl | z
      · exact h2
      · exact h3 m z
    omega
  rw [this]; exact q
theorem cr_maxE (hc : X.calm = true) : CallR X (.builtin "max") (fun vs H Q => ∃ (a : Addr) (n : Int) (ns : List Int), vs = [V.ref a] ∧ SqL X.K H a ((n :: ns).map V.int) ∧ Q (.int (maxI n ns)) H) := by
  intro pins s σ H vs us Q I r ⟨a, n, ns, e, h, q⟩
  refine cr_max hc pins s σ H vs us Q I r ⟨a, n :: ns, e, h, by simp, fun m hm hy => ?_⟩
  obtain ⟨h1, h2, h3⟩ := maxI_ge ns n
  have : m = maxI n ns := by
    have a1 : maxI n ns ≤ m := by
      rcases h1 with z | z
      · rw [z]; exact hy n (by simp)
      · exact hy _ (by simp [z])
    have a2 : m ≤ maxI n ns := by
      rcases List.mem_cons.mp hm with rfl | z
      · exact h2
      · exact h3 m z
    omega
  rw [this]; exact q
theorem c_max {σ0 : St} (hc : X.calm = true) : CallR X (.builtin "max") (rC X CA W σ0 .max) := by
  refine CallR.twoI (g := fun i j => if i < j then j else i) ?_ ?_ (cr_maxE hc) fun d n x H0 H M Ox Zx z Q pv hz hd => ?_
  · exact CallR.weak (call_max2 hc) fun xs H Q ⟨i, j, e, q⟩ => ⟨i, j, e, q⟩
  · intro ps z h
    match ps, h with
    | [], h => cases h
    | [p], _ => exact .inl ⟨p, rfl⟩
    | (d, n) :: (e, m) :: r, h =>
      cases d <;> first | (cases h; done) | skip
      all_goals (cases e <;> first | (cases h; done) | skip)
      all_goals (cases r <;> first | (cases h; done) | skip)
      cases h; exact .inr ⟨_, n, _, m, rfl, rfl⟩
  · cases d <;> first | (cases hz; done) | skip
    rename_i xs
    have hz : (match intsOf xs with | some (i :: is) => some (D.int (maxI i is), 9) | _ => none) = some z := hz
    obtain ⟨a, vs, Z0, rfl, h1, r, _⟩ := pv.lst_inv
    cases hi : intsOf xs with
    | none => rw [hi] at hz; cases hz
    | some l =>
      rw [hi] at hz
      cases l with
      | nil => cases hz
      | cons i is =>
        cases hz
        have := int_list r hi
        subst this
        exact ⟨a, i, is, rfl, .of h1, hd.val pv.same (.int _)⟩
/-- min: of two numbers, of numbers (of texts: not yet) -/
theorem c_min {σ0 : St} (hc : X.calm = true) (d0 : CallR X (.builtin "min") (fun vs H Q => ∃ (a : Addr) (n : Cs) (ns : List Cs), vs = [V.ref a] ∧ (SqL X.K H a ((n :: ns).map fun s => V.str (mkS s)) ∨ SqT X.K H a ((n :: ns).map fun s => V.str (mkS s))) ∧ Q (.str (mkS (minS n ns))) H)) :
    CallR X (.builtin "min") (rC X CA W σ0 .min) := by
  refine CallR.twoI (g := fun i j => if j < i then j else i) ?_ ?_ (CallR.or (cr_minE hc) d0) fun d n x H0 H M Ox Zx z Q pv hz hd => ?_
  · exact CallR.weak (call_min2 hc) fun xs H Q ⟨i, j, e, q⟩ => ⟨i, j, e, q⟩
  · intro ps z h
    match ps, h with
    | [], h => cases h
    | [p], _ => exact .inl ⟨p, rfl⟩
    | (d, n) :: (e, m) :: r, h =>
      cases d <;> first | (cases h; done) | skip
      all_goals (cases e <;> first | (cases h; done) | skip)
      all_goals (cases r <;> first | (cases h; done) | skip)
      cases h; exact .inr ⟨_, n, _, m, rfl, rfl⟩
  · have bdm : ∀ (l : List Cs) (m : Cs), Bd m → (∀ s ∈ l, Bd s) → Bd (minS m l) := fun l => by
      induction l with
      | nil => intro m h _; exact h
      | cons x r ih =>
        intro m h hr
        rw [minS]
        refine ih _ ?_ fun s hs => hr s (by simp [hs])
        split
        · exact hr x (by simp)
        · exact h
    cases d <;> first | (cases hz; done) | skip
    · rename_i xs
      have hz : (match strsOf xs with | some (s :: ss) => some (D.str (minS s ss), 9) | _ => none) = some z := hz
      obtain ⟨a, vs, Z0, rfl, h1, r, _⟩ := pv.tup_inv
      cases hs : strsOf xs with
      | none => rw [hs] at hz; cases hz
      | some l =>
        rw [hs] at hz
        cases l with
        | nil => cases hz
        | cons i is =>
          cases hz
          obtain ⟨e, hb⟩ := str_list r hs
          subst e
          exact .inr ⟨a, i, is, rfl, .inr h1, hd.val pv.same (.str (bdm is i (hb i (by simp)) fun s q => hb s (by simp [q])))⟩
    · rename_i xs
      have hz : (match intsOf xs, strsOf xs with
        | some (i :: is), _ => some (D.int (minI i is), 9)
        | none, some (s :: ss) => some (.str (minS s ss), 9)
        | _, _ => none) = some z := hz
      obtain ⟨a, vs, Z0, rfl, h1, r, _⟩ := pv.lst_inv
      cases hi : intsOf xs with
      | some l =>
        rw [hi] at hz
        cases l with
        | nil => cases hz
        | cons i is =>
          cases hz
          have := int_list r hi
          subst this
          exact .inl ⟨a, i, is, rfl, .of h1, hd.val pv.same (.int _)⟩
      | none =>
        rw [hi] at hz
        cases hs : strsOf xs with
        | none => rw [hs] at hz; cases hz
        | some l =>
          rw [hs] at hz
          cases l with
          | nil => cases hz
          | cons i is =>
            cases hz
            obtain ⟨e, hb⟩ := str_list r hs
            subst e
            exact .inr ⟨a, i, is, rfl, .inl (.of h1), hd.val pv.same (.str (bdm is i (hb i (by simp)) fun s q => hb s (by simp [q])))⟩

/-- the built-in functions by their names -/
def biS : Bi → String
  | .len => "len" | .all => "all" | .any => "any" | .sum => "sum" | .min => "min" | .max => "max" | .maxd => "max" | .maxs => "max" | .sorted => "sorted" | .str => "str" | .int => "int" | .bool => "bool" | .ord => "ord" | .list => "list" | .tuple => "tuple" | .dict => "dict" | .setlen => "len"
def biV : Bi → Value
  | .str => .type "str" | .int => .type "int" | .bool => .type "bool" | .list => .type "list" | .tuple => .type "tuple" | .dict => .type "dict"
  | f => .builtin (biS f)
/-- which of them are carried -/
def biOk : Bi → Bool
  | .len => true | .all => true | .any => true | .sum => true | .max => true | .str => true | .int => true | .bool => true | .ord => true | .list => true | .tuple => true | .dict => true
  | _ => false
theorem c_bif {σ0 : St} (hc : X.calm = true) : ∀ f, biOk f = true → CallR X (biV f) (rC X CA W σ0 f)
  | .len, _ => c_len
  | .all, _ => c_all hc
  | .any, _ => c_any hc
  | .sum, _ => c_sum hc
  | .max, _ => c_max hc
  | .str, _ => c_str
  | .int, _ => c_int
  | .bool, _ => c_bool
  | .ord, _ => c_ord
  | .list, _ => c_list hc
  | .tuple, _ => c_tuple
  | .min, h => by cases h
  | .maxd, h => by cases h
  | .maxs, h => by cases h
  | .sorted, h => by cases h
  | .dict, _ => c_dict
  | .setlen, h => by cases h
theorem bi_boot : ∀ f, biOk f = true → bootBuiltins (Str.ofString (biS f)) = some (biV f) := by
  intro f h
  cases f <;> first | (cases h; done) | (decide +kernel)
theorem e_bif {np : Nat → Option Nat} {bl : List Str} {f : Bi} {x : Str} {cs : List C} {e : Expr} {es : List Expr} {p pos : Pos} (C : CtxOk X nm G CA cf np bl) (hf : biOk f = true) (hx : x = Str.ofString (biS f)) (hb : x ∈ bl) (hg : Gl X x)
    (ha : PA X (e :: es) (tL X G CA cf W cs)) (hdb : (x == ("__debug__" : Str)) = false) (hnn : x ≠ "__name__") (hs : (e :: es).all noStar = true) : PE X (.Call (.Name x p) (e :: es) [] pos) (tE X G CA cf W (.bif f cs)) := by
  refine ⟨fun pins s σ H Q I ⟨S, sr, h⟩ => ?_⟩
  have hm := C.blt x hb
  have hv : bootBuiltins x = some (biV f) := by rw [hx]; exact bi_boot f hf
  have hr := c_bif (X := X) (CA := CA) (W := W) (σ0 := σ) C.calm f hf
  rw [List.all_cons, Bool.and_eq_true] at hs
  rw [ev] at h
  have key : tCB (rC X CA W σ f) (tL X G CA cf W cs) σ H Q := ⟨S, sr, DenL.seq (Same.refl H) h fun ps vs H2 O Z e1 s2 pv hd => ⟨H, _, ps, O, Z, s2, pv, hd⟩⟩
  cases f <;> first | (cases hf; done) | exact (pe_callB hr hg hm hv ha hnn hdb (star_cons hs.1) (back_any hs.2)).run pins s σ H Q I key | exact (pe_callTy hr hg hm hv ha hnn hdb (star_cons hs.1) (back_any hs.2)).run pins s σ H Q I key
end
end Vy

namespace Vy
open PySem PySem.Spec
open PyProof.Rows hiding St
open L2
theorem spl_bd (S : Cs) : ∀ (l : Cs) (k : Nat) (acc : Cs), Bd acc → Bd l → ∀ p ∈ TL.spl S k acc l, Bd p
  | [], k, acc, ha, _, p, hp => by rw [TL.spl_nil] at hp; simp at hp; subst hp; exact ha
  | c :: r, 0, acc, ha, hl, p, hp => by
    have hr : Bd r := fun x q => hl x (by simp [q])
    by_cases h : TL.pre S (c :: r) = true
    · rw [TL.spl_hit h] at hp
      rcases List.mem_cons.mp hp with rfl | hp
      · exact ha
      · exact spl_bd S r _ [] Bd.nil hr p hp
    · rw [TL.spl_miss (by simpa using h)] at hp
      exact spl_bd S r 0 _ (ha.app fun x q => by simp at q; subst q; exact hl x (by simp)) hr p hp
  | c :: r, k + 1, acc, ha, hl, p, hp => spl_bd S r k acc ha (fun x q => hl x (by simp [q])) p hp
theorem par_bd (S : Cs) : ∀ (l acc : Cs) (p : Cs × Cs), Bd acc → Bd l → TL.par S acc l = some p → Bd p.1 ∧ Bd p.2
  | [], acc, p, _, _, h => by cases h
  | c :: r, acc, p, ha, hl, h => by
    by_cases hc : TL.pre S (c :: r) = true
    · rw [TL.par_hit hc] at h
      cases h
      exact ⟨ha, fun x q => hl x (List.mem_of_mem_drop q)⟩
    · rw [TL.par_miss (by simpa using hc)] at h
      exact par_bd S r _ p (ha.app fun x q => by simp at q; subst q; exact hl x (by simp)) (fun x q => hl x (by simp [q])) h
theorem joinL_bd (S : Cs) (hS : Bd S) : ∀ ps : List Cs, (∀ p ∈ ps, Bd p) → Bd (TL.joinL S ps)
  | [], _ => Bd.nil
  | [p], h => h p (by simp)
  | p :: q :: r, h => (h p (by simp)).app (hS.app (joinL_bd S hS (q :: r) fun x hx => h x (by simp [hx])))
theorem strs_reps {K : PySem.W.Frag} {CA : Nat → Addr} {H : Hp} : ∀ l : List Cs, (∀ s ∈ l, Bd s) → Reps K CA H 0 (l.map D.str) (l.map fun s => V.str (mkS s)) [] []
  | [], _ => .nil
  | s :: r, h => Reps.cons (O := []) (Z := []) (.str (h s (by simp))) (strs_reps r fun x hx => h x (by simp [hx]))
theorem lv1_strs (l : List Cs) : lv1 (l.map D.str) = 9 := by unfold lv1; rw [if_pos (mdepL_strs l)]
section
variable {X : Cx} {nm : Nm} {G : Glo} {CA : Nat → Addr} {cf : Runs} {W : WX}
theorem Den.gdx {K : PySem.W.Frag} {CA : Nat → Addr} {W : WX} {M : Addr → Prop} {σ : St} {H : Hp} {Q : VK} {c : Prop} [Decidable c] {x : Out (D × Nat)} (h : Den K CA W M (Vy.gd c x) σ H Q) : c ∧ Den K CA W M x σ H Q := h.gd
theorem recv_str {m : Me} {d : D} (hm : m ≠ .index ∧ m ≠ .count ∧ m ≠ .get) (h : recvOk m d = true) : ∃ s, d = .str s := by
  cases d <;> first | exact ⟨_, rfl⟩ | (cases m <;> first | (cases h; done) | exact absurd rfl hm.1 | exact absurd rfl hm.2.1 | exact absurd rfl hm.2.2)
/-- a text's method with one argument -/
theorem e_m1 {m : Me} {id : String} {name : Str} {apos pos : Pos} {r : V → List V → Hp → VK → Prop} (slot : Slot "str" name id) (ty : typeOf (.builtin id) = pure (.type "method_descriptor")) (rule : MtR X id r) (hm : m ≠ .index ∧ m ≠ .count ∧ m ≠ .get)
    {o c : C} {eo e : Expr} (ho : PE X eo (tE X G CA cf W o)) (he : PE X e (tE X G CA cf W c)) (hs : noStar e = true) (hb : noSup eo = true) (hl : (apos.endLine == pos.line) = true)
    (w : ∀ (s : Cs) (d : D) (n k : Nat) v H0 H (M : Addr → Prop) O Z (z : D × Nat) (Q : VK) (σ0 : St), Bd s → PVal X.K CA M H0 H d n v O Z → methD m (.str s, k) [(d, n)] = some z → Den X.K CA W M (.ok z) σ0 H0 Q → r (.str (mkS s)) [v] H Q) :
    PE X (.Call (.Attribute eo name apos) [e] [] pos) (tE X G CA cf W (.mth m o [c])) := by
  refine PE.weak (pe_m1 slot ty rule ho he (by rw [star_cons hs]; rfl) (base_ok hb) hl) fun σ H Q ⟨S, sr, h⟩ => ?_
  rw [ev] at h
  refine ⟨S, sr, Den.seq (Same.refl H) h fun p x H1 O Z e1 pv hd => ?_⟩
  obtain ⟨hr, hd⟩ := hd.gd
  obtain ⟨d0, k⟩ := p
  obtain ⟨s, hs'⟩ := recv_str hm hr
  subst hs'
  obtain ⟨ex, _, _, hbd⟩ := pv.rep.str_inv
  refine ⟨⟨_, ex⟩, ?_⟩
  have hd' : Den X.K CA W (Nod S (names (.mth m o [c]))) ((ev G cf (envOf S) c).bind fun y => Out.of (methD m (.str s, k) [y])) σ H Q := by
    simp only [evs] at hd
    cases e2 : ev G cf (envOf S) c <;> rw [e2] at hd <;> exact hd
  refine ⟨S, sr.same pv.same, Den.seq pv.same hd' fun q y H2 O' Z' e2 pw hd2 => ?_⟩
  obtain ⟨z, hz, hd3⟩ := Den.ofv hd2
  rw [ex]
  exact w s q.1 q.2 k y H H2 _ O' Z' z Q σ hbd ((pw.ahead pv.same).mono fun a h => Nod.r (by simpa [namesL] using h)) hz hd3
theorem e_join {o c : C} {eo e : Expr} {apos pos : Pos} (ho : PE X eo (tE X G CA cf W o)) (he : PE X e (tE X G CA cf W c)) (hs : noStar e = true) (hb : noSup eo = true) (hl : (apos.endLine == pos.line) = true) : PE X (.Call (.Attribute eo "join" apos) [e] [] pos) (tE X G CA cf W (.mth .join o [c])) := by
  refine e_m1 F.slot_str_join F.type_str_join mt_join (by decide) ho he hs hb hl fun s d n k v H0 H M O Z z Q σ0 hbd pv hz hd => ?_
  obtain ⟨xs, hx, hz⟩ := Option.bind_eq_some_iff.mp (show (seqOf d).bind _ = some z from hz)
  obtain ⟨ps, hp, hz⟩ := Option.bind_eq_some_iff.mp hz
  split at hz
  · rename_i hl
    cases hz
    have fin : ∀ {a : Addr} {vs : List V} {Z0 : List Addr}, v = .ref a → (SqL X.K H a vs ∨ SqT X.K H a vs) → Reps X.K CA H 0 xs vs [] Z0 → ∃ (a' : Str) (p : Addr) (ys : List Str), V.str (mkS s) = .str a' ∧ [v] = [.ref p] ∧ (SqL X.K H p (ys.map V.str) ∨ SqT X.K H p (ys.map V.str)) ∧ (ys.map (·.length)).sum + ys.length * a'.length ≤ 16777216 ∧ Q (.str (Txt.join a' ys)) H := by
      intro a vs Z0 ea ha r
      obtain ⟨e, hb⟩ := str_list r hp
      subst e
      refine ⟨_, a, ps.map mkS, rfl, by rw [ea], by simpa [List.map_map, Function.comp_def] using ha, ?_, ?_⟩
      · have : (ps.map mkS).map (·.length) = ps.map (·.length) := by rw [List.map_map]; exact List.map_congr_left fun x _ => mkS_len x
        rw [this, List.length_map, mkS_len]
        exact hl
      · have e : Txt.join (mkS s) (ps.map mkS) = mkS (TL.joinL s ps) := by
          rw [TL.join_eq]
          apply TL.ext_tl
          rw [TL.tl_join]
          show TL.joinL (mkS s).cps.toList _ = (mkS _).cps.toList
          rw [mkS_tl, mkS_tl, List.map_map]
          congr 1
          exact (List.map_congr_left fun x _ => mkS_tl x).trans (List.map_id _)
        rw [e]
        exact hd.val pv.same (.str (joinL_bd s hbd ps hb))
    cases d <;> first | (cases hx; done) | skip
    · cases hx
      obtain ⟨a, vs, Z0, e, h1, r, _⟩ := pv.tup_inv
      exact fin e (.inr h1) r
    · cases hx
      obtain ⟨a, vs, Z0, e, h1, r, _⟩ := pv.lst_inv
      exact fin e (.inl (.of h1)) r
    · cases hx
      obtain ⟨a, e, h1, _⟩ := pv.rep.scr_inv
      exact fin e (.inl h1.l) (ints_reps _)
  · cases hz
theorem e_split {o c : C} {eo e : Expr} {apos pos : Pos} (ho : PE X eo (tE X G CA cf W o)) (he : PE X e (tE X G CA cf W c)) (hs : noStar e = true) (hb : noSup eo = true) (hl : (apos.endLine == pos.line) = true) : PE X (.Call (.Attribute eo "split" apos) [e] [] pos) (tE X G CA cf W (.mth .split o [c])) := by
  refine e_m1 F.slot_str_split F.type_str_split mt_split (by decide) ho he hs hb hl fun s d n k v H0 H M O Z z Q σ0 hbd pv hz hd => ?_
  cases d <;> first | (cases hz; done) | skip
  rename_i p
  obtain ⟨⟨h1, h2, h3⟩, e⟩ := go_some (show go _ _ = _ from hz)
  cases e
  obtain ⟨rfl, _⟩ := pv.rep.str_inv
  refine ⟨_, _, rfl, rfl, by rw [mkS_len]; cases p with | nil => exact absurd rfl h1 | cons _ _ => rfl, by rw [mkS_len, SZ_eq]; exact h3, fun l hl => ?_⟩
  have e : Txt.split (mkS s) (mkS p) = (TL.spl p 0 [] s).map mkS := by
    apply TL.map_tl_inj
    rw [TL.split_spl _ _ (by show (mkS p).cps.toList ≠ []; rw [mkS_tl]; exact h1) (TL.kind_ok (by
      rw [Array.all_eq_true_iff_forall_mem]
      intro c hc
      have hc : c ∈ p := by simpa [mkS] using hc
      exact List.all_eq_true.mp h2 c hc))]
    show TL.spl (mkS p).cps.toList 0 [] (mkS s).cps.toList = _
    rw [mkS_tl, mkS_tl, List.map_map]
    exact ((List.map_congr_left fun x _ => mkS_tl x).trans (List.map_id _)).symm
  rw [e, List.map_map]
  obtain ⟨O, Z, pp⟩ := PVal.newList pv.same (strs_reps (K := X.K) (CA := CA) (H := H) (TL.spl p 0 [] s) (spl_bd p s 0 [] Bd.nil hbd)) (by simp) hl
  rw [lv1_strs] at pp
  exact hd _ _ _ _ pp
theorem e_partition {o c : C} {eo e : Expr} {apos pos : Pos} (ho : PE X eo (tE X G CA cf W o)) (he : PE X e (tE X G CA cf W c)) (hs : noStar e = true) (hb : noSup eo = true) (hl : (apos.endLine == pos.line) = true) : PE X (.Call (.Attribute eo "partition" apos) [e] [] pos) (tE X G CA cf W (.mth .partition o [c])) := by
  refine e_m1 F.slot_str_partition F.type_str_partition mt_partition (by decide) ho he hs hb hl fun s d n k v H0 H M O Z z Q σ0 hbd pv hz hd => ?_
  cases d <;> first | (cases hz; done) | skip
  rename_i p
  obtain ⟨⟨h1, h3⟩, e⟩ := go_some (show go _ _ = _ from hz)
  obtain ⟨rfl, _, _, hbp⟩ := pv.rep.str_inv
  refine ⟨_, _, rfl, rfl, by rw [mkS_len]; cases p with | nil => exact absurd rfl h1 | cons _ _ => rfl, by rw [mkS_len, SZ_eq]; exact h3, fun l hl => ?_⟩
  have e2 := TL.partition_par (mkS s) (mkS p) (by show (mkS p).cps.toList ≠ []; rw [mkS_tl]; exact h1)
  have e3 : TL.par (TL.tl (mkS p)) [] (TL.tl (mkS s)) = TL.par p [] s := by
    show TL.par (mkS p).cps.toList [] (mkS s).cps.toList = _
    rw [mkS_tl, mkS_tl]
  rw [e3] at e2
  have three : ∀ a b c : Cs, Bd a → Bd b → Bd c → Reps X.K CA H 9 [D.str a, D.str b, D.str c] [V.str (mkS a), V.str (mkS b), V.str (mkS c)] [] [] := fun a b c ha hb hc =>
    Reps.cons (O := []) (Z := []) (.str ha) (Reps.cons (O := []) (Z := []) (.str hb) (Reps.cons (O := []) (Z := []) (.str hc) .nil))
  cases ep : TL.par p [] s with
  | some q =>
    obtain ⟨a, b⟩ := q
    rw [ep] at e e2
    cases e
    rw [e2]
    obtain ⟨b1, b2⟩ := par_bd p s [] (a, b) Bd.nil hbd ep
    exact hd _ _ _ _ (PVal.newTup pv.same (three a p b b1 hbp b2) rfl hl)
  | none =>
    rw [ep] at e e2
    cases e
    rw [e2]
    exact hd _ _ _ _ (PVal.newTup pv.same (three s [] [] hbd Bd.nil Bd.nil) rfl hl)
/-! ### isinstance -/
def ikS : IK → String
  | .str => "str" | .int => "int" | .bool => "bool" | .tuple => "tuple" | .list => "list" | .dict => "dict" | .cls _ => ""
def ikOk : IK → Bool
  | .cls _ => false
  | _ => true
def tyS : D → Option String
  | .non => some "NoneType" | .bl _ => some "bool" | .int _ => some "int" | .str _ => some "str" | .tup _ => some "tuple" | .lst _ => some "list" | .scr _ => some "list" | .dct _ _ => some "dict"
  | _ => none
theorem kit_all (d : D) (t : String) (h : tyS d = some t) (k : IK) (hk : ikOk k = true) : kitB t (ikS k) = some (isaD G.cm d k) := by
  cases d <;> first | (cases h; done) | skip
  all_goals (cases h; cases k <;> first | (cases hk; done) | (show kitB _ _ = some true; decide +kernel) | (show kitB _ _ = some false; decide +kernel))
theorem tyx_of {H : Hp} {d : D} {n : Nat} {v : V} {O Z : List Addr} {t : String} (r : Rep X.K CA H n d v O Z) (h : tyS d = some t) : TyX X.K H v (.type t) := by
  cases r with
  | non => cases h; exact .base .non
  | bl b => cases h; exact .base (.bl b)
  | int i => cases h; exact .base (.int i)
  | str s => cases h; exact .base (.str _)
  | cls => cases h
  | scr e =>
    cases h
    rcases e with ⟨o, e⟩ | e
    · exact .base (.frz e)
    · rcases e (fun _ => none) with (z | ⟨_, z⟩) | ⟨o, its, n, h1, h2, _⟩
      · cases z
      · cases z
      · exact .kList h1 h2
  | tup e r =>
    cases h
    rcases e with (z | ⟨_, z⟩) | ⟨o, its, n, h1, h2, _⟩
    · exact .base (.tup z)
    · exact .fTuple z
    · exact .kTuple h1 h2
  | lstO e r => cases h; exact .base (.lst e)
  | lstZ e r => cases h; exact .base (.lst e)
  | dctO e _ r => cases h; exact .base (.dK e)
  | dctZ e _ r =>
    cases h
    rcases e with z | ⟨_, z⟩
    · exact .base (.dK z)
    · exact .fDict z
  | insO e _ r => cases h
  | insZ e _ r => cases h
  | fz _ _ _ => cases h
  | hol => cases h
theorem e_isi {np : Nat → Option Nat} {bl : List Str} {k : IK} {c : C} {e : Expr} {x : Str} {pp p2 pos : Pos} (C : CtxOk X nm G CA cf np bl) (hk : ikOk k = true) (hx : x = Str.ofString (ikS k)) (hb : x ∈ bl) (hi : ("isinstance" : Str) ∈ bl) (hg : Gl X x) (hgi : Gl X "isinstance")
    (he : PE X e (tE X G CA cf W c)) (hs : noStar e = true) (hnn : x ≠ "__name__") (hdb : (x == ("__debug__" : Str)) = false) : PE X (.Call (.Name "isinstance" pp) [e, .Name x p2] [] pos) (tE X G CA cf W (.isi c k)) := by
  have hm := C.blt x hb
  have hv : bootBuiltins x = some (.type (ikS k)) := by
    rw [hx]
    cases k <;> first | (cases hk; done) | decide +kernel
  have pt : PE X (.Name x p2) (tC (.ty (ikS k))) := pe_bltn (v := .ty (ikS k)) hg hm hv rfl hnn hdb
  refine PE.weak (pe_callB call_isi hgi (C.blt _ hi) boot_isinstance (pa_cons he (pa_cons pt pa_nil (by rfl)) (star_cons hs)) (by decide +kernel) (by decide +kernel) (star_cons hs) (by rfl)) fun σ H Q ⟨S, sr, h⟩ => ?_
  rw [ev] at h
  refine ⟨S, sr, Den.seq (Same.refl H) h fun q v H1 O Z e1 pv hd => ?_⟩
  obtain ⟨d, n⟩ := q
  obtain ⟨hi, hd⟩ := hd.gd
  cases ht : tyS d with
  | none => cases d <;> first | (cases ht; done) | (cases k <;> cases hi)
  | some t => exact ⟨v, .ty (ikS k), .type t, .type (ikS k), isaD G.cm d k, rfl, .ty _, tyx_of pv.rep ht, kit_ty (kit_all d t ht k hk), hd.val pv.same (.bl _)⟩
end
end Vy

namespace Vy
open PySem PySem.Spec
open PyProof.Rows hiding St
open L2
/-! ## what is walked -/
/-- the iterator J yields xs, while P stands; Ns: the addresses that its items and P lean on -/
structure Walk (K : PySem.W.Frag) (CA : Nat → Addr) (J : It) (xs : List D) (Ns : List Addr) (P : Hp → Prop) : Prop where
  go : ∀ i H, i < xs.length → P H → J.go i H
  stop : ∀ H, P H → J.stop xs.length H
  yld : ∀ i H x H' d, P H → xs[i]? = some d → J.yld i H x H' → Same H H' ∧ ∃ Z, Rep K CA H' 0 d x [] Z ∧ ∀ a ∈ Z, a ∈ Ns
  keep : ∀ F H H', P H → Keep F H H' → Fix F H → (∀ a ∈ Ns, a ∉ F) → P H'
  there : ∀ H, P H → ∀ a ∈ Ns, H a ≠ none
section
variable {K : PySem.W.Frag} {CA : Nat → Addr}
theorem Reps.get0' {H : Hp} {ds : List D} {vs : List V} {Z : List Addr} (i : Nat) (d : D) (r : Reps K CA H 0 ds vs [] Z) (h : ds[i]? = some d) : ∃ v Z1, vs[i]? = some v ∧ Rep K CA H 0 d v [] Z1 ∧ ∀ a ∈ Z1, a ∈ Z := r.get0 i d h
theorem Reps.lt {H : Hp} {n : Nat} {ds : List D} {vs : List V} {O Z : List Addr} (r : Reps K CA H n ds vs O Z) {i : Nat} (h : i < ds.length) : ∃ v, vs[i]? = some v := by
  rw [r.length] at h; exact ⟨_, List.getElem?_eq_getElem h⟩
theorem walk_list {a : Addr} {xs : List D} {Ns : List Addr} (ha : a ∈ Ns) : Walk K CA (Itl K a) xs Ns (fun H => ∃ vs Z, H a = some (.lst vs) ∧ Reps K CA H 0 xs vs [] Z ∧ (∀ b ∈ Z, b ∈ Ns) ∧ ∀ b ∈ Ns, H b ≠ none) where
  go := fun i H hi ⟨vs, Z, h1, r, _⟩ => let ⟨v, hv⟩ := r.lt hi; ⟨vs, v, .of h1, hv⟩
  stop := fun H ⟨vs, Z, h1, r, _⟩ => ⟨vs, .of h1, by rw [r.length]; exact Nat.le_refl _⟩
  yld := fun i H x H' d ⟨vs, Z, h1, r, hz, _⟩ hd ⟨e, y⟩ => by
    subst e
    obtain ⟨v, Z1, hv, rv, h2⟩ := r.get0' i d hd
    have := y vs (.of h1)
    rw [hv] at this; cases this
    exact ⟨Same.refl _, Z1, rv, fun b hb => hz b (h2 b hb)⟩
  keep := fun F H H' ⟨vs, Z, h1, r, hz, ht⟩ k f hn => ⟨vs, Z, k _ _ h1 (hn a ha), r.keep k f (fun b hb => hn b (hz b (by simpa using hb))), hz, fun b hb => by
    cases e : H b with
    | none => exact absurd e (ht b hb)
    | some o => rw [k b o e (hn b hb)]; simp⟩
  there := fun H ⟨vs, Z, h1, r, hz, ht⟩ => ht
theorem walk_tup {a : Addr} {xs : List D} {Ns : List Addr} : Walk K CA (Itt K a) xs Ns (fun H => ∃ vs Z, SqT K H a vs ∧ Reps K CA H 0 xs vs [] Z ∧ (∀ b ∈ Z, b ∈ Ns) ∧ ∀ b ∈ Ns, H b ≠ none) where
  go := fun i H hi ⟨vs, Z, h1, r, _⟩ => let ⟨v, hv⟩ := r.lt hi; ⟨vs, v, h1, hv⟩
  stop := fun H ⟨vs, Z, h1, r, _⟩ => ⟨vs, h1, by rw [r.length]; exact Nat.le_refl _⟩
  yld := fun i H x H' d ⟨vs, Z, h1, r, hz, _⟩ hd ⟨e, y⟩ => by
    subst e
    obtain ⟨v, Z1, hv, rv, h2⟩ := r.get0' i d hd
    have := y vs h1
    rw [hv] at this; cases this
    exact ⟨Same.refl _, Z1, rv, fun b hb => hz b (h2 b hb)⟩
  keep := fun F H H' ⟨vs, Z, h1, r, hz, ht⟩ k f hn => ⟨vs, Z, SqT_keep h1 k f, r.keep k f (fun b hb => hn b (hz b (by simpa using hb))), hz, fun b hb => by
    cases e : H b with
    | none => exact absurd e (ht b hb)
    | some o => rw [k b o e (hn b hb)]; simp⟩
  there := fun H ⟨vs, Z, h1, r, hz, ht⟩ => ht
theorem walk_scr {a : Addr} {ns : List Int} : Walk K CA (Itl K a) (ns.map D.int) [] (fun H => SqZ K H a (ns.map V.int)) where
  go := fun i H hi h1 => ⟨_, .int (ns[i]'(by simpa using hi)), h1.l, by simp at hi; simp [List.getElem?_map, hi]⟩
  stop := fun H h1 => ⟨_, h1.l, by simp⟩
  yld := fun i H x H' d h1 hd ⟨e, y⟩ => by
    subst e
    have q := y _ h1.l
    rw [List.getElem?_map] at q hd
    cases h : ns[i]? with
    | none => rw [h] at hd; cases hd
    | some n => rw [h] at q hd; cases q; cases hd; exact ⟨Same.refl _, [], .int n, by simp⟩
  keep := fun F H H' h1 k f hn => SqZ_keep h1 k f
  there := fun H _ a h => by simp at h
theorem walk_str {s : Cs} (hb : Bd s) : Walk K CA (Its (mkS s)) (s.map fun c => .str [c]) [] (fun _ => True) where
  go := fun i H hi _ => by simpa [Its, mkS] using hi
  stop := fun H _ => by simp [Its, mkS]
  yld := fun i H x H' d _ hd ⟨e, c, hc, hx⟩ => by
    subst e; subst hx
    rw [List.getElem?_map] at hd
    have hc : s[i]? = some c := by simpa [mkS] using hc
    rw [hc] at hd; cases hd
    exact ⟨Same.refl _, [], .str (s := [c]) fun a q => by simp at q; subst q; exact hb _ (List.mem_of_getElem? hc), by simp⟩
  keep := fun _ _ _ _ _ _ _ => trivial
  there := fun H _ a h => by simp at h
theorem walk_rng {lo : Int} {n : Nat} : Walk K CA (Itr lo n) ((List.range n).map fun k => .int (lo + (k : Nat))) [] (fun _ => True) where
  go := fun i H hi _ => by simpa [Itr] using hi
  stop := fun H _ => by simp [Itr]
  yld := fun i H x H' d _ hd ⟨e, hx⟩ => by
    subst e; subst hx
    rw [List.getElem?_map] at hd
    obtain ⟨k, hk, e⟩ := Option.map_eq_some_iff.mp hd
    have : k = i := by
      obtain ⟨h1, h2⟩ := List.getElem?_eq_some_iff.mp hk
      simpa using h2.symm
    subst this; subst e
    exact ⟨Same.refl _, [], .int _, by simp⟩
  keep := fun _ _ _ _ _ _ _ => trivial
  there := fun H _ a h => by simp at h
theorem walk_enum {a : Addr} {xs : List D} {Ns : List Addr} (ha : a ∈ Ns) : Walk K CA (Ite K a) (enumD xs) Ns (fun H => ∃ vs Z, H a = some (.lst vs) ∧ Reps K CA H 0 xs vs [] Z ∧ (∀ b ∈ Z, b ∈ Ns) ∧ ∀ b ∈ Ns, H b ≠ none) where
  go := fun i H hi ⟨vs, Z, h1, r, _⟩ => let ⟨v, hv⟩ := r.lt (i := i) (by simpa [enumD] using hi); ⟨vs, v, .of h1, hv⟩
  stop := fun H ⟨vs, Z, h1, r, _⟩ => ⟨vs, .of h1, by simp [enumD, r.length]⟩
  yld := fun i H x H' d ⟨vs, Z, h1, r, hz, _⟩ hd ⟨T, y, e, hT, e', hy⟩ => by
    subst e; subst e'
    have hd' : ∃ d0, xs[i]? = some d0 ∧ d = .tup [.int (i : Nat), d0] := by
      unfold enumD at hd
      rw [List.getElem?_map, List.getElem?_zipIdx] at hd
      cases h : xs[i]? with
      | none => rw [h] at hd; cases hd
      | some d0 => rw [h] at hd; simp at hd; exact ⟨d0, rfl, hd.symm⟩
    obtain ⟨d0, hd0, rfl⟩ := hd'
    obtain ⟨v, Z1, hv, rv, h2⟩ := r.get0' i d0 hd0
    have := hy vs (.of h1)
    rw [hv] at this; cases this
    have k : Same H (upd H T (.tup [.int (i : Nat), y])) := sameNew hT
    refine ⟨k, Z1, .tup (.of upd_same) ?_, fun b hb => hz b (h2 b hb)⟩
    have := Reps.cons (K := K) (CA := CA) (H := upd H T (.tup [.int (i : Nat), y])) (n := 0) (.int (i : Nat)) (Reps.cons (rv.same k) .nil)
    simpa using this
  keep := (walk_list (K := K) (CA := CA) (xs := xs) ha).keep
  there := (walk_list (K := K) (CA := CA) (xs := xs) ha).there
theorem walk_enumS {a : Addr} {ns : List Int} : Walk K CA (Ite K a) (enumD (ns.map .int)) [] (fun H => SqZ K H a (ns.map V.int)) where
  go := fun i H hi h1 => ⟨_, .int (ns[i]'(by simpa [enumD] using hi)), h1.l, by simp [enumD] at hi; simp [List.getElem?_map, hi]⟩
  stop := fun H h1 => ⟨_, h1.l, by simp [enumD]⟩
  yld := fun i H x H' d h1 hd ⟨T, y, e, hT, e', hy⟩ => by
    subst e; subst e'
    unfold enumD at hd
    rw [List.getElem?_map, List.getElem?_zipIdx, List.getElem?_map] at hd
    have q := hy _ h1.l
    rw [List.getElem?_map] at q
    cases h : ns[i]? with
    | none => rw [h] at hd; cases hd
    | some n =>
      rw [h] at hd q
      simp at hd q
      subst hd; subst q
      refine ⟨sameNew hT, [], .tup (.of upd_same) ?_, by simp⟩
      exact Reps.cons (O := []) (Z := []) (.int _) (Reps.cons (O := []) (Z := []) (.int _) .nil)
  keep := fun F H H' h1 k f hn => SqZ_keep h1 k f
  there := fun H _ a h => by simp at h
def DenI (K : PySem.W.Frag) (CA : Nat → Addr) (W : WX) (M : D × Nat → Addr → Prop) (o : Out (D × Nat)) (σ : St) (H : Hp) (R : It → Hp → Prop) : Prop :=
  match o with
  | .ok p => ∃ xs, itemsOf p.1 = some xs ∧ ∀ J H' Ns P, Same H H' → P H' → Walk K CA J xs Ns P → (∀ a ∈ Ns, H a = none ∨ M p a) → R J H'
  | .exc e => ∀ cls dd H', Same H H' → ExRep K CA e cls dd H' → W cls dd σ H'
  | .bad => False
/-- what is walked leans on the slots named, unless it is owned to its depth -/
def Mi (S : Slots) (it : C) (p : D × Nat) (a : Addr) : Prop := ¬ p.1.mdep ≤ p.2 ∧ Nod S (names it) a
def tI (X : Cx) (G : Glo) (CA : Nat → Addr) (cf : Runs) (W : WX) (it : C) : TI := fun σ H R => ∃ S, SRep X.K CA S σ H ∧ DenI X.K CA W (Mi S it) (ev G cf (envOf S) it) σ H R
end
section
variable {X : Cx} {nm : Nm} {G : Glo} {CA : Nat → Addr} {cf : Runs} {W : WX} {tg : Expr}
theorem iter_list {pins : List (Addr × Obj)} {σ : St} {H : Hp} {s : Shared} {a : Addr} {xs : List V} {R : It → Hp → Prop} {E : Value → Shared → Prop} (I : Inv X pins σ H s) (hq : SqL X.K H a xs) (q : R (Itl X.K a) H) :
    wpAny (model X.prog X.w) X.A (pyIter (.ref a)) (PIE X pins σ tg R) E s := by
  obtain ⟨its, rv, p, hz⟩ := I.list hq
  refine wpAny_pyIter_list p.isList ?_
  refine ⟨s.heap.objs.size, [s.heap.objs.size], _, _, H, rfl, I.kept (t' := s.toks) fun b o e => Heap.get?_push_of_some _ e, turn_list a _, ⟨_, Heap.get?_push_size _ rfl, rfl, rfl⟩, fun b hb => ?_, q⟩
  have e : b = s.heap.objs.size := by simpa using hb
  subst e
  exact I.fpOk (Nat.le_refl _) (I.hok.fresh (Nat.le_refl _))
theorem iter_tup {pins : List (Addr × Obj)} {σ : St} {H : Hp} {s : Shared} {a : Addr} {xs : List V} {R : It → Hp → Prop} {E : Value → Shared → Prop} (I : Inv X pins σ H s) (hq : SqT X.K H a xs) (q : R (Itt X.K a) H) :
    wpAny (model X.prog X.w) X.A (pyIter (.ref a)) (PIE X pins σ tg R) E s := by
  obtain ⟨its, rv, p, hz⟩ := I.tuple hq
  refine wpAny_pyIter_tuple (show s.heap.IsTuple a its.toArray from p) ?_
  refine ⟨s.heap.objs.size, [s.heap.objs.size], _, _, H, rfl, I.kept (t' := s.toks) fun b o e => Heap.get?_push_of_some _ e, turn_tuple a _, ⟨_, Heap.get?_push_size _ rfl, rfl, rfl⟩, fun b hb => ?_, q⟩
  have e : b = s.heap.objs.size := by simpa using hb
  subst e
  exact I.fpOk (Nat.le_refl _) (I.hok.fresh (Nat.le_refl _))
theorem iter_str {pins : List (Addr × Obj)} {σ : St} {H : Hp} {s : Shared} {x : Str} {t : Tok} {R : It → Hp → Prop} (I : Inv X pins σ H s) (q : R (Its x) H) :
    wpAny (model X.prog X.w) X.A (pyIter (.str x t)) (PIE X pins σ tg R) X.xe s := by
  cases ha : x.cps.all (· < 128)
  · exact wpAny_pyIter_wide ha (pi_one (tk := s.toks) I _ (turn_str _ x t "str_iterator" (.inr rfl)) ⟨_, Heap.get?_push_size _ rfl, rfl, rfl⟩ q)
  · exact wpAny_pyIter_ascii ha (pi_one (tk := s.toks) I _ (turn_str _ x t "str_ascii_iterator" (.inl rfl)) ⟨_, Heap.get?_push_size _ rfl, rfl, rfl⟩ q)
/-- a list, a tuple, a text, the script: by its value (no dict) -/
def plainIt (p : D × Nat) : Prop := ∀ ks vs, p.1 ≠ .dct ks vs
theorem i_val {c : C} {e : Expr} (h : PE X e (tE X G CA cf W c)) : PI X tg e (tI X G CA cf W c) := by
  refine ⟨fun pins s σ H R I ⟨S, sr, hd⟩ => ?_⟩
  let Q : VK := fun v H1 => ∃ (d : D) (n : Nat) (O Z : List Addr) (xs : List D), PVal X.K CA (Nod S (names c)) H H1 d n v O Z ∧ itemsOf d = some xs ∧ (∀ ks vs, d ≠ .dct ks vs) ∧
    ∀ J H' Ns P, Same H H' → P H' → Walk X.K CA J xs Ns P → (∀ a ∈ Ns, H a = none ∨ Mi S c (d, n) a) → R J H'
  refine thn (h.run pins s σ H Q I ⟨S, sr, ?_⟩) fun v s1 ⟨x, H1, I1, r1, d, n, O, Z, xs, pv, hx, hnd, q⟩ => ?_
  · cases e : ev G cf (envOf S) c with
    | ok p => rw [e] at hd; obtain ⟨xs, hx, q⟩ := hd; exact fun v H' O Z pv => ⟨p.1, p.2, O, Z, xs, pv, hx, (fun ks vs e => by rw [e] at hx; cases hx), q⟩
    | exc z => rw [e] at hd; exact hd
    | bad => rw [e] at hd; exact hd
  · have ns : ∀ a ∈ O ++ Z, H a = none ∨ Mi S c (d, n) a := fun a ha => by
      by_cases hf : d.mdep ≤ n
      · have := pv.rep.full hf
        subst this
        exact .inl (pv.fresh a (by simpa using ha))
      · rcases List.mem_append.mp ha with z | z
        · exact .inl (pv.fresh a z)
        · exact (pv.zin a z).imp id fun w => ⟨hf, w⟩
    have low : ∀ {vs : List V} {m : Nat} {O' Z' : List Addr}, Reps X.K CA H1 m xs vs O' Z' → (∀ b ∈ O', b ∈ O) → (∀ b ∈ Z', b ∈ Z) → ∃ Z0, Reps X.K CA H1 0 xs vs [] Z0 ∧ ∀ b ∈ Z0, b ∈ O ++ Z := fun r h1 h2 => by
      obtain ⟨Z0, r0, h0⟩ := r.zeroed
      exact ⟨Z0, r0, fun b hb => (h0 b hb).elim (fun z => by simp [h1 b z]) fun z => by simp [h2 b z]⟩
    cases d <;> first | (cases hx; done) | exact absurd rfl (hnd _ _) | skip
    · cases hx
      obtain ⟨rfl, _, _, hb⟩ := pv.rep.str_inv
      obtain ⟨t, rfl⟩ := r1
      exact iter_str I1 (q _ H1 [] _ pv.same trivial (walk_str hb) (by simp))
    · cases hx
      obtain ⟨a, vs, rfl, h1, r⟩ := pv.rep.tup_inv
      cases r1
      obtain ⟨Z0, r0, h0⟩ := low r (fun b h => h) fun b h => h
      exact iter_tup I1 h1 (q _ H1 (O ++ Z) _ pv.same ⟨vs, Z0, h1, r0, h0, fun b hb => pv.rep.there b hb⟩ walk_tup ns)
    · cases hx
      obtain ⟨a, vs, O', Z', m, rfl, h1, r, hO, hZ⟩ := pv.rep.lst_inv
      cases r1
      obtain ⟨Z0, r0, h0⟩ := low r hO hZ
      have ha : a ∈ O ++ Z := by
        have := pv.rep
        cases this with
        | lstO _ _ => simp
        | lstZ _ _ => simp
      exact iter_list I1 (.of h1) (q _ H1 (O ++ Z) _ pv.same ⟨vs, Z0, h1, r0, h0, fun b hb => pv.rep.there b hb⟩ (walk_list ha) ns)
    · cases hx
      obtain ⟨a, rfl, h1, _⟩ := pv.rep.scr_inv
      cases r1
      exact iter_list I1 h1.l (q _ H1 [] _ pv.same h1 walk_scr (by simp))

theorem i_rng1 {np : Nat → Option Nat} {bl : List Str} {c : C} {e : Expr} {p pos : Pos} (C : CtxOk X nm G CA cf np bl) (hr : ("range" : Str) ∈ bl) (hg : Gl X "range") (h : PE X e (tE X G CA cf W c)) (hs : noStar e = true) : PI X tg (.Call (.Name "range" p) [e] [] pos) (tI X G CA cf W (.rng [c])) := by
  refine ⟨fun pins s σ H R I ⟨S, sr, hd⟩ => (pi_range1 hg (C.blt _ hr) (a_cons h a_nil (star_cons hs)) (by rw [star_cons hs]; rfl)).run pins s σ H R I ⟨S, sr, ?_⟩⟩
  have hd' : DenI X.K CA W (Mi S (.rng [c])) ((evs G cf (envOf S) [c]).bind fun ps => (rngD (ps.map (·.1))).bind fun xs => .ok (.lst xs, 9)) σ H R := by rw [ev] at hd; exact hd
  cases e1 : evs G cf (envOf S) [c] with
  | exc x => rw [e1] at hd'; exact hd'
  | bad => rw [e1] at hd'; exact hd'
  | ok ps =>
    rw [e1] at hd'
    intro vs H1 O Z s1 pv
    simp only [evs] at e1
    cases e2 : ev G cf (envOf S) c with
    | exc x => rw [e2] at e1; cases e1
    | bad => rw [e2] at e1; cases e1
    | ok q =>
      rw [e2] at e1; cases e1
      obtain ⟨v, rfl, p1⟩ := pv.one_inv
      obtain ⟨d, n⟩ := q
      cases d <;> first | exact hd'.elim | skip
      simp only [List.map_cons, List.map_nil, Out.bind_ok, rngD] at hd'
      unfold gd at hd'
      split at hd'
      · rename_i hb
        obtain ⟨xs, hx, q⟩ := hd'
        cases hx
        refine ⟨_, by rw [p1.rep.int_inv.1], hb.1, hb.2, ?_⟩
        refine q _ H1 [] (fun _ => True) s1 trivial ?_ (by simp)
        unfold rangeD
        rw [Int.sub_zero]
        exact walk_rng
      · exact hd'.elim
theorem i_rng2 {np : Nat → Option Nat} {bl : List Str} {c c2 : C} {e e2 : Expr} {p pos : Pos} (C : CtxOk X nm G CA cf np bl) (hr : ("range" : Str) ∈ bl) (hg : Gl X "range") (h : PE X e (tE X G CA cf W c)) (hs : noStar e = true) (h2 : PE X e2 (tE X G CA cf W c2)) (hs2 : noStar e2 = true) :
    PI X tg (.Call (.Name "range" p) [e, e2] [] pos) (tI X G CA cf W (.rng [c, c2])) := by
  refine ⟨fun pins s σ H R I ⟨S, sr, hd⟩ => (pi_range2 hg (C.blt _ hr) (a_cons h (a_cons h2 a_nil (star_cons hs2)) (star_cons hs)) (by rw [star_cons hs, star_cons hs2]; rfl) (by rw [star_cons hs2]; rfl)).run pins s σ H R I ⟨S, sr, ?_⟩⟩
  have hd' : DenI X.K CA W (Mi S (.rng [c, c2])) ((evs G cf (envOf S) [c, c2]).bind fun ps => (rngD (ps.map (·.1))).bind fun xs => .ok (.lst xs, 9)) σ H R := by rw [ev] at hd; exact hd
  cases e1 : evs G cf (envOf S) [c, c2] with
  | exc x => rw [e1] at hd'; exact hd'
  | bad => rw [e1] at hd'; exact hd'
  | ok ps =>
    rw [e1] at hd'
    intro vs H1 O Z s1 pv
    simp only [evs] at e1
    obtain ⟨q, _, e1⟩ := Out.bind_eq_ok e1
    obtain ⟨l, e3, e1⟩ := Out.bind_eq_ok e1
    obtain ⟨q2, _, e3⟩ := Out.bind_eq_ok e3
    cases e3; cases e1
    obtain ⟨v, w, O1, Z1, O2, Z2, rfl, p1, p2⟩ := pv.two_inv
    obtain ⟨d, n⟩ := q
    obtain ⟨d2, n2⟩ := q2
    cases d <;> first | exact hd'.elim | skip
    cases d2 <;> first | exact hd'.elim | skip
    simp only [List.map_cons, List.map_nil, Out.bind_ok, rngD] at hd'
    unfold gd at hd'
    split at hd'
    · rename_i hb
      obtain ⟨xs, hx, q⟩ := hd'
      cases hx
      refine ⟨_, _, by rw [p1.rep.int_inv.1, p2.rep.int_inv.1], hb, ?_⟩
      exact q _ H1 [] _ s1 trivial walk_rng (by simp)
    · exact hd'.elim
end
end Vy

namespace Vy
open PySem PySem.Spec
open PyProof.Rows hiding St
open L2
/-! ## comprehensions -/
theorem compL_exc {f : D → Out (Option (D × Nat))} : ∀ {xs : List D} {e : Exn}, compL f xs ≠ .exc e
  | [], _ => fun h => by cases h
  | x :: xs, e => fun h => by
    unfold compL at h
    split at h
    · cases q : compL f xs with
      | ok ys => rw [q] at h; simp only [Out.bind_ok] at h; unfold gd at h; split at h <;> cases h
      | exc e' => exact compL_exc q
      | bad => rw [q] at h; cases h
    · exact compL_exc h
    · cases h
theorem compL_cons {f : D → Out (Option (D × Nat))} {x : D} {xs : List D} {ps : List (D × Nat)} (h : compL f (x :: xs) = .ok ps) :
    (∃ y ys, f x = .ok (some y) ∧ compL f xs = .ok ys ∧ ps = y :: ys ∧ ps.length ≤ SZ) ∨ (f x = .ok none ∧ compL f xs = .ok ps) := by
  unfold compL at h
  split at h
  · rename_i y e
    obtain ⟨ys, h1, h⟩ := Out.bind_eq_ok h
    obtain ⟨h2, h⟩ := gd_ok h
    cases h
    exact .inl ⟨y, ys, e, h1, rfl, h2⟩
  · rename_i e
    exact .inr ⟨e, h⟩
  · cases h
theorem compL_hd {f : D → Out (Option (D × Nat))} {x : D} {xs : List D} {ps : List (D × Nat)} (h : compL f (x :: xs) = .ok ps) : f x = .ok none ∨ ∃ y, f x = .ok (some y) := by
  rcases compL_cons h with ⟨y, ys, z, _⟩ | ⟨z, _⟩
  · exact .inr ⟨y, z⟩
  · exact .inl z
section
variable {K : PySem.W.Frag} {CA : Nat → Addr}
theorem PVs.updD {M : Addr → Prop} {H1 H : Hp} {ps : List (D × Nat)} {vs : List V} {O Z : List Addr} {Dd : Addr} {ws : List V} {o : HO} (p : PVs K CA M H1 H ps vs O Z) (hD : H Dd = some (.lst ws)) (h1 : H1 Dd = none) (hn : Dd ∉ O ++ Z) : PVs K CA M H1 (upd H Dd o) ps vs O Z := by
  induction p with
  | nil => exact .nil
  | @cons q v O1 Z1 ps vs O2 Z2 pv _ a b ih =>
    refine .cons ⟨fun c u e => ?_, ?_, pv.fresh, pv.nd, pv.zin, pv.zo⟩ (ih ?_) a b
    · have hc : c ≠ Dd := fun z => by rw [z, h1] at e; cases e
      rw [upd_ne hc]; exact pv.same c u e
    · refine pv.rep.keep (F := [Dd]) (fun c u e hc => ?_) (fun c hc => ?_) (fun c hc => ?_)
      · rw [upd_ne (by simpa using hc)]; exact e
      · simp at hc; subst hc; rw [hD]; trivial
      · intro z; simp at z; subst z; exact hn (by simp at hc ⊢; rcases hc with z | z <;> simp [z])
    · intro z; exact hn (by simp at z ⊢; rcases z with z | z <;> simp [z])
theorem PVs.snoc {M : Addr → Prop} {H1 H : Hp} {ps : List (D × Nat)} {vs : List V} {O Z : List Addr} {q : D × Nat} {v : V} {O' Z' : List Addr} (p : PVs K CA M H1 H ps vs O Z) (w : PVal K CA M H1 H q.1 q.2 v O' Z') (a : ∀ x ∈ O', x ∉ O ++ Z) (b : ∀ x ∈ O, x ∉ Z') :
    PVs K CA M H1 H (ps ++ [q]) (vs ++ [v]) (O ++ O') (Z ++ Z') := by
  induction p with
  | nil => simpa using PVs.cons w .nil (by simp) (by simp)
  | @cons r u O1 Z1 ps vs O2 Z2 pv _ c d ih =>
    have := PVs.cons pv (ih (fun x hx z => a x hx (by simp at z ⊢; rcases z with z | z <;> simp [z])) fun x hx => b x (by simp [hx])) (fun x hx => ?_) (fun x hx z => ?_)
    · simpa [List.append_assoc] using this
    · rcases List.mem_append.mp hx with z | z
      · exact c x z
      · intro w; exact a x z (by simp at w ⊢; rcases w with w | w <;> simp [w])
    · rcases List.mem_append.mp z with z | z
      · exact d x hx z
      · exact b x (by simp [hx]) z
theorem norm_root {H : Hp} {d : D} {v : V} {Z : List Addr} (r : Rep K CA H 0 d v [] Z) : Rep K CA H (norm (d, 0)).2 d v [] Z := by
  unfold norm
  by_cases h : d.mdep = 0
  · simp only [h, if_true]
    obtain ⟨_, e, r'⟩ := r.imm (m := 9) h
    subst e; exact r'
  · simp only [h, if_false]; exact r
theorem norm_fst (p : D × Nat) : (norm p).1 = p.1 := by unfold norm; split <;> rfl
/-- a slot takes an item of others -/
def putR (S : Slots) (i : Nat) (d : D) (v : V) (Z : List Addr) : Slots := S.set i (some ⟨d, (norm (d, 0)).2, v, [], Z⟩)
theorem envOf_put {S : Slots} {i : Nat} {d : D} {v : V} {Z : List Addr} : envOf (putR S i d v Z) = setV (envOf S) i (d, 0) := by
  unfold putR setV envOf
  rw [List.map_set]
  congr 2
  show some (d, (norm (d, 0)).2) = _
  rw [show norm (d, 0) = ((norm (d, 0)).1, (norm (d, 0)).2) from rfl, norm_fst]
theorem SRep.put {S : Slots} {σ σ' : St} {H : Hp} (sr : SRep K CA S σ H) {i : Nat} {d : D} {v : V} {Z : List Addr} (r : Rep K CA H 0 d v [] Z) (hi : i < S.length) (hl : σ'.length = σ.length)
    (hs : ∀ j, j ≠ i → ∀ x, S[j]? = some (some x) → σ'[j]? = σ[j]?) (h1 : σ'[i]? = some (some v)) : SRep K CA (putR S i d v Z) σ' H where
  len := by unfold putR; rw [List.length_set, sr.len, hl]
  rep := fun j x hx => by
    unfold putR at hx
    by_cases hj : i = j
    · subst hj
      rw [List.getElem?_set_self hi] at hx
      cases hx
      exact ⟨h1, norm_root r⟩
    · rw [List.getElem?_set_ne hj] at hx
      obtain ⟨a, b⟩ := sr.rep j x hx
      exact ⟨by rw [hs j (Ne.symm hj) x hx]; exact a, b⟩
end
theorem wipe_get {σ : St} {j : Nat} : ∀ {vs : List Nat}, j ∉ vs → (wipe σ vs)[j]? = σ[j]?
  | [], _ => rfl
  | v :: vs, h => by
    simp at h
    unfold wipe
    rw [List.getElem?_set_ne (Ne.symm h.1), wipe_get h.2]
theorem wipe_at {σ : St} {j : Nat} : ∀ {vs : List Nat}, j ∈ vs → j < σ.length → (wipe σ vs)[j]? = some none
  | [], h, _ => by simp at h
  | v :: vs, h, hl => by
    unfold wipe
    by_cases e : v = j
    · subst e; rw [List.getElem?_set_self (by rw [wipe_length]; exact hl)]
    · rw [List.getElem?_set_ne e]
      exact wipe_at (by simpa [Ne.symm e] using h) hl
theorem wipe_wipe {σ : St} {vs : List Nat} : wipe (wipe σ vs) vs = wipe σ vs := List.ext_getElem? fun j => by
  by_cases h : j ∈ vs
  · by_cases hl : j < σ.length
    · rw [wipe_at h hl, wipe_at h (by rw [wipe_length]; exact hl)]
    · rw [List.getElem?_eq_none (by simp [wipe_length]; omega), List.getElem?_eq_none (by simp [wipe_length]; omega)]
  · rw [wipe_get h]
/-- the target's slots -/
def Tg.is : Tg → List Nat
  | .one i => [i]
  | .tup l => l
section
variable {X : Cx} {nm : Nm} {G : Glo} {CA : Nat → Addr} {cf : Runs} {W : WX}
abbrev W0 : WX := fun _ _ _ _ => False
/-- a target has taken an item of others, that leans on Z -/
structure Put (S : Slots) (σ : St) (S' : Slots) (σ' : St) (is : List Nat) (Z : List Addr) : Prop where
  len : σ'.length = σ.length
  oth : ∀ j, j ∉ is → S'[j]? = S[j]? ∧ σ'[j]? = σ[j]?
  new : ∀ i ∈ is, ∀ r : Root, S'[i]? = some (some r) → r.O = [] ∧ ∀ a ∈ r.Z, a ∈ Z
theorem Put.wipe {S S' : Slots} {σ σ' : St} {is : List Nat} {Z : List Addr} (p : Put S σ S' σ' is Z) : wipe σ' is = wipe σ is := List.ext_getElem? fun j => by
  by_cases h : j ∈ is
  · by_cases hl : j < σ.length
    · rw [wipe_at h hl, wipe_at h (by rw [p.len]; exact hl)]
    · rw [List.getElem?_eq_none (by rw [wipe_length, p.len]; omega), List.getElem?_eq_none (by rw [wipe_length]; omega)]
  · rw [wipe_get h, wipe_get h, (p.oth j h).2]
theorem Put.nod {S S' : Slots} {σ σ' : St} {is : List Nat} {Z : List Addr} (p : Put S σ S' σ' is Z) {js : List Nat} {a : Addr} (h : Nod S' js a) : Nod S js a ∨ a ∈ Z := by
  obtain ⟨j, hj, r, e, q⟩ := h
  by_cases hi : j ∈ is
  · obtain ⟨e1, e2⟩ := p.new j hi r e
    rw [e1] at q
    exact .inr (e2 a (by simpa using q))
  · rw [(p.oth j hi).1] at e
    exact .inl ⟨j, hj, r, e, q⟩
/-- how a target takes an item: the slots behind it -/
def TgOk (K : PySem.W.Frag) (CA : Nat → Addr) (tg : Tg) (g : TG) : Prop := ∀ (S : Slots) (σ : St) (H : Hp) (d : D) (v : V) (Z : List Addr) (ρ : Env) (Q : St → Hp → Prop), SRep K CA S σ H → Rep K CA H 0 d v [] Z → tg.put (envOf S) d = .ok ρ → (∀ i ∈ tg.is, i < S.length) →
  (∀ S' σ', SRep K CA S' σ' H → envOf S' = ρ → Put S σ S' σ' tg.is Z → Q σ' H) → g v σ H Q
theorem put_one {K : PySem.W.Frag} {S : Slots} {σ : St} {H : Hp} {d : D} {v : V} {Z : List Addr} {i : Nat} (sr : SRep K CA S σ H) (r : Rep K CA H 0 d v [] Z) (hi : i < S.length) :
    SRep K CA (putR S i d v Z) (σ.set i (some v)) H ∧ Put S σ (putR S i d v Z) (σ.set i (some v)) [i] Z := by
  refine ⟨sr.put r hi (by simp) (fun j hj x hx => by rw [List.getElem?_set_ne (Ne.symm hj)]) (by rw [List.getElem?_set_self (by rw [← sr.len]; exact hi)]), by simp, fun j hj => ?_, fun j hj r e => ?_⟩
  · have : i ≠ j := fun z => hj (by simp [z])
    unfold putR
    rw [List.getElem?_set_ne this, List.getElem?_set_ne this]
    exact ⟨rfl, rfl⟩
  · simp at hj
    subst hj
    unfold putR at e
    rw [List.getElem?_set_self hi] at e
    cases e
    exact ⟨rfl, fun a h => h⟩
theorem tg_one {K : PySem.W.Frag} {i : Nat} : TgOk K CA (.one i) (gName i) := by
  intro S σ H d v Z ρ Q sr r hp hi h
  have hp : Out.ok (setV (envOf S) i (d, 0)) = Out.ok ρ := hp
  cases hp
  have hi : i < S.length := hi i (by simp [Tg.is])
  exact h _ _ (put_one sr r hi).1 envOf_put (put_one sr r hi).2
def gNames : List Nat → TGs
  | [] => gNil
  | i :: is => gCons (gName i) (gNames is)
theorem gNames_ok {K : PySem.W.Frag} {H : Hp} {Q : St → Hp → Prop} : ∀ (is : List Nat) (ds : List D) (vs : List V) (Z : List Addr) (S : Slots) (σ : St), SRep K CA S σ H → Reps K CA H 0 ds vs [] Z → is.length = ds.length → (∀ i ∈ is, i < S.length) → is.Nodup →
    (∀ S' σ', SRep K CA S' σ' H → envOf S' = (is.zip ds).foldl (fun r p => setV r p.1 (p.2, 0)) (envOf S) → Put S σ S' σ' is Z → Q σ' H) → gNames is vs σ H Q
  | [], ds, vs, Z, S, σ, sr, r, hl, hi, nd, h => by
    cases ds <;> cases hl
    cases r
    exact ⟨rfl, h S σ sr rfl ⟨rfl, fun j _ => ⟨rfl, rfl⟩, by simp⟩⟩
  | i :: is, ds, vs, Z, S, σ, sr, r, hl, hi, nd, h => by
    cases ds with
    | nil => cases hl
    | cons d ds =>
    obtain ⟨v, vs', Z1, Z2, rfl, r1, r2, rfl⟩ : ∃ v vs' Z1 Z2, vs = v :: vs' ∧ Rep K CA H 0 d v [] Z1 ∧ Reps K CA H 0 ds vs' [] Z2 ∧ Z = Z1 ++ Z2 := by
      generalize hO : ([] : List Addr) = O at r
      generalize hX : d :: ds = dd at r
      cases r with
      | nil => cases hX
      | cons r1 r2 =>
        cases hX
        obtain ⟨e1, e2⟩ := List.append_eq_nil_iff.mp hO.symm
        subst e1; subst e2
        exact ⟨_, _, _, _, rfl, r1, r2, rfl⟩
    have hi0 : i < S.length := hi i (by simp)
    obtain ⟨p1, p2⟩ := put_one sr r1 hi0
    have hl' : is.length = ds.length := by simpa using hl
    have nd' := List.nodup_cons.mp nd
    refine ⟨v, vs', rfl, ?_⟩
    refine gNames_ok is ds vs' Z2 _ _ p1 r2 hl' (fun j hj => by unfold putR; rw [List.length_set]; exact hi j (by simp [hj])) nd'.2 fun S' σ' sr' he pu => ?_
    refine h S' σ' sr' (by rw [he, envOf_put]; rfl) ⟨by rw [pu.len, p2.len], fun j hj => ?_, fun j hj r e => ?_⟩
    · simp at hj
      obtain ⟨q1, q2⟩ := pu.oth j hj.2
      obtain ⟨q3, q4⟩ := p2.oth j (by simp [hj.1])
      exact ⟨q1.trans q3, q2.trans q4⟩
    · rcases List.mem_cons.mp hj with rfl | hj
      · rw [(pu.oth j nd'.1).1] at e
        obtain ⟨w1, w2⟩ := p2.new j (by simp) r e
        exact ⟨w1, fun a ha => by simp [w2 a ha]⟩
      · obtain ⟨w1, w2⟩ := pu.new j hj r e
        exact ⟨w1, fun a ha => by simp [w2 a ha]⟩
theorem tg_tup {K : PySem.W.Frag} {is : List Nat} (nd : is.Nodup) : TgOk K CA (.tup is) (gTup K is.length (gNames is)) := by
  intro S σ H d v Z ρ Q sr r hp hi h
  cases d <;> first | (cases hp; done) | skip
  rename_i ds
  obtain ⟨hl, hp⟩ := gd_ok (show gd _ _ = .ok ρ from hp)
  cases hp
  obtain ⟨a, vs, rfl, hq, rs⟩ := r.tup_inv
  exact ⟨a, vs, rfl, hq, by rw [← rs.length, hl], gNames_ok is ds vs Z S σ sr rs hl hi nd h⟩
/-- the interpreter's turn -/
def turnF (G : Glo) (cf : Runs) (ρ : Env) (tg : Tg) (t : Option C) (e : C) (d : D) : Out (Option (D × Nat)) :=
  (tg.put ρ d).bind fun ρ' => (evt G cf ρ' t).bind fun b => if b = true then (ev G cf ρ' e).bind fun y => .ok (some y) else .ok none
def tTo (X : Cx) (G : Glo) (CA : Nat → Addr) (cf : Runs) (W : WX) (t : Option C) : TT := fun σ H Q => ∃ S, SRep X.K CA S σ H ∧ DenB X.K CA W (evt G cf (envOf S) t) σ H Q
theorem envOf_len (S : Slots) : (envOf S).length = S.length := by unfold envOf; simp
/-- S without the target's slots -/
def wipeS (S : Slots) : List Nat → Slots
  | [] => S
  | v :: vs => (wipeS S vs).set v none
theorem wipeS_len (S : Slots) : ∀ vs, (wipeS S vs).length = S.length
  | [] => rfl
  | v :: vs => by unfold wipeS; rw [List.length_set, wipeS_len S vs]
theorem wipeS_get {S : Slots} {j : Nat} : ∀ {vs : List Nat}, j ∉ vs → (wipeS S vs)[j]? = S[j]?
  | [], _ => rfl
  | v :: vs, h => by
    simp at h
    unfold wipeS
    rw [List.getElem?_set_ne (Ne.symm h.1), wipeS_get h.2]
theorem wipeS_some {S : Slots} {j : Nat} {r : Root} : ∀ {vs : List Nat}, (wipeS S vs)[j]? = some (some r) → S[j]? = some (some r) ∧ j ∉ vs
  | [], h => ⟨h, by simp⟩
  | v :: vs, h => by
    unfold wipeS at h
    by_cases e : v = j
    · subst e
      by_cases hv : v < (wipeS S vs).length
      · rw [List.getElem?_set_self hv] at h; cases h
      · rw [List.getElem?_eq_none (by simpa using hv)] at h; cases h
    · rw [List.getElem?_set_ne e] at h
      obtain ⟨a, b⟩ := wipeS_some h
      exact ⟨a, by simp [Ne.symm e, b]⟩
theorem SRep.wipe {K : PySem.W.Frag} {S : Slots} {σ : St} {H : Hp} (sr : SRep K CA S σ H) (vs : List Nat) : SRep K CA (wipeS S vs) (L2.wipe σ vs) H where
  len := by rw [wipeS_len, wipe_length, sr.len]
  rep := fun i r h => by
    obtain ⟨a, b⟩ := wipeS_some h
    obtain ⟨c, d⟩ := sr.rep i r a
    exact ⟨by rw [wipe_get b]; exact c, d⟩
theorem put_wipe {S : Slots} {tg : Tg} (h1 : ∀ l, tg = .tup l → l.Nodup) (d : D) : tg.put (envOf (wipeS S tg.is)) d = tg.put (envOf S) d := by
  have one : ∀ (S : Slots) (i : Nat) (p : D × Nat), setV (envOf (S.set i none)) i p = setV (envOf S) i p := fun S i p => by
    unfold setV envOf; rw [List.map_set, List.set_set]
  cases tg with
  | one i => show Out.ok _ = Out.ok _; rw [show wipeS S (Tg.one i).is = S.set i none from rfl, one]
  | tup l =>
    cases d <;> first | rfl | skip
    rename_i ds
    show gd _ _ = gd _ _
    have key : ∀ (ps : List (Nat × D)) (ρ ρ' : Env), ρ.length = ρ'.length → (∀ j, j ∉ ps.map (·.1) → ρ[j]? = ρ'[j]?) → ps.foldl (fun r p => setV r p.1 (p.2, 0)) ρ = ps.foldl (fun r p => setV r p.1 (p.2, 0)) ρ' := by
      intro ps
      induction ps with
      | nil => intro ρ ρ' hl h; exact List.ext_getElem? fun j => h j (by simp)
      | cons p ps ih =>
        intro ρ ρ' hl h
        rw [List.foldl_cons, List.foldl_cons]
        refine ih _ _ (by unfold setV; simp [hl]) fun j hj => ?_
        unfold setV
        by_cases e : p.1 = j
        · subst e
          by_cases hp : p.1 < ρ.length
          · rw [List.getElem?_set_self hp, List.getElem?_set_self (by rw [← hl]; exact hp)]
          · rw [List.getElem?_eq_none (by simpa using hp), List.getElem?_eq_none (by simp; omega)]
        · rw [List.getElem?_set_ne e, List.getElem?_set_ne e]
          exact h j (by simp; exact ⟨Ne.symm e, by simpa using hj⟩)
    have hw : ∀ (l : List Nat) (j : Nat), j ∉ l → (envOf (wipeS S l))[j]? = (envOf S)[j]? := fun l j hj => by
      unfold envOf; rw [List.getElem?_map, List.getElem?_map, wipeS_get hj]
    unfold gd
    split
    · rename_i hlen
      show Out.ok (List.foldl _ (envOf (wipeS S l)) (l.zip ds)) = _
      rw [key (l.zip ds) (envOf (wipeS S l)) (envOf S) (by rw [envOf_len, envOf_len, wipeS_len]) fun j hj => hw l j (by
        rw [List.map_fst_zip (Nat.le_of_eq hlen)] at hj; exact hj)]
    · rfl
theorem Nod.wipe {S : Slots} {vs is : List Nat} {a : Addr} (h : Nod (wipeS S vs) is a) : Nod S is a := by
  obtain ⟨i, hi, r, e, q⟩ := h
  exact ⟨i, hi, r, (wipeS_some e).1, q⟩
theorem Nod.there' {K : PySem.W.Frag} {S : Slots} {σ : St} {H : Hp} {is : List Nat} {a : Addr} (sr : SRep K CA S σ H) (h : Nod S is a) : H a ≠ none := by
  obtain ⟨i, hi, r, e, q⟩ := h
  exact (sr.rep i r e).2.there a q
theorem same_there {H H' : Hp} (s : Same H H') {a : Addr} (h : H a ≠ none) : H' a ≠ none := by
  cases e : H a with
  | none => exact absurd e h
  | some o => rw [s a o e]; simp
theorem PVal.updD {K : PySem.W.Frag} {M : Addr → Prop} {H1 H : Hp} {d : D} {n : Nat} {v : V} {O Z : List Addr} {Dd : Addr} {ws : List V} {o : HO} (p : PVal K CA M H1 H d n v O Z) (hD : H Dd = some (.lst ws)) (h1 : H1 Dd = none) (hn : Dd ∉ O ++ Z) : PVal K CA M H1 (upd H Dd o) d n v O Z := by
  have q := PVs.updD (o := o) (PVs.cons (p := (d, n)) p .nil (by simp) (by simp)) hD h1 (by simpa using hn)
  obtain ⟨v', e, p'⟩ := PVs.one_inv q
  cases e
  simpa using p'
theorem compL_len {f : D → Out (Option (D × Nat))} : ∀ {xs : List D} {ps : List (D × Nat)}, compL f xs = .ok ps → ps.length ≤ SZ
  | [], ps, h => by cases h; simp
  | x :: xs, ps, h => by
    rcases compL_cons h with ⟨y, ys, _, _, _, z⟩ | ⟨_, z⟩
    · exact z
    · exact compL_len z
/-- a comprehension's reading from what it comes to -/
theorem lc_sem {it : C} {tg : Tg} {t : Option C} {e : C} {g : TG} {σ : St} {H : Hp} {Q : VK} (hg : TgOk X.K CA tg g) (nd : ∀ l, tg = .tup l → l.Nodup) (hi : ∀ i ∈ tg.is, i < σ.length)
    (h : tE X G CA cf W (.lc it tg t e) σ H Q) : tLc (tI X G CA cf W it) g (tTo X G CA cf W0 t) (tE X G CA cf W0 e) tg.is σ H Q := by
  obtain ⟨S, sr, hd⟩ := h
  rw [ev] at hd
  refine ⟨S, sr, ?_⟩
  cases e1 : ev G cf (envOf S) it with
  | exc x => rw [e1] at hd; exact hd
  | bad => rw [e1] at hd; exact hd
  | ok p =>
  rw [e1] at hd
  simp only [Out.bind_ok] at hd
  obtain ⟨xs, hx, hd⟩ := Den.of hd
  refine ⟨xs, hx, fun J H1 Ns P s1 hP w hNs Dd hDn => ?_⟩
  generalize hf : (fun d => (tg.put (envOf S) d).bind fun ρ' => (evt G cf ρ' t).bind fun b => if b = true then (ev G cf ρ' e).bind fun y => .ok (some y) else .ok none) = f at hd
  cases e2 : compL f xs with
  | exc x => exact absurd e2 compL_exc
  | bad => rw [e2] at hd; exact hd.elim
  | ok ps =>
  rw [e2] at hd
  have hlen := compL_len e2
  let M1 : Addr → Prop := fun a => Nod S (names it ++ (namesO t ++ names e)) a ∨ a ∈ Ns
  have hN0 : ∀ a ∈ Ns, H1 a ≠ none := w.there H1 hP
  have hDN : Dd ∉ Ns := fun z => hN0 Dd z hDn
  have sNod : ∀ {is : List Nat} {a : Addr}, Nod S is a → H1 a ≠ none := fun h => same_there s1 (h.there' sr)
  refine ⟨fun i m Hc => m = xs.length - i ∧ i ≤ xs.length ∧ ∃ done rest vs O Z, ps = done ++ rest ∧ compL f (xs.drop i) = .ok rest ∧ Hc Dd = some (.lst vs) ∧ PVs X.K CA M1 H1 Hc done vs O Z ∧ Dd ∉ O ++ Z ∧ Same H1 Hc ∧ P Hc, ?_, ?_⟩
  · refine ⟨xs.length, rfl, Nat.zero_le _, [], ps, [], [], [], rfl, e2, upd_same, .nil, by simp, sameNew hDn, ?_⟩
    exact w.keep [] H1 _ hP (keepS (sameNew hDn)) (fun a z => by simp at z) (by simp)
  · rintro i m Hc ⟨rfl, hil, done, rest, vs, O, Z, hps, hr, hD, pv, hDO, sc, hPc⟩
    have srw : SRep X.K CA (wipeS S tg.is) (wipe σ tg.is) Hc := (sr.same (s1.trans sc)).wipe tg.is
    by_cases hlt : i < xs.length
    · right
      refine ⟨w.go i Hc hlt hPc, fun H' => ∃ done rest vs O Z, ps = done ++ rest ∧ compL f (xs.drop (i + 1)) = .ok rest ∧ H' Dd = some (.lst vs) ∧ PVs X.K CA M1 H1 H' done vs O Z ∧ Dd ∉ O ++ Z ∧ Same H1 H' ∧ P H', fun H' hx => ⟨xs.length - (i + 1), by omega, rfl, by omega, hx⟩, fun x H2 hy => ?_⟩
      have hxi : xs[i]? = some xs[i] := List.getElem?_eq_getElem hlt
      obtain ⟨s2, Zx, rx, hZx⟩ := w.yld i Hc x H2 xs[i] hPc hxi hy
      rw [List.drop_eq_getElem_cons hlt] at hr
      have hput : ∀ ρ', tg.put (envOf S) xs[i] = .ok ρ' → (evt G cf ρ' t).bind (fun b => if b = true then (ev G cf ρ' e).bind fun y => .ok (some y) else .ok none) = f xs[i] → g x (wipe σ tg.is) H2 fun σ2 H2 => wipe σ2 tg.is = wipe σ tg.is ∧ tTo X G CA cf W0 t σ2 H2 fun b H3 =>
          if b = true then tE X G CA cf W0 e σ2 H3 fun y H4 => ∃ acc, H4 Dd = some (.lst acc) ∧ acc.length < sizeLine ∧ (fun H' => ∃ done rest vs O Z, ps = done ++ rest ∧ compL f (xs.drop (i + 1)) = .ok rest ∧ H' Dd = some (.lst vs) ∧ PVs X.K CA M1 H1 H' done vs O Z ∧ Dd ∉ O ++ Z ∧ Same H1 H' ∧ P H') (upd H4 Dd (.lst (acc ++ [y])))
          else (fun H' => ∃ done rest vs O Z, ps = done ++ rest ∧ compL f (xs.drop (i + 1)) = .ok rest ∧ H' Dd = some (.lst vs) ∧ PVs X.K CA M1 H1 H' done vs O Z ∧ Dd ∉ O ++ Z ∧ Same H1 H' ∧ P H') H3 := by
        intro ρ' hp hfx
        refine hg (wipeS S tg.is) (wipe σ tg.is) H2 xs[i] x Zx ρ' _ (srw.same s2) rx (by rw [put_wipe nd]; exact hp) (fun j hj => by rw [wipeS_len, sr.len]; exact hi j hj) fun S' σ' sr' hρ pu => ?_
        refine ⟨by rw [pu.wipe, wipe_wipe], S', sr', ?_⟩
        rw [hρ]
        have keepP : ∀ {H4 : Hp} {o : HO}, Same Hc H4 → P (upd H4 Dd o) ∧ P H4 := fun {H4 o} s => by
          have p4 : P H4 := w.keep [] Hc _ hPc (keepS s) (fun a z => by simp at z) (by simp)
          refine ⟨w.keep [Dd] H4 _ p4 (fun c u e hc => by rw [upd_ne (by simpa using hc)]; exact e) (fun c hc => ?_) (fun a ha z => ?_), p4⟩
          · simp at hc; subst hc; rw [s _ _ hD]; trivial
          · simp at z; subst z; exact hDN ha
        cases e3 : evt G cf ρ' t with
        | exc y => rw [e3] at hfx; exact (compL_hd hr).elim (fun z => by rw [← hfx] at z; cases z) fun ⟨_, z⟩ => by rw [← hfx] at z; cases z
        | bad => rw [e3] at hfx; exact (compL_hd hr).elim (fun z => by rw [← hfx] at z; cases z) fun ⟨_, z⟩ => by rw [← hfx] at z; cases z
        | ok b =>
        rw [e3] at hfx
        simp only [Out.bind_ok] at hfx
        intro H3 s3
        cases b with
        | false =>
          simp only [Bool.false_eq_true, if_false] at hfx ⊢
          rcases compL_cons hr with ⟨y, ys, z, _⟩ | ⟨_, z⟩
          · rw [← hfx] at z; cases z
          · have s23 : Same Hc H3 := s2.trans s3
            exact ⟨done, rest, vs, O, Z, hps, z, s23 _ _ hD, pv.later s23, hDO, sc.trans s23, (keepP (o := .lst []) s23).2⟩
        | true =>
          simp only [if_true] at hfx ⊢
          refine ⟨S', sr'.same s3, ?_⟩
          rw [hρ]
          cases e4 : ev G cf ρ' e with
          | exc y => rw [e4] at hfx; exact (compL_hd hr).elim (fun z => by rw [← hfx] at z; cases z) fun ⟨_, z⟩ => by rw [← hfx] at z; cases z
          | bad => rw [e4] at hfx; exact (compL_hd hr).elim (fun z => by rw [← hfx] at z; cases z) fun ⟨_, z⟩ => by rw [← hfx] at z; cases z
          | ok y =>
          rw [e4] at hfx
          simp only [Out.bind_ok] at hfx
          intro yv H4 Oy Zy py
          rcases compL_cons hr with ⟨y', ys, z, z2, z3, _⟩ | ⟨z, _⟩
          rotate_left
          · rw [← hfx] at z; cases z
          · rw [← hfx] at z; cases z
            subst z3
            have s23 : Same Hc H3 := s2.trans s3
            have s24 : Same Hc H4 := s23.trans py.same
            have h13 : Same H1 H3 := sc.trans s23
            have hD4 : H4 Dd = some (.lst vs) := s24 _ _ hD
            have M1of : ∀ a, Nod S' (names e) a → M1 a := fun a hn => by
              rcases pu.nod hn with z | z
              · exact .inl (Nod.r (Nod.r z.wipe))
              · exact .inr (hZx a z)
            have M1th : ∀ a, M1 a → H1 a ≠ none := fun a z => z.elim (fun z => sNod z) (hN0 a)
            have pvl : vs.length = done.length := pv.length.symm
            refine ⟨vs, hD4, ?_, ?_⟩
            · rw [SZ_eq, pvl]
              have := congrArg List.length hps
              simp at this
              omega
            · have py1 : PVal X.K CA M1 H1 H4 y.1 y.2 yv Oy Zy := (py.mono M1of).ahead h13
              have hDy : Dd ∉ Oy ++ Zy := fun z => by
                rcases List.mem_append.mp z with z | z
                · have := py.fresh Dd z; rw [s23 _ _ hD] at this; cases this
                · rcases py.zin Dd z with z | z
                  · rw [s23 _ _ hD] at z; cases z
                  · exact M1th Dd (M1of _ z) hDn
              refine ⟨done ++ [y], ys, vs ++ [yv], O ++ Oy, Z ++ Zy, by rw [hps]; simp, z2, upd_same, ?_, ?_, ?_, (keepP s24).1⟩
              · refine PVs.snoc ((pv.later s24).updD hD4 hDn hDO) (py1.updD hD4 hDn hDy) (fun a ha z => ?_) (fun a ha z => ?_)
                · exact same_there s23 (pv.there a z) (py.fresh a ha)
                · have h1 := pv.fresh a ha
                  have h3 : H3 a ≠ none := same_there s23 (pv.there a (by simp [ha]))
                  rcases py.zin a z with q | q
                  · exact h3 q
                  · exact M1th a (M1of _ q) h1
              · intro z
                simp only [List.mem_append] at z hDO hDy
                rcases z with (z | z) | z | z
                · exact hDO (.inl z)
                · exact hDy (.inl z)
                · exact hDO (.inr z)
                · exact hDy (.inr z)
              · intro c u hc
                have : c ≠ Dd := fun q => by rw [q, hDn] at hc; cases hc
                rw [upd_ne this]
                exact (sc.trans s24) c u hc
      have key : ∃ ρ', tg.put (envOf S) xs[i] = .ok ρ' ∧ (evt G cf ρ' t).bind (fun b => if b = true then (ev G cf ρ' e).bind fun y => .ok (some y) else .ok none) = f xs[i] := by
        have hfx : f xs[i] = (tg.put (envOf S) xs[i]).bind fun ρ' => (evt G cf ρ' t).bind fun b => if b = true then (ev G cf ρ' e).bind fun y => .ok (some y) else .ok none := by rw [← hf]
        cases e3 : tg.put (envOf S) xs[i] with
        | ok ρ' => rw [e3] at hfx; exact ⟨ρ', rfl, hfx.symm⟩
        | exc y => rw [e3] at hfx; unfold compL at hr; rw [hfx] at hr; cases hr
        | bad => rw [e3] at hfx; unfold compL at hr; rw [hfx] at hr; cases hr
      obtain ⟨ρ', k1, k2⟩ := key
      exact hput ρ' k1 k2
    · left
      have hie : i = xs.length := by omega
      subst hie
      refine ⟨w.stop Hc hPc, ?_⟩
      rw [List.drop_length] at hr
      cases hr
      rw [List.append_nil] at hps
      subst hps
      obtain ⟨O', Z', r, l⟩ := pv.reps (lvL ps) (Nat.le_refl _)
      have sH : Same H Hc := s1.trans sc
      have zc : ∀ a ∈ Z', H a = none ∨ Nod S (names it ++ (namesO t ++ names e)) a := fun a ha => by
        rcases l.all a ha with z | z
        · exact .inl (same_none s1 (pv.fresh a z))
        · rcases pv.zin a z with z | z | z
          · exact .inl (same_none s1 z)
          · exact .inr z
          · rcases hNs a z with z | z
            · exact .inl z
            · exact .inr (Nod.l z.2)
      refine hd (.ref Dd) Hc (Dd :: O') Z' ⟨sH, .lstO hD r, ?_, ?_, zc, ?_⟩
      · intro a ha
        rcases List.mem_cons.mp ha with rfl | ha
        · exact same_none s1 hDn
        · exact same_none s1 (pv.fresh a (l.own a ha))
      · refine List.nodup_cons.mpr ⟨fun z => hDO (by simp [l.own _ z]), l.nd pv.nd⟩
      · intro a ha z
        rcases List.mem_cons.mp z with rfl | z
        · rcases l.all a ha with z | z <;> exact hDO (by simp [z])
        · exact l.zo pv.nd pv.zo a ha z
end
end Vy

namespace Vy
open PySem PySem.Spec
open PyProof.Rows hiding St
open L2
section
variable {X : Cx} {nm : Nm} {G : Glo} {CA : Nat → Addr} {cf : Runs} {W : WX}
/-- no set on display -/
def noSet : Expr → Bool
  | .Set _ _ _ => false
  | _ => true
theorem fold_no {e : Expr} {env : PySem.Env} (h : noSet e = true) : ∀ x, foldedSetIterable e env x = pure x := fun x => by
  cases e <;> first | rfl | cases h
/-- a comprehension's block -/
abbrev Cx.inn (X : Cx) (scope : Scope) (s : Shared) (H : Hp) (C : Addr) (cl : List (Str × Addr)) (fp : List Addr) : Cx := X.blk s H scope (compEnvC scope cl C X.env) fp
theorem CtxOk.inn {np : Nat → Option Nat} {bl : List Str} (C : CtxOk X nm G CA cf np bl) {scope : Scope} {s : Shared} {H : Hp} {c : Addr} {cl : List (Str × Addr)} {fp : List Addr} : CtxOk (Cx.inn X scope s H c cl fp) nm G CA cf np bl where
  N := C.N
  nd := C.nd
  calm := C.calm
  lev := let ⟨k, r, h⟩ := C.lev; ⟨k, r, fun f n e => let ⟨a, fd, ps, h1, h2, h3, h4, h5⟩ := (h f n e).ex; ⟨a, fd, ps, h1, h2, h3, h4, h5⟩⟩
  blt := C.blt
  glb := C.glb
theorem relS_free {sc : Scope} : ∀ {names : List (Str × NameKind)} {x : Str}, names.lookup x = some .free →
    (names.map fun (n, k) => if (k == NameKind.free && sc.kind == .function && sc.names.lookup n == some .cell) then (n, NameKind.cell) else (n, k)).lookup x = some .free ∨
    (names.map fun (n, k) => if (k == NameKind.free && sc.kind == .function && sc.names.lookup n == some .cell) then (n, NameKind.cell) else (n, k)).lookup x = some .cell
  | [], _, h => by simp at h
  | (n, k) :: r, x, h => by
    have ih := @relS_free sc r x
    rw [List.map_cons]
    cases hx : x == n with
    | true =>
      rw [List.lookup_cons, hx] at h
      cases h
      cases hc : (NameKind.free == NameKind.free && sc.kind == .function && sc.names.lookup n == some .cell) with
      | true => right; simp only [hc, if_true]; rw [List.lookup_cons, hx]
      | false => left; simp only [hc, Bool.false_eq_true, if_false]; rw [List.lookup_cons, hx]
    | false =>
      rw [List.lookup_cons, hx] at h
      have e : ∀ p : Str × NameKind, p.1 = n → List.lookup x (p :: (r.map fun (n, k) => if (k == NameKind.free && sc.kind == .function && sc.names.lookup n == some .cell) then (n, NameKind.cell) else (n, k))) = List.lookup x (r.map fun (n, k) => if (k == NameKind.free && sc.kind == .function && sc.names.lookup n == some .cell) then (n, NameKind.cell) else (n, k)) := fun ⟨a, b⟩ h => by
        have h : a = n := h
        subst h; rw [List.lookup_cons, hx]
      rw [e (if (k == NameKind.free && sc.kind == .function && sc.names.lookup n == some .cell) = true then (n, NameKind.cell) else (n, k)) (by cases (k == NameKind.free && sc.kind == .function && sc.names.lookup n == some .cell) <;> rfl)]
      exact ih h
theorem ScOk.inn {scope : Scope} {s : Shared} {H : Hp} {c : Addr} {cl : List (Str × Addr)} {fp : List Addr} : ScOk scope (Cx.inn X scope s H c cl fp) where
  loc := fun x h => lookup_relS_keep (sc := X.env.scope) (by decide) h
  cel := fun x h => ⟨lookup_relS_keep (sc := X.env.scope) (by decide) h, by show (scope.names.lookup x == some .cell) = true; rw [h]; rfl⟩
  fre := fun x h => relS_free (sc := X.env.scope) h
  glo := fun x h => lookup_relS_keep (sc := X.env.scope) (by decide) h
theorem ts_nil : PTs X [] (tTo X G CA cf W none) := ⟨fun pins s σ H Q I ⟨S, sr, h⟩ => pts_nil.run pins s σ H Q I (by
  have h : DenB X.K CA W (.ok true) σ H Q := by rw [evt] at h; exact h
  exact h H (Same.refl H))⟩
theorem ts_one {c : C} {e : Expr} (h : PT X e (tT X G CA cf W c)) : PTs X [e] (tTo X G CA cf W (some c)) := pts_one ⟨fun pins s σ H Q I ⟨S, sr, q⟩ => h.run pins s σ H Q I ⟨S, sr, by rw [evt] at q; exact q⟩⟩
/-- [elt for target in iter if ..] -/
theorem e_lc {np : Nat → Option Nat} {bl : List Str} (cx : CtxOk X nm G CA cf np bl) {it : C} {tg : Tg} {t : Option C} {e : C} {g : TG} {elt tge iter : Expr} {ifs : List Expr} {scope : Scope} {own : List (Str × Nat)} {pos : Pos}
    (hi : PI X tge iter (tI X G CA cf W it)) (ok : BlkOk X.N X.env.scope scope own) (hown : own.map (·.2) = tg.is) (nd : ∀ l, tg = .tup l → l.Nodup) (hg : TgOk X.K CA tg g)
    (pg : ∀ s H c cl fp, PG (Cx.inn X scope s H c cl fp) tge g) (ht : ∀ s H c cl fp, PTs (Cx.inn X scope s H c cl fp) ifs (tTo (Cx.inn X scope s H c cl fp) G CA cf W0 t))
    (he : ∀ s H c cl fp, PE (Cx.inn X scope s H c cl fp) elt (tE (Cx.inn X scope s H c cl fp) G CA cf W0 e)) (hs : noSet iter = true) :
    PE X (.ListComp elt [⟨tge, iter, ifs, 0⟩] scope pos) (tE X G CA cf W (.lc it tg t e)) := by
  refine ⟨fun pins s σ H Q I h => (pe_lc (tt := tTo X G CA cf W0 t) (te := tE X G CA cf W0 e) cx.calm cx.nd hi ok pg ht he (fold_no hs)).run pins s σ H Q I ?_⟩
  rw [hown]
  refine lc_sem hg nd (fun i hi => ?_) h
  rw [← hown] at hi
  obtain ⟨p, hp, e⟩ := List.mem_map.mp hi
  have := ok.ix p hp
  rw [I.len, ← e]
  exact (List.getElem?_eq_some_iff.mp this).1
/-- name = [..] on one line -/
theorem s_lc {np : Nat → Option Nat} {bl : List Str} (cx : CtxOk X nm G CA cf np bl) {it : C} {tg : Tg} {t : Option C} {e : C} {g : TG} {elt tge iter : Expr} {ifs : List Expr} {scope : Scope} {own : List (Str × Nat)} {pos spos : Pos} {i : Nat} {y : Str} {py : Pos}
    (hy : X.N[i]? = some y) (hyl : X.env.scope.names.lookup y = some .local) (hsw : swapsWith (.ListComp elt [⟨tge, iter, ifs, 0⟩] scope pos) (some (.Name y py)) spos.line X.env = pure true)
    (hi : PI X tge iter (tI X G CA cf W it)) (ok : BlkOk X.N X.env.scope scope own) (hown : own.map (·.2) = tg.is) (nd : ∀ l, tg = .tup l → l.Nodup) (hg : TgOk X.K CA tg g)
    (pg : ∀ s H c cl fp, PG (Cx.inn X scope s H c cl fp) tge g) (ht : ∀ s H c cl fp, PTs (Cx.inn X scope s H c cl fp) ifs (tTo (Cx.inn X scope s H c cl fp) G CA cf W0 t))
    (he : ∀ s H c cl fp, PE (Cx.inn X scope s H c cl fp) elt (tE (Cx.inn X scope s H c cl fp) G CA cf W0 e)) (hs : noSet iter = true) :
    PS X (.Assign [.Name y py] (.ListComp elt [⟨tge, iter, ifs, 0⟩] scope pos) spos) (tAsg (tE X G CA cf W (.lc it tg t e)) (gName i)) := by
  refine ⟨fun pins s σ H D I h => (ps_setLc (tt := tTo X G CA cf W0 t) (te := tE X G CA cf W0 e) cx.calm cx.nd hy hyl hsw hi ok pg ht he (fold_no hs)).run pins s σ H D I ?_⟩
  rw [hown]
  refine lc_sem hg nd (fun i hi => ?_) h
  rw [← hown] at hi
  obtain ⟨p, hp, e⟩ := List.mem_map.mp hi
  have := ok.ix p hp
  rw [I.len, ← e]
  exact (List.getElem?_eq_some_iff.mp this).1
/-- a name as target -/
theorem g_one {sc : Scope} {i : Nat} {x : Str} {pos : Pos} (S : ScOk sc X) (hN : X.N.Nodup) (hi : X.N[i]? = some x) (h : sc.names.lookup x = some .local ∨ sc.names.lookup x = some .cell) : PG X (.Name x pos) (gName i) := by
  rcases h with h | h
  · exact pg_name hN hi (.inl (S.loc x h)) (.inr (S.loc x h))
  · obtain ⟨h1, h2⟩ := S.cel x h
    exact pg_name hN hi (.inr h1) (.inl h2)
/-- names as targets of a tuple -/
inductive TgNames (sc : Scope) (N : List Str) : List Expr → List Nat → Prop
  | nil : TgNames sc N [] []
  | cons {x : Str} {i : Nat} {es : List Expr} {is : List Nat} {p : Pos} : N[i]? = some x → (sc.names.lookup x = some .local ∨ sc.names.lookup x = some .cell) → TgNames sc N es is → TgNames sc N (.Name x p :: es) (i :: is)
theorem g_names {sc : Scope} (S : ScOk sc X) (hN : X.N.Nodup) : ∀ {es : List Expr} {is : List Nat}, TgNames sc X.N es is → PGs X es (gNames is)
  | _, _, .nil => pgs_nil
  | _, _, .cons h1 h2 h => pgs_cons (g_one S hN h1 h2) (g_names S hN h) rfl
theorem TgNames.len {sc : Scope} {N : List Str} {env : PySem.Env} : ∀ {es : List Expr} {is : List Nat}, TgNames sc N es is → (assignEach es env).length = is.length
  | _, _, .nil => rfl
  | _, _, .cons _ _ h => by
    show (assignEach _ env).length + 1 = _ + 1
    rw [h.len]
theorem TgNames.plain {sc : Scope} {N : List Str} {env : PySem.Env} : ∀ {es : List Expr} {is : List Nat}, TgNames sc N es is → (assignEach es env).findIdx? (·.1) = none
  | _, _, .nil => rfl
  | _, _, .cons _ _ h => by
    show List.findIdx? _ ((false, _) :: assignEach _ env) = none
    rw [List.findIdx?_cons, h.plain]
    rfl
theorem g_tup {sc : Scope} (S : ScOk sc X) (hN : X.N.Nodup) (hc : X.calm = true) {es : List Expr} {is : List Nat} {k : Nat} {pos : Pos} (h : TgNames sc X.N es is) : PG X (.Tuple es k pos) (gTup X.K is.length (gNames is)) :=
  pg_tup hc (g_names S hN h) h.len h.plain
theorem enum_mdep {xs : List D} : mdepL xs ≤ mdepL (enumD xs) := mdepL_le fun d hd => by
  obtain ⟨i, hi, e⟩ := List.getElem_of_mem hd
  have : D.tup [.int (i : Nat), d] ∈ enumD xs := by
    unfold enumD
    refine List.mem_map.mpr ⟨(d, i), ?_, rfl⟩
    refine List.mem_iff_getElem?.mpr ⟨i, ?_⟩
    rw [List.getElem?_zipIdx, List.getElem?_eq_getElem hi, e]
    simp
  have h := mdepL_mem this
  simp only [D.mdep, mdepL] at h
  omega
theorem Nod.mono' {S : Slots} {is js : List Nat} {a : Addr} (w : Nod S is a) (h : ∀ i ∈ is, i ∈ js) : Nod S js a := w.mono h
/-- enumerate of a list -/
theorem i_enu {np : Nat → Option Nat} {bl : List Str} {c : C} {e : Expr} {p pos tpos : Pos} {elts : List Expr} {kk : Nat} (C : CtxOk X nm G CA cf np bl) (hr : ("enumerate" : Str) ∈ bl) (hg : Gl X "enumerate") (h : PE X e (tE X G CA cf W c)) (hs : noStar e = true) :
    PI X (.Tuple elts kk tpos) (.Call (.Name "enumerate" p) [e] [] pos) (tI X G CA cf W (.enu c)) := by
  refine ⟨fun pins s σ H R I ⟨S, sr, hd⟩ => (pi_enum (elts := elts) (kk := kk) (tpos := tpos) hg (C.blt _ hr) (a_cons h a_nil (star_cons hs)) (by rw [star_cons hs]; rfl)).run pins s σ H R I ⟨S, sr, ?_⟩⟩
  have hd' : DenI X.K CA W (Mi S (.enu c)) ((ev G cf (envOf S) c).bind fun x => .of ((lsqOf x.1).map fun xs => (.lst (enumD xs), x.2))) σ H R := by rw [ev] at hd; exact hd
  simp only [evs]
  cases e1 : ev G cf (envOf S) c with
  | exc x => rw [e1] at hd'; exact hd'
  | bad => rw [e1] at hd'; exact hd'
  | ok q =>
    rw [e1] at hd'
    obtain ⟨d, n⟩ := q
    intro vs H1 O Z s1 pv
    obtain ⟨v, rfl, p1⟩ := pv.one_inv
    simp only [Out.bind_ok] at hd'
    cases d <;> first | exact hd'.elim | skip
    · rename_i xs
      obtain ⟨ys, hy, q⟩ := hd'
      cases hy
      obtain ⟨a, ws, O', Z', m, rfl, h1, r, hO, hZ⟩ := p1.rep.lst_inv
      obtain ⟨Z0, r0, h0⟩ := r.zeroed
      have ha : a ∈ O ++ Z := by
        have := p1.rep
        cases this with
        | lstO _ _ => simp
        | lstZ _ _ => simp
      have hz0 : ∀ b ∈ Z0, b ∈ O ++ Z := fun b hb => by
        rcases h0 b hb with z | z
        · simp [hO b z]
        · simp [hZ b z]
      have hns : ∀ b ∈ O ++ Z, H b = none ∨ Mi S (.enu c) (.lst (enumD xs), n) b := fun b hb => by
        by_cases hf : (D.lst xs).mdep ≤ n
        · have := p1.rep.full hf
          subst this
          exact .inl (p1.fresh b (by simpa using hb))
        · rcases List.mem_append.mp hb with z | z
          · exact .inl (p1.fresh b z)
          · exact (p1.zin b z).imp id fun w => ⟨fun z => hf (Nat.le_trans (by rw [D.mdep]; exact Nat.succ_le_succ enum_mdep) z), w.mono' (by simp [namesL, names])⟩
      exact ⟨a, ws, rfl, .of h1, q _ H1 (O ++ Z) _ s1 ⟨ws, Z0, h1, r0, hz0, fun b hb => p1.rep.there b hb⟩ (walk_enum ha) hns⟩
    · rename_i ns
      obtain ⟨ys, hy, q⟩ := hd'
      cases hy
      obtain ⟨a, rfl, h1, _⟩ := p1.rep.scr_inv
      exact ⟨a, _, rfl, h1.l, q _ H1 [] _ s1 h1 walk_enumS (by simp)⟩
end
end Vy

namespace Vy
open PySem PySem.Spec
open PyProof.Rows hiding St
open L2
/-! ## paths into a slot's thing -/
inductive Ptp | fld (f : Cs) | ix (e : C)
structure Pth where
  i : Nat
  st : List Ptp
inductive Rtp | fld (f : Cs) | at (k : D)
def kids : D → List D
  | .ins _ _ vs => vs
  | .lst xs => xs
  | .dct _ vs => vs
  | _ => []
def setK (d : D) (j : Nat) (x : D) : D := match d with
  | .ins c fs vs => .ins c fs (vs.set j x)
  | .lst xs => .lst (xs.set j x)
  | .dct ks vs => .dct ks (vs.set j x)
  | d => d
def posP : D → Rtp → Option Nat
  | .ins c fs _, .fld f => go (c < 100) (fs.findIdx? (· == f))
  | .lst xs, .at (.int i) => ix xs.length i
  | .dct ks _, .at k => go ((vKey k).isSome = true) (ks.findIdx? fun x => pyEq x k)
  | _, _ => none
def getP : D × Nat → List Rtp → Option (D × Nat)
  | p, [] => some p
  | (_, 0), _ :: _ => none
  | (d, n + 1), r :: rs => (posP d r).bind fun j => ((kids d)[j]?).bind fun d' => getP (d', n) rs
def putP : D → List Rtp → D → D
  | _, [], x => x
  | d, r :: rs, x => match posP d r with
    | some j => match (kids d)[j]? with
      | some d' => setK d j (putP d' rs x)
      | none => d
    | none => d
/-- a def's argument: a value; others' or one's own part of a slot's thing, for the while of a call -/
inductive Ag | pu (c : C) | rd (p : Pth) | io (p : Pth)
inductive MO | app | pop | popi | clr | clrk | ins | rem | rvr | sda | popk
/-- a def's argument, a slot's whole thing lent for the while of the call, or a value -/
inductive Aw | pu (c : C) | io (i : Nat)
def Aw.ios : List Aw → List Nat
  | [] => []
  | .pu _ :: r => Aw.ios r
  | .io i :: r => i :: Aw.ios r
/-- at which places -/
def Aw.pos : Nat → List Aw → List Nat
  | _, [] => []
  | k, .pu _ :: r => Aw.pos (k + 1) r
  | k, .io _ :: r => k :: Aw.pos (k + 1) r
/-! ## expressions that change things -/
inductive Xp where
  | pu (c : C)
  | mop (p : Pth) (m : MO) (es : List C)
  | ioc (f : Nat) (as : List Ag)
  | iow (f : Nat) (as : List Aw)
  | cmp (o : CO) (a b : Xp)
  | sub (a : Xp) (i : C)
  | not (a : Xp) | and (a b : Xp) | or (a b : Xp)
  | tup (xs : List Xp) | lst (xs : List Xp) | cal (f : Nat) (xs : List Xp)
  | get (d : C) (x : Xp) (e : C)
  | lc (it : C) (tg : Tg) (t : Option Xp) (e : Xp)
/-- what a clause does with what was caught -/
inductive Sui | ret (c : C) | asg (i : Nat) (c : C) | rai (c : Nat) (fs : List Cs) (es : List C)
structure Hdl where
  cs : List Nat
  nm : Option Nat
  su : Exn → Sui
/-! ## statements -/
inductive S where
  | pass
  | asg (i : Nat) (e : C)
  | asgT (is : List Nat) (e : C)
  | exp (e : C)
  | ret (e : C)
  | retv (i : Nat)
  | retN
  | ife (t : C) (a b : List S)
  | whl (n : Nat) (t : C) (b : List S)
  | for_ (tg : Tg) (it : C) (b : List S)
  | forD (tg : Tg) (it : C) (b : List S)
  | app (i : Nat) (e : C)
  | amv (i j : Nat)
  | par (i j : Nat) (a b : C)
  | asgX (i : Nat) (x : Xp) | asgXT (is : List Nat) (x : Xp) | expX (x : Xp) | retX (x : Xp) | ifX (x : Xp) (a b : List S)
  | appX (i : Nat) (x : Xp)
  | st (p : Pth) (k e : C) | stX (i : Nat) (x : Xp) (e : C) | stf (p : Pth) (f : Cs) (e : C)
  | forX (tg : Tg) (x : Xp) (b : List S)
  | rai (c : Nat) (fs : List Cs) (es : List C)
  | tri (b : List S) (hs : List Hdl)
inductive OS | nx (ρ : Env) | rt (p : D × Nat) (ρ : Env) | exc (e : Exn) (ρ : Env) | bad
def onE {α : Type} (o : Out α) (ρ : Env) (f : α → OS) : OS := match o with
  | .ok a => f a
  | .exc e => .exc e ρ
  | .bad => .bad
@[simp] theorem onE_ok {α : Type} (a : α) (ρ : Env) (f : α → OS) : onE (.ok a) ρ f = f a := id rfl
@[simp] theorem onE_exc {α : Type} (e : Exn) (ρ : Env) (f : α → OS) : onE (.exc e) ρ f = .exc e ρ := id rfl
@[simp] theorem onE_bad {α : Type} (ρ : Env) (f : α → OS) : onE .bad ρ f = .bad := id rfl
/-- what others are told of is changed no more -/
def frz1 (ρ : Env) (i : Nat) : Env := match (ρ[i]?).bind id with
  | some p => setV ρ i (p.1, 0)
  | none => ρ
def frz (ρ : Env) (is : List Nat) : Env := is.foldl frz1 ρ
/-- full: all that may be changed in it is its own -/
def full (p : D × Nat) : Bool := decide (p.1.mdep ≤ p.2)
def bindV (ρ : Env) (i : Nat) (p : D × Nat) (ns : List Nat) : Env := if full p = true then setV ρ i p else setV (frz ρ ns) i p
def forL (f : Env → D → OS) : List D → Env → OS
  | [], ρ => .nx ρ
  | d :: r, ρ => match f ρ d with
    | .nx ρ' => forL f r ρ'
    | o => o
def whileL (c : Env → Out Bool) (f : Env → OS) : Nat → Env → OS
  | 0, _ => .bad
  | n + 1, ρ => match c ρ with
    | .ok true => match f ρ with
      | .nx ρ' => whileL c f n ρ'
      | o => o
    | .ok false => .nx ρ
    | .exc e => .exc e ρ
    | .bad => .bad
def appD (L : List Nat) (ρ : Env) (i : Nat) (p : D × Nat) (ns : List Nat) : OS :=
  if i ∈ L then .bad else match (ρ[i]?).bind id with
    | some (.lst xs, n) =>
      if 1 ≤ n ∧ xs.length + 1 ≤ SZ then
        if p.1.mdep = 0 then .nx (setV ρ i (.lst (xs ++ [p.1]), n))
        else if full p = true then .nx (setV ρ i (.lst (xs ++ [p.1]), min n (p.2 + 1)))
        else if i ∈ ns then .bad else .nx (setV (frz ρ ns) i (.lst (xs ++ [p.1]), min n (p.2 + 1)))
      else .bad
    | _ => .bad
def parD (ρ : Env) (i j : Nat) (ps : List (D × Nat)) (ns : List Nat) : OS := match ps with
  | [p, q] => .nx (setV (setV (if full p = true ∧ full q = true then ρ else frz ρ ns) i p) j q)
  | _ => .bad
def putS (ρ : Env) (tg : Tg) (d : D) (f : Env → OS) : OS := match tg.put ρ d with
  | .ok ρ' => f ρ'
  | _ => .bad
/-- what is handed in to be changed isn't named anew -/
def okJ (J is : List Nat) : Bool := is.all fun i => !J.contains i
def onJ (J is : List Nat) (o : OS) : OS := if okJ J is = true then o else .bad
/-! ### what is laid, taken, given -/
/-- the level of a thing that has taken another one in -/
def lvIn (n : Nat) (p : D × Nat) : Nat := if p.1.mdep = 0 then n else min n (p.2 + 1)
/-- a new row with one thing more -/
def insL (xs : List D) (i : Int) (x : D) : List D := xs.take i.toNat ++ [x] ++ xs.drop i.toNat
def putKD (ks vs : List D) (k x : D) : List D × List D := match ks.findIdx? fun y => pyEq y k with
  | some j => (ks, vs.set j x)
  | none => (ks ++ [k], vs ++ [x])
def opApp : D × Nat → List (D × Nat) → Option ((D × Nat) × (D × Nat))
  | (.lst xs, n + 1), [p] => go (xs.length + 1 ≤ SZ) (some ((.lst (xs ++ [p.1]), lvIn (n + 1) p), (.non, 9)))
  | _, _ => none
def opPop : D × Nat → List (D × Nat) → Option ((D × Nat) × (D × Nat))
  | (.lst xs, n + 1), [] => (xs.getLast?).bind fun x => go (x.mdep ≤ n) (some ((.lst xs.dropLast, n + 1), (x, n)))
  | _, _ => none
def opPopi : D × Nat → List (D × Nat) → Option ((D × Nat) × (D × Nat))
  | (.lst xs, n + 1), [(.int i, _)] => go (-(2 ^ 62) ≤ i ∧ i < 2 ^ 62) <| (ix xs.length i).bind fun j => (xs[j]?).bind fun x => go (x.mdep ≤ n) (some ((.lst (xs.eraseIdx j), n + 1), (x, n)))
  | _, _ => none
def opPopk : D × Nat → List (D × Nat) → Option ((D × Nat) × (D × Nat))
  | (.dct ks vs, n + 1), [(k, _)] => go ((vKey k).isSome = true) ((ks.findIdx? fun y => pyEq y k).bind fun j => (vs[j]?).bind fun x => go (x.mdep ≤ n) (some ((.dct (ks.eraseIdx j) (vs.eraseIdx j), n + 1), (x, n))))
  | _, _ => none
def opClr : D × Nat → List (D × Nat) → Option ((D × Nat) × (D × Nat))
  | (.lst _, n + 1), [] => some ((.lst [], n + 1), (.non, 9))
  | _, _ => none
def opClrk : D × Nat → List (D × Nat) → Option ((D × Nat) × (D × Nat))
  | (.dct _ _, n + 1), [] => some ((.dct [] [], n + 1), (.non, 9))
  | _, _ => none
def opIns : D × Nat → List (D × Nat) → Option ((D × Nat) × (D × Nat))
  | (.lst xs, n + 1), [(.int i, _), p] => go (xs.length + 1 ≤ SZ ∧ 0 ≤ i ∧ i < 2 ^ 62) (some ((.lst (insL xs i p.1), lvIn (n + 1) p), (.non, 9)))
  | _, _ => none
def opRem : D × Nat → List (D × Nat) → Option ((D × Nat) × (D × Nat))
  | (.lst xs, n + 1), [(.str s, _)] => (strsOf xs).bind fun ss => go (s ∈ ss) (some ((.lst ((ss.erase s).map .str), n + 1), (.non, 9)))
  | _, _ => none
def opRvr : D × Nat → List (D × Nat) → Option ((D × Nat) × (D × Nat))
  | (.lst xs, n + 1), [] => some ((.lst xs.reverse, n + 1), (.non, 9))
  | _, _ => none
def opSda : D × Nat → List (D × Nat) → Option ((D × Nat) × (D × Nat))
  | (.dct ks vs, n + 2), [(k, _), p] => go ((vKey k).isSome = true ∧ p.1.mdep = 0 ∧ ks.length + 1 < SZ) (match ks.findIdx? fun y => pyEq y k with
    | some j => (vs[j]?).bind fun v => match v with
      | .lst xs => go (xs.length + 1 ≤ SZ) (some ((.dct ks (vs.set j (.lst (xs ++ [p.1]))), n + 2), (.non, 9)))
      | _ => none
    | none => some ((.dct (ks ++ [k]) (vs ++ [.lst [p.1]]), n + 2), (.non, 9)))
  | _, _ => none
def nodeOp : MO → D × Nat → List (D × Nat) → Option ((D × Nat) × (D × Nat))
  | .app => opApp
  | .pop => opPop
  | .popi => opPopi
  | .popk => opPopk
  | .clr => opClr
  | .clrk => opClrk
  | .ins => opIns
  | .rem => opRem
  | .rvr => opRvr
  | .sda => opSda
/-- whose method it is -/
def mTy (m : MO) (q : D × Nat) : Bool := decide (1 ≤ q.2) && (match m, q.1 with
  | .popk, .dct _ _ => true
  | .sda, .dct _ _ => true
  | .clrk, .dct _ _ => true
  | .clrk, _ => false
  | .popk, _ => false
  | .sda, _ => false
  | _, .lst _ => true
  | _, _ => false)
def nodeP (ρ : Env) (i : Nat) (rs : List Rtp) : Option (D × Nat) := ((ρ[i]?).bind id).bind fun p => getP p rs
/-- o[k] = p -/
def stOp : D × Nat → D × Nat → D × Nat → Option (D × Nat)
  | (.lst xs, n + 1), (.int i, _), p => (ix xs.length i).map fun j => (.lst (xs.set j p.1), lvIn (n + 1) p)
  | (.dct ks vs, n + 1), (k, _), p => go ((vKey k).isSome = true ∧ ks.length + 1 < SZ) (some (.dct (putKD ks vs k p.1).1 (putKD ks vs k p.1).2, lvIn (n + 1) p))
  | _, _, _ => none
/-- o.f = p -/
def stfOp : D × Nat → Cs → D × Nat → Option (D × Nat)
  | (.ins c fs vs, n + 1), f, p => go (c < 100 ∧ fs.length < 1000) (match fs.findIdx? (· == f) with
    | some j => some (.ins c fs (vs.set j p.1), lvIn (n + 1) p)
    | none => some (.ins c (fs ++ [f]) (vs ++ [p.1]), lvIn (n + 1) p))
  | _, _, _ => none
/-- a slot's part is exchanged: its level may fall -/
def chgP (ρ : Env) (i : Nat) (rs : List Rtp) (q : D × Nat) : Option Env := ((ρ[i]?).bind id).bind fun p => (getP p rs).map fun _ => setV ρ i (putP p.1 rs q.1, min p.2 (q.2 + rs.length))
def takeP (ρ : Env) (i : Nat) (rs : List Rtp) : Option ((D × Nat) × Env) := ((ρ[i]?).bind id).bind fun p => (getP p rs).map fun q => (q, ρ.set i (some (putP p.1 rs .hol, p.2)))
def isHol : D → Bool
  | .hol => true
  | _ => false
def giveP (ρ : Env) (i : Nat) (rs : List Rtp) (q : D × Nat) : Option Env := ((ρ[i]?).bind id).bind fun p => (getP p rs).bind fun h => go (isHol h.1 = true) (match rs with
  | [] => some (setV ρ i q)
  | _ => go (h.2 ≤ q.2 ∨ q.1.mdep = 0) (some (ρ.set i (some (putP p.1 rs q.1, p.2)))))
/-- a part that was lent, to be given back -/
inductive Bk | pu | rd (i : Nat) (rs : List Rtp) (q : D × Nat) | io (i : Nat) (rs : List Rtp)
/-- the lent parts, given back in turn; the changed ones as they are now -/
def gives : Env → List Bk → List (D × Nat) → Option Env
  | ρ, [], [] => some ρ
  | ρ, .pu :: bs, ios => gives ρ bs ios
  | ρ, .rd i rs q :: bs, ios => (giveP ρ i rs q).bind fun ρ' => gives ρ' bs ios
  | ρ, .io i rs :: bs, q :: ios => (giveP ρ i rs q).bind fun ρ' => gives ρ' bs ios
  | _, _, _ => none
def Ag.ios : List Ag → List Nat
  | [] => []
  | .pu _ :: r => Ag.ios r
  | .rd _ :: r => Ag.ios r
  | .io p :: r => p.i :: Ag.ios r
inductive OX | ok (p : D × Nat) (ρ : Env) | exc (e : Exn) (ρ : Env) | bad
def OX.bind (o : OX) (f : D × Nat → Env → OX) : OX := match o with
  | .ok p ρ => f p ρ
  | .exc e ρ => .exc e ρ
  | .bad => .bad
@[simp] theorem OX.bind_ok (p : D × Nat) (ρ : Env) (f : D × Nat → Env → OX) : (OX.ok p ρ).bind f = f p ρ := id rfl
@[simp] theorem OX.bind_exc (e : Exn) (ρ : Env) (f : D × Nat → Env → OX) : (OX.exc e ρ).bind f = .exc e ρ := id rfl
@[simp] theorem OX.bind_bad (f : D × Nat → Env → OX) : OX.bad.bind f = .bad := id rfl
def onO {α : Type} (o : Out α) (ρ : Env) (f : α → OX) : OX := match o with
  | .ok a => f a
  | .exc e => .exc e ρ
  | .bad => .bad
@[simp] theorem onO_ok {α : Type} (a : α) (ρ : Env) (f : α → OX) : onO (.ok a) ρ f = f a := id rfl
@[simp] theorem onO_exc {α : Type} (e : Exn) (ρ : Env) (f : α → OX) : onO (.exc e) ρ f = .exc e ρ := id rfl
@[simp] theorem onO_bad {α : Type} (ρ : Env) (f : α → OX) : onO (.bad : Out α) ρ f = .bad := id rfl
def onX (o : OX) (f : D × Nat → Env → OS) : OS := match o with
  | .ok p ρ => f p ρ
  | .exc e ρ => .exc e ρ
  | .bad => .bad
@[simp] theorem onX_ok (p : D × Nat) (ρ : Env) (f : D × Nat → Env → OS) : onX (.ok p ρ) f = f p ρ := id rfl
@[simp] theorem onX_exc (e : Exn) (ρ : Env) (f : D × Nat → Env → OS) : onX (.exc e ρ) f = .exc e ρ := id rfl
@[simp] theorem onX_bad (f : D × Nat → Env → OS) : onX .bad f = .bad := id rfl
def OX.of (o : Option OX) : OX := match o with
  | some x => x
  | none => .bad
@[simp] theorem OX.of_some (x : OX) : OX.of (some x) = x := id rfl
@[simp] theorem OX.of_none : OX.of none = .bad := id rfl
def osOf (o : Option OS) : OS := match o with
  | some x => x
  | none => .bad
@[simp] theorem osOf_some (x : OS) : osOf (some x) = x := id rfl
@[simp] theorem osOf_none : osOf none = .bad := id rfl
-- the slots that are named last
mutual
def xnames : Xp → List Nat
  | .pu c => names c
  | .mop _ _ _ => []
  | .ioc _ _ => []
  | .iow _ _ => []
  | .cmp _ a b => []
  | .sub a i => xnames a ++ names i
  | .not a => []
  | .and a b => xnames a ++ xnames b
  | .or a b => xnames a ++ xnames b
  | .tup xs => xnamesL xs
  | .lst xs => xnamesL xs
  | .cal _ xs => xnamesL xs
  | .get d x e => names d ++ names e
  | .lc _ _ _ _ => []
def xnamesL : List Xp → List Nat
  | [] => []
  | x :: xs => xnames x ++ xnamesL xs
end
def lstOf : D → Option (List D)
  | .lst xs => some xs
  | _ => none
def isPu : Xp → Bool
  | .pu _ => true
  | _ => false
/-- nothing may be raised here -/
def noX {α : Type} : Out α → Out α
  | .ok a => .ok a
  | _ => .bad
@[simp] theorem noX_ok {α : Type} (a : α) : noX (.ok a) = .ok a := id rfl
@[simp] theorem noX_bad {α : Type} : noX (.bad : Out α) = .bad := id rfl
section
variable (G : Glo) (cf : Runs)
def rsv (ρ : Env) : List Ptp → Out (List Rtp)
  | [] => .ok []
  | .fld f :: r => (rsv ρ r).bind fun rs => .ok (.fld f :: rs)
  | .ix e :: r => (noX (ev G cf ρ e)).bind fun x => (rsv ρ r).bind fun rs => .ok (.at x.1 :: rs)
/-- the arguments of a call: what is handed in, the slots behind it, what is to be given back; values are those of ρ0 -/
def takes (L : List Nat) (io : List Nat) (ρ0 : Env) : Env → List Ag → Out (List (D × Nat) × Env × List Bk)
  | ρ, [] => .ok ([], ρ, [])
  | ρ, .pu c :: r => (ev G cf ρ0 c).bind fun p => gd (p.1.mdep = 0 ∨ ∀ i ∈ names c, i ∉ io) ((takes L io ρ0 ρ r).bind fun q => .ok (norm (p.1, 0) :: q.1, q.2.1, .pu :: q.2.2))
  | ρ, .rd p :: r => (rsv G cf ρ0 p.st).bind fun rs => (Out.of (takeP ρ p.i rs)).bind fun u => (takes L io ρ0 u.2 r).bind fun q => .ok (norm (u.1.1, 0) :: q.1, q.2.1, .rd p.i rs u.1 :: q.2.2)
  | ρ, .io p :: r => (rsv G cf ρ0 p.st).bind fun rs => (Out.of (takeP ρ p.i rs)).bind fun u => gd (p.i ∉ L) ((takes L io ρ0 u.2 r).bind fun q => .ok (norm u.1 :: q.1, q.2.1, .io p.i rs :: q.2.2))
/-- an operation at a part of a slot's thing: what comes, and the slots behind it -/
def mopX (L : List Nat) (ρ : Env) (i : Nat) (rs : List Rtp) (ns : List Nat) (ps : List (D × Nat)) (f : D × Nat → Option ((D × Nat) × (D × Nat))) : OX :=
  OX.of (if i ∈ L then none else ((ρ[i]?).bind id).bind fun p => (getP p rs).bind fun q => (f q).bind fun u =>
    if ps.all full = true then (chgP ρ i rs u.1).map fun ρ' => .ok u.2 ρ'
    else if i ∈ ns then none else (chgP (frz ρ ns) i rs u.1).map fun ρ' => .ok u.2 ρ')
/-- turns of a comprehension that change things -/
def lcX (f : Env → D → OX) (tf : Env → D → OX) (tg : Tg) (ρ0 : Env) : List D → Env → List (D × Nat) → OX
  | [], ρ, acc => .ok (.lst (acc.map (·.1)), lvL acc + 1) ρ
  | d :: r, ρ, acc => (tf ρ d).bind fun b ρ1 => match b.1 with
    | .bl true => (f ρ1 d).bind fun p ρ2 => OX.of (if full p = true ∧ acc.length + 1 ≤ SZ then some (lcX f tf tg ρ0 r ρ2 (acc ++ [p])) else none)
    | .bl false => lcX f tf tg ρ0 r ρ1 acc
    | _ => .bad
def evAw (ρ : Env) : List Aw → Out (List (D × Nat))
  | [] => .ok []
  | .pu c :: r => (ev G cf ρ c).bind fun p => (evAw ρ r).bind fun ps => .ok (norm (p.1, 0) :: ps)
  | .io i :: r => (Out.of ((ρ[i]?).bind id)).bind fun p => (evAw ρ r).bind fun ps => .ok (norm p :: ps)
/-- the values are apart from what is lent -/
def awSep (is : List Nat) : List Aw → List (D × Nat) → Bool
  | .pu c :: r, p :: ps => (decide (p.1.mdep = 0) || is.all fun i => !(names c).contains i) && awSep is r ps
  | .io _ :: r, _ :: ps => awSep is r ps
  | _, _ => true
/-- the values never change -/
def awImm : List Aw → List (D × Nat) → Bool
  | .pu _ :: r, p :: ps => decide (p.1.mdep = 0) && awImm r ps
  | .io _ :: r, _ :: ps => awImm r ps
  | _, _ => true
def setL : Env → List Nat → List (D × Nat) → Env
  | ρ, i :: is, q :: qs => setL (setV ρ i q) is qs
  | ρ, _, _ => ρ
def iowX (L : List Nat) (ρ : Env) (f : Nat) (as : List Aw) : OX := onO (evAw G cf ρ as) ρ fun ps =>
  if (Aw.ios as).Nodup ∧ (∀ i ∈ Aw.ios as, i ∉ L) ∧ awSep (Aw.ios as) as ps = true then (match cf.ci f ps with
    | .ok p qs => if qs.length = (Aw.ios as).length ∧ (qs.all full = true ∨ awImm as ps = true) then .ok p (setL ρ (Aw.ios as) qs) else .bad
    | .exc e qs => if qs.length = (Aw.ios as).length ∧ (qs.all full = true ∨ awImm as ps = true) then .exc e (setL ρ (Aw.ios as) qs) else .bad
    | .bad => .bad) else .bad
mutual
def exX (L : List Nat) (ρ : Env) : Xp → OX
  | .iow f as => iowX G cf L ρ f as
  | .pu c => onO (ev G cf ρ c) ρ fun p => .ok p ρ
  | .mop p m es => onO (rsv G cf ρ p.st) ρ fun rs => OX.of ((nodeP ρ p.i rs).map fun q => if mTy m q = true then onO (evs G cf ρ es) ρ fun ps => mopX L ρ p.i rs (namesL es) ps fun q => nodeOp m q ps else .bad)
  | .ioc f as => onO (takes G cf L (Ag.ios as) ρ ρ as) ρ fun q => match cf.ci f q.1 with
    | .ok p ios => OX.of ((gives q.2.1 q.2.2 ios).map fun ρ' => .ok p ρ')
    | .exc e ios => OX.of ((gives q.2.1 q.2.2 ios).map fun ρ' => .exc e ρ')
    | .bad => .bad
  | .cmp o a b => (exX L ρ a).bind fun x ρ1 => OX.of (if full x = true ∨ isPu b = true then some ((exX L ρ1 b).bind fun y ρ2 => OX.of ((cmpD o x.1 y.1).map fun r => .ok (.bl r, 9) ρ2)) else none)
  | .sub a i => (exX L ρ a).bind fun x ρ1 => onO (ev G cf ρ1 i) ρ1 fun y => OX.of ((subD x.1 y.1).map fun r => .ok r ρ1)
  | .not a => (exX L ρ a).bind fun x ρ1 => OX.of ((truth x.1).map fun b => .ok (.bl (!b), 9) ρ1)
  | .and a b => (exX L ρ a).bind fun x ρ1 => OX.of ((truth x.1).map fun r => if r = true then exX L ρ1 b else .ok x ρ1)
  | .or a b => (exX L ρ a).bind fun x ρ1 => OX.of ((truth x.1).map fun r => if r = true then .ok x ρ1 else exX L ρ1 b)
  | .tup xs => exXs L ρ xs fun ps ρ1 => OX.of (if ps.length ≤ SZ then some (.ok (.tup (ps.map (·.1)), lvL ps) ρ1) else none)
  | .lst xs => exXs L ρ xs fun ps ρ1 => OX.of (if ps.length ≤ SZ then some (.ok (.lst (ps.map (·.1)), lvL ps + 1) ρ1) else none)
  | .cal f xs => exXs L ρ xs fun ps ρ1 => onO (cf.pl f (ps.map (·.1))) ρ1 fun p => .ok p ρ1
  | .get d x e => onO (ev G cf ρ d) ρ fun p => (exX L ρ x).bind fun k ρ1 => onO (ev G cf ρ1 e) ρ1 fun y => OX.of ((methD .get p [k, y]).map fun r => .ok r ρ1)
  | .lc it tg t e => onO (ev G cf ρ it) ρ fun x => OX.of ((itemsOf x.1).map fun xs => .bad)
def exXs (L : List Nat) (ρ : Env) : List Xp → (List (D × Nat) → Env → OX) → OX
  | [], k => k [] ρ
  | x :: xs, k => (exX L ρ x).bind fun p ρ1 => OX.of (if full p = true ∨ xs.all isPu = true then some (exXs L ρ1 xs fun ps ρ2 => k (p :: ps) ρ2) else none)
end
/-- a clause's doing -/
def exSu (J : List Nat) (ρ : Env) : Sui → OS
  | .ret c => onE (ev G cf ρ c) ρ fun p => .rt p ρ
  | .asg i c => onE (ev G cf ρ c) ρ fun p => onJ J [i] (.nx (bindV ρ i p (names c)))
  | .rai c fs es => onE (evs G cf ρ es) ρ fun ps => if ps.all (fun p => decide (p.1.mdep = 0)) = true then .exc ⟨c, fs, ps.map (·.1)⟩ ρ else .bad
def handle (J : List Nat) (e : Exn) (ρ : Env) : List Hdl → OS
  | [] => .exc e ρ
  | h :: hs => if ((G.cm e.c).any fun c => h.cs.contains c) = true then (match h.nm with
      | none => exSu G cf J ρ (h.su e)
      | some i => if i ∈ J then .bad else exSu G cf J (ρ.set i none) (h.su e)) else handle J e ρ hs
end
/-- i.append((j, list(j))), the row j given away -/
def amvD (J L : List Nat) (ρ : Env) (i j : Nat) : OS := match (ρ[i]?).bind id, (ρ[j]?).bind id with
  | some (.lst xs, n), some (.lst ys, m) => if i ≠ j ∧ i ∉ L ∧ j ∉ L ∧ j ∉ J ∧ 1 ≤ n ∧ 1 ≤ m ∧ mdepL ys = 0 ∧ xs.length + 1 ≤ SZ then .nx ((ρ.set j none).set i (some (.lst (xs ++ [.tup [.lst ys, .lst ys]]), lvIn n (.tup [.lst ys, .lst ys], 1)))) else .bad
  | _, _ => .bad
section
variable (G : Glo) (cf : Runs)
mutual
def exS (L : List Nat) (ρ : Env) : S → OS
  | .pass => .nx ρ
  | .asg i e => onE (ev G cf ρ e) ρ fun p => onJ cf.io [i] (.nx (bindV ρ i p (names e)))
  | .asgT is e => onE (ev G cf ρ e) ρ fun p => onJ cf.io is <| putS (if full p = true then ρ else frz ρ (names e)) (.tup is) p.1 .nx
  | .exp e => onE (ev G cf ρ e) ρ fun _ => .nx ρ
  | .ret e => onE (ev G cf ρ e) ρ fun p => .rt p ρ
  | .retv i => match (ρ[i]?).bind id with
    | some p => .rt p (ρ.set i none)
    | none => .bad
  | .retN => .rt (.non, 9) ρ
  | .ife t a b => onE (evB G cf ρ t) ρ fun c => if c = true then exB L ρ a else exB L ρ b
  | .whl n t b => whileL (fun ρ => evB G cf ρ t) (fun ρ => exB L ρ b) n ρ
  | .for_ tg it b => onE (ev G cf ρ it) ρ fun p => match itemsOf p.1 with
    | none => .bad
    | some xs => onJ cf.io tg.is <| if full p = true then forL (fun ρ d => putS ρ tg d fun ρ => exB L ρ b) xs ρ
      else forL (fun ρ d => putS ρ tg d fun ρ => exB (names it ++ L) ρ b) xs (if mdepL xs = 0 then ρ else frz ρ (names it))
  | .forD tg it b => onE (ev G cf ρ it) ρ fun p => match itemsOf p.1 with
    | none => .bad
    | some xs => onJ cf.io tg.is <| if full p = true then forL (fun ρ d => putS ρ tg d fun ρ => exB L ρ b) xs ρ
      else forL (fun ρ d => putS ρ tg d fun ρ => exB (names it ++ L) ρ b) xs (frz ρ (names it))
  | .amv i j => amvD cf.io L ρ i j
  | .app i e => match (ρ[i]?).bind id with
    | some (.lst _, _) => onE (ev G cf ρ e) ρ fun p => appD L ρ i p (names e)
    | _ => .bad
  | .par i j a b => onE (evs G cf ρ [a, b]) ρ fun ps => onJ cf.io [i, j] (parD ρ i j ps (namesL [a, b]))
  | .asgX i x => onX (exX G cf L ρ x) fun p ρ1 => onJ cf.io [i] (.nx (bindV ρ1 i p (xnames x)))
  | .asgXT is x => onX (exX G cf L ρ x) fun p ρ1 => onJ cf.io is <| putS (if full p = true then ρ1 else frz ρ1 (xnames x)) (.tup is) p.1 .nx
  | .expX x => onX (exX G cf L ρ x) fun _ ρ1 => .nx ρ1
  | .retX x => onX (exX G cf L ρ x) fun p ρ1 => .rt p ρ1
  | .ifX x a b => onX (exX G cf L ρ x) fun p ρ1 => osOf ((truth p.1).map fun c => if c = true then exB L ρ1 a else exB L ρ1 b)
  | .appX i x => match (ρ[i]?).bind id with
    | some (.lst _, _) => onX (exX G cf L ρ x) fun q ρ1 => if full q = true then onX (mopX L ρ1 i [] [] [q] fun u => opApp u [q]) fun _ ρ2 => .nx ρ2 else .bad
    | _ => .bad
  | .st p k e => onE (ev G cf ρ e) ρ fun q => onE (rsv G cf ρ p.st) ρ fun rs => onE (noX (ev G cf ρ k)) ρ fun y => onX (mopX L ρ p.i rs (names e) [q] fun u => (stOp u y q).map (·, (.non, 9))) fun _ ρ2 => .nx ρ2
  | .stX i x e => onE (ev G cf ρ e) ρ fun q => if full q = true then onX (exX G cf L ρ x) fun y ρ1 => onX (mopX L ρ1 i [] [] [q] fun u => (stOp u y q).map (·, (.non, 9))) fun _ ρ2 => .nx ρ2 else .bad
  | .stf p f e => onE (ev G cf ρ e) ρ fun q => onE (rsv G cf ρ p.st) ρ fun rs => onX (mopX L ρ p.i rs (names e) [q] fun u => (stfOp u f q).map (·, (.non, 9))) fun _ ρ2 => .nx ρ2
  | .forX tg x b => onX (exX G cf (xnames x ++ L) ρ x) fun p ρ1 => osOf ((lstOf p.1).map fun xs => onJ cf.io tg.is <| if full p = true then forL (fun ρ d => putS ρ tg d fun ρ => exB L ρ b) xs ρ1
      else forL (fun ρ d => putS ρ tg d fun ρ => exB (xnames x ++ L) ρ b) xs (if mdepL xs = 0 then ρ1 else frz ρ1 (xnames x)))
  | .rai c fs es => onE (evs G cf ρ es) ρ fun ps => if ps.all (fun p => decide (p.1.mdep = 0)) = true then .exc ⟨c, fs, ps.map (·.1)⟩ ρ else .bad
  | .tri b hs => match exB L ρ b with
    | .exc e ρ1 => handle G cf cf.io e ρ1 hs
    | o => o
def exB (L : List Nat) (ρ : Env) : List S → OS
  | [] => .nx ρ
  | s :: r => match exS L ρ s with
    | .nx ρ' => exB L ρ' r
    | o => o
end
end

/-! ### frames -/
def OwnAt (S : Slots) (i : Nat) (a : Addr) : Prop := ∃ r : Root, S[i]? = some (some r) ∧ a ∈ r.O
def Own (S : Slots) (a : Addr) : Prop := ∃ i, OwnAt S i a
def Ou (S : Slots) (L : List Nat) (a : Addr) : Prop := ∃ i, i ∉ L ∧ OwnAt S i a
def Any (S : Slots) (a : Addr) : Prop := ∃ (i : Nat) (r : Root), S[i]? = some (some r) ∧ a ∈ r.O ++ r.Z
structure Fr (S : Slots) : Prop where
  nd : ∀ (i : Nat) (r : Root), S[i]? = some (some r) → r.O.Nodup
  sep : ∀ i j a, OwnAt S i a → OwnAt S j a → i = j
  zo : ∀ i a, OwnAt S i a → ∀ (j : Nat) (r : Root), S[j]? = some (some r) → a ∉ r.Z
structure Step (J L : List Nat) (S : Slots) (H : Hp) (S' : Slots) (H' : Hp) : Prop where
  keep : ∀ a o, H a = some o → ¬ Ou S L a → H' a = some o
  there : ∀ a, H a ≠ none → H' a ≠ none
  own : ∀ i a, OwnAt S' i a → OwnAt S i a ∨ Ou S L a ∨ H a = none
  any : ∀ a, Any S' a → Any S a ∨ H a = none
  pin : ∀ i ∈ J, ∀ r' : Root, S'[i]? = some (some r') → ∃ r : Root, S[i]? = some (some r) ∧ r.v = r'.v
section
variable {S0 S1 S2 S3 : Slots} {H H0 H1 H2 H3 : Hp} {J L L' : List Nat}
theorem OwnAt.own {i : Nat} {a : Addr} (h : OwnAt S0 i a) : Own S0 a := ⟨i, h⟩
theorem OwnAt.any {i : Nat} {a : Addr} (h : OwnAt S0 i a) : Any S0 a := let ⟨r, e, q⟩ := h; ⟨i, r, e, by simp [q]⟩
theorem Ou.own {a : Addr} (h : Ou S0 L a) : Own S0 a := let ⟨i, _, q⟩ := h; ⟨i, q⟩
theorem Nod.any {is : List Nat} {a : Addr} (h : Nod S0 is a) : Any S0 a := let ⟨i, _, r, e, q⟩ := h; ⟨i, r, e, q⟩
theorem Ou.mono (h : ∀ i ∈ L, i ∈ L') {a : Addr} (o : Ou S0 L' a) : Ou S0 L a := let ⟨i, q, w⟩ := o; ⟨i, fun z => q (h i z), w⟩
theorem Step.same (s : Same H0 H1) : Step J L S0 H0 S0 H1 := ⟨fun a o e _ => s a o e, fun a h => same_there s h, fun i a h => .inl h, fun a h => .inl h, fun i _ r h => ⟨r, h, rfl⟩⟩
theorem Step.refl : Step J L S0 H0 S0 H0 := Step.same (Same.refl _)
theorem Step.none (s : Step J L S0 H0 S1 H1) {a : Addr} (h : H1 a = none) : H0 a = none := by
  cases e : H0 a with
  | none => rfl
  | some o => exact absurd h (s.there a (by rw [e]; simp))
theorem Step.ou (s : Step J L S0 H0 S1 H1) {a : Addr} (h : Ou S1 L a) : Ou S0 L a ∨ H0 a = Option.none := by
  obtain ⟨i, hi, h⟩ := h
  rcases s.own i a h with z | z | z
  · exact .inl ⟨i, hi, z⟩
  · exact .inl z
  · exact .inr z
theorem Step.ownA (s : Step J L S0 H0 S1 H1) {a : Addr} (h : Own S1 a) : Own S0 a ∨ H0 a = Option.none := by
  obtain ⟨i, h⟩ := h
  rcases s.own i a h with z | z | z
  · exact .inl ⟨i, z⟩
  · exact .inl z.own
  · exact .inr z
theorem Step.trans (s : Step J L S0 H0 S1 H1) (t : Step J L S1 H1 S2 H2) : Step J L S0 H0 S2 H2 where
  keep := fun a o e n => t.keep a o (s.keep a o e n) fun z => (s.ou z).elim n fun z => by rw [e] at z; cases z
  there := fun a h => t.there a (s.there a h)
  own := fun i a h => by
    rcases t.own i a h with z | z | z
    · exact s.own i a z
    · exact .inr (s.ou z)
    · exact .inr (.inr (s.none z))
  any := fun a h => (t.any a h).elim (s.any a) fun z => .inr (s.none z)
  pin := fun i hi r h => let ⟨r1, h1, e1⟩ := t.pin i hi r h; let ⟨r2, h2, e2⟩ := s.pin i hi r1 h1; ⟨r2, h2, e2.trans e1⟩
theorem Step.mono (h : ∀ i ∈ L, i ∈ L') (s : Step J L' S0 H0 S1 H1) : Step J L S0 H0 S1 H1 where
  keep := fun a o e n => s.keep a o e fun z => n (z.mono h)
  there := s.there
  own := fun i a q => (s.own i a q).imp id (Or.imp (Ou.mono h) id)
  any := s.any
  pin := s.pin
def ownL (S : Slots) (L : List Nat) : List Addr := (List.range S.length).flatMap fun i => if i ∈ L then [] else match S[i]? with
  | some (some r) => r.O
  | _ => []
theorem ownL_mem {a : Addr} : a ∈ ownL S0 L ↔ Ou S0 L a := by
  unfold ownL
  rw [List.mem_flatMap]
  constructor
  · rintro ⟨i, hi, h⟩
    split at h
    · simp at h
    · rename_i hL
      split at h
      · rename_i r e; exact ⟨i, hL, r, e, h⟩
      · simp at h
  · rintro ⟨i, hi, r, e, h⟩
    refine ⟨i, by simp; exact (List.getElem?_eq_some_iff.mp e).1, ?_⟩
    rw [if_neg hi, e]
    exact h
variable {K : PySem.W.Frag} {CA : Nat → Addr} {σ σ' : St} {W : WX}
theorem Step.keepF (s : Step J L S0 H0 S1 H1) : Keep (ownL S0 L) H0 H1 := fun a o e n => s.keep a o e fun z => n (ownL_mem.mpr z)
theorem SRep.fix (r : SRep K CA S0 σ H0) : Fix (ownL S0 L) H0 := fun a h => by
  obtain ⟨i, _, q, e, h⟩ := ownL_mem.mp h
  exact (r.rep i q e).2.own_mut a h
theorem SRep.any (r : SRep K CA S0 σ H0) {a : Addr} (h : Any S0 a) : H0 a ≠ none := by
  obtain ⟨i, q, e, h⟩ := h
  exact (r.rep i q e).2.there a h
theorem SRep.own (r : SRep K CA S0 σ H0) {a : Addr} (h : Own S0 a) : H0 a ≠ none := let ⟨i, q⟩ := h; r.any q.any
/-- what comes of a statement -/
def DenS (K : PySem.W.Frag) (CA : Nat → Addr) (W : WX) (J L : List Nat) (S0 : Slots) (H0 : Hp) (o : OS) (D : Ends) : Prop :=
  match o with
  | .nx ρ => ∀ S σ H, SRep K CA S σ H → Fr S → Step J L S0 H0 S H → envOf S = ρ → D.nx σ H
  | .rt p ρ => ∀ S σ v H O Z, SRep K CA S σ H → Fr S → Step J L S0 H0 S H → envOf S = ρ → Rep K CA H p.2 p.1 v O Z → (∀ a ∈ O, ¬ Any S a) → (∀ a ∈ O, Own S0 a ∨ H0 a = none) → O.Nodup → (∀ a ∈ Z, Any S0 a ∨ H0 a = none) → (∀ a ∈ Z, a ∉ O) → D.rt v H
  | .exc e ρ => ∀ S σ H cls dd, SRep K CA S σ H → Fr S → Step J L S0 H0 S H → envOf S = ρ → ExRep K CA e cls dd H → W cls dd σ H
  | .bad => False
theorem DenS.step {o : OS} {D : Ends} (s : Step J L S0 H0 S1 H1) (h : DenS K CA W J L S0 H0 o D) : DenS K CA W J L S1 H1 o D := by
  cases o with
  | nx ρ => exact fun S σ H a b c d => h S σ H a b (s.trans c) d
  | rt p ρ => exact fun S σ v H O Z a b c d e e' f g i j => h S σ v H O Z a b (s.trans c) d e e' (fun a' q => (f a' q).elim s.ownA fun z => .inr (s.none z)) g (fun a' q => (i a' q).elim (s.any a') fun z => .inr (s.none z)) j
  | exc e ρ => exact fun S σ H cls dd a b c d => h S σ H cls dd a b (s.trans c) d
  | bad => exact h
theorem DenS.lock (h : ∀ i ∈ L, i ∈ L') {o : OS} {D : Ends} (q : DenS K CA W J L S0 H0 o D) : DenS K CA W J L' S0 H0 o D := by
  cases o with
  | nx ρ => exact fun S σ H a b c d => q S σ H a b (c.mono h) d
  | rt p ρ => exact fun S σ v H O Z a b c d e e' f g i j => q S σ v H O Z a b (c.mono h) d e e' f g i j
  | exc e ρ => exact fun S σ H cls dd a b c d => q S σ H cls dd a b (c.mono h) d
  | bad => exact q
theorem DenS.nx' {o : OS} {D D' : Ends} (hr : D'.rt = D.rt) (hn : ∀ ρ, o ≠ .nx ρ) (h : DenS K CA W J L S0 H0 o D) : DenS K CA W J L S0 H0 o D' := by
  cases o with
  | nx ρ => exact absurd rfl (hn ρ)
  | rt p ρ => exact fun S σ v H O Z a b c d e e' f g i j => by rw [hr]; exact h S σ v H O Z a b c d e e' f g i j
  | exc e ρ => exact h
  | bad => exact h
/-- an expression of a statement -/
theorem DenS.onE {o : Out (D × Nat)} {f : D × Nat → OS} {D : Ends} {M : Addr → Prop} (r : SRep K CA S0 σ H0) (fr : Fr S0) (h : DenS K CA W J L S0 H0 (onE o (envOf S0) f) D) {Q : VK}
    (q : ∀ p v H1 O Z, o = .ok p → PVal K CA M H0 H1 p.1 p.2 v O Z → DenS K CA W J L S0 H0 (f p) D → Q v H1) : Den K CA W M o σ H0 Q := by
  cases o with
  | ok p => exact fun v H1 O Z pv => q p v H1 O Z rfl pv h
  | exc e => exact fun cls dd H' s x => h S0 σ H' cls dd (r.same s) fr (Step.same s) rfl x
  | bad => exact h
theorem DenS.onB {o : Out Bool} {f : Bool → OS} {D : Ends} (r : SRep K CA S0 σ H0) (fr : Fr S0) (h : DenS K CA W J L S0 H0 (Vy.onE o (envOf S0) f) D) {Q : Bool → Hp → Prop}
    (q : ∀ b H1, o = .ok b → Same H0 H1 → DenS K CA W J L S0 H0 (f b) D → Q b H1) : DenB K CA W o σ H0 Q := by
  cases o with
  | ok b => exact fun H1 s => q b H1 rfl s h
  | exc e => exact fun cls dd H' s x => h S0 σ H' cls dd (r.same s) fr (Step.same s) rfl x
  | bad => exact h
/-! ### slots newly set -/
theorem norm_rep {d : D} {n : Nat} {v : V} {O Z : List Addr} (r : Rep K CA H n d v O Z) : Rep K CA H (norm (d, n)).2 d v O Z := by
  unfold norm
  by_cases h : d.mdep = 0
  · simp only [h, if_true]
    obtain ⟨e1, e2, r'⟩ := r.imm (m := 9) h
    subst e1; subst e2; exact r'
  · simp only [h, if_false]; exact r
def setR (S : Slots) (i : Nat) (d : D) (n : Nat) (v : V) (O Z : List Addr) : Slots := S.set i (some ⟨d, (norm (d, n)).2, v, O, Z⟩)
theorem envOf_setR {i : Nat} {d : D} {n : Nat} {v : V} {O Z : List Addr} : envOf (setR S0 i d n v O Z) = setV (envOf S0) i (d, n) := by
  unfold setR setV envOf
  rw [List.map_set]
  congr 2
  show some (d, (norm (d, n)).2) = _
  rw [show norm (d, n) = ((norm (d, n)).1, (norm (d, n)).2) from rfl, norm_fst]
theorem SRep.setR {i : Nat} {d : D} {n : Nat} {v : V} {O Z : List Addr} (sr : SRep K CA S0 σ H) (r : Rep K CA H n d v O Z) (hi : i < S0.length) : SRep K CA (setR S0 i d n v O Z) (σ.set i (some v)) H where
  len := by unfold Vy.setR; rw [List.length_set, List.length_set, sr.len]
  rep := fun j x hx => by
    unfold Vy.setR at hx
    by_cases hj : i = j
    · subst hj
      rw [List.getElem?_set_self hi] at hx
      cases hx
      exact ⟨by rw [List.getElem?_set_self (by rw [← sr.len]; exact hi)], norm_rep r⟩
    · rw [List.getElem?_set_ne hj] at hx
      obtain ⟨a, b⟩ := sr.rep j x hx
      exact ⟨by rw [List.getElem?_set_ne hj]; exact a, b⟩
theorem setR_some {i j : Nat} {d : D} {n : Nat} {v : V} {O Z : List Addr} {r : Root} (h : (setR S0 i d n v O Z)[j]? = some (some r)) : (j = i ∧ r.O = O ∧ r.Z = Z) ∨ (j ≠ i ∧ S0[j]? = some (some r)) := by
  unfold setR at h
  by_cases hj : i = j
  · subst hj
    by_cases hi : i < S0.length
    · rw [List.getElem?_set_self hi] at h; cases h; exact .inl ⟨rfl, rfl, rfl⟩
    · rw [List.getElem?_eq_none (by simpa using hi)] at h; cases h
  · rw [List.getElem?_set_ne hj] at h
    exact .inr ⟨Ne.symm hj, h⟩
theorem setR_own {i j : Nat} {d : D} {n : Nat} {v : V} {O Z : List Addr} {a : Addr} (h : OwnAt (setR S0 i d n v O Z) j a) : (j = i ∧ a ∈ O) ∨ (j ≠ i ∧ OwnAt S0 j a) := by
  obtain ⟨r, e, q⟩ := h
  rcases setR_some e with ⟨h1, h2, _⟩ | ⟨h1, h2⟩
  · exact .inl ⟨h1, h2 ▸ q⟩
  · exact .inr ⟨h1, r, h2, q⟩
theorem setR_any {i : Nat} {d : D} {n : Nat} {v : V} {O Z : List Addr} {a : Addr} (h : Any (setR S0 i d n v O Z) a) : a ∈ O ++ Z ∨ Any S0 a := by
  obtain ⟨j, r, e, q⟩ := h
  rcases setR_some e with ⟨h1, h2, h3⟩ | ⟨h1, h2⟩
  · exact .inl (by rw [← h2, ← h3]; exact q)
  · exact .inr ⟨j, r, h2, q⟩
theorem Fr.setR {i : Nat} {d : D} {n : Nat} {v : V} {O Z : List Addr} (f : Fr S0) (nd : O.Nodup) (zo : ∀ a ∈ Z, a ∉ O) (h1 : ∀ a ∈ O, ∀ (j : Nat) (r : Root), j ≠ i → S0[j]? = some (some r) → a ∉ r.O ++ r.Z) (h2 : ∀ a ∈ Z, ∀ j, j ≠ i → ¬ OwnAt S0 j a) : Fr (setR S0 i d n v O Z) where
  nd := fun j r h => by
    rcases setR_some h with ⟨_, e, _⟩ | ⟨_, e⟩
    · rw [e]; exact nd
    · exact f.nd j r e
  sep := fun j k a h h' => by
    rcases setR_own h with ⟨e, p⟩ | ⟨e, p⟩ <;> rcases setR_own h' with ⟨e', p'⟩ | ⟨e', p'⟩
    · rw [e, e']
    · obtain ⟨r, q1, q2⟩ := p'
      exact absurd (by simp [q2]) (h1 a p k r e' q1)
    · obtain ⟨r, q1, q2⟩ := p
      exact absurd (by simp [q2]) (h1 a p' j r e q1)
    · exact f.sep j k a p p'
  zo := fun j a h k r hk => by
    rcases setR_some hk with ⟨e, _, ez⟩ | ⟨e, q⟩ <;> rcases setR_own h with ⟨e', p'⟩ | ⟨e', p'⟩
    · rw [ez]; exact fun z => zo a z p'
    · rw [ez]; exact fun z => h2 a z j e' p'
    · exact fun z => h1 a p' k r e q (by simp [z])
    · exact f.zo j a p' k r q
/-- what is not its own is frozen -/
structure Frz (S : Slots) (S' : Slots) (is : List Nat) : Prop where
  len : S'.length = S.length
  env : envOf S' = frz (envOf S) is
  own : ∀ j a, OwnAt S' j a → OwnAt S j a
  any : ∀ (j : Nat) (r' : Root), S'[j]? = some (some r') → ∃ r : Root, S[j]? = some (some r) ∧ ∀ a ∈ r'.O ++ r'.Z, a ∈ r.O ++ r.Z
  nod : ∀ j ∈ is, ∀ a, ¬ OwnAt S' j a
  oth : ∀ j, j ∉ is → S'[j]? = S[j]?
  pin : ∀ (j : Nat) (r' : Root), S'[j]? = some (some r') → ∃ r : Root, S[j]? = some (some r) ∧ r.v = r'.v
theorem frz1_ok {i : Nat} (sr : SRep K CA S0 σ H) (f : Fr S0) : ∃ S', SRep K CA S' σ H ∧ Fr S' ∧ S'.length = S0.length ∧ envOf S' = frz1 (envOf S0) i ∧ (∀ j a, OwnAt S' j a → OwnAt S0 j a) ∧
    (∀ (j : Nat) (r' : Root), S'[j]? = some (some r') → ∃ r : Root, S0[j]? = some (some r) ∧ ∀ a ∈ r'.O ++ r'.Z, a ∈ r.O ++ r.Z) ∧ (∀ a, ¬ OwnAt S' i a) ∧ ∀ j, j ≠ i → S'[j]? = S0[j]? := by
  cases h : (S0[i]?).bind id with
  | none =>
    refine ⟨S0, sr, f, rfl, ?_, fun j a h => h, fun j r h => ⟨r, h, fun a q => q⟩, fun a ⟨r, e, _⟩ => ?_, fun _ _ => rfl⟩
    · unfold frz1; rw [envOf_get, h]; rfl
    · rw [e] at h; cases h
  | some r =>
    have hr : S0[i]? = some (some r) := by
      cases e : S0[i]? with
      | none => rw [e] at h; cases h
      | some o => rw [e] at h; cases o with
        | none => cases h
        | some q => cases h; rfl
    obtain ⟨q1, q2⟩ := sr.rep i r hr
    obtain ⟨O', Z', r', l⟩ := q2.low (Nat.zero_le _)
    have := r'.zero
    subst this
    have hi : i < S0.length := (List.getElem?_eq_some_iff.mp hr).1
    refine ⟨setR S0 i r.d 0 r.v [] Z', ?_, ?_, by unfold setR; simp, ?_, ?_, ?_, ?_, ?_⟩
    · have := sr.setR r' hi
      have hs : σ.set i (some r.v) = σ := List.ext_getElem? fun j => by
        by_cases e : i = j
        · subst e; rw [List.getElem?_set_self (List.getElem?_eq_some_iff.mp q1).1, q1]
        · rw [List.getElem?_set_ne e]
      rwa [hs] at this
    · refine f.setR (by simp) (by simp) (by simp) fun a ha j hj w => ?_
      rcases l.all a ha with z | z
      · exact hj (f.sep j i a w ⟨r, hr, z⟩)
      · exact f.zo j a w i r hr z
    · rw [envOf_setR]; unfold frz1; rw [envOf_get, h]; rfl
    · intro j a h
      rcases setR_own h with ⟨_, z⟩ | ⟨_, z⟩
      · simp at z
      · exact z
    · intro j r2 h
      rcases setR_some h with ⟨e, e1, e2⟩ | ⟨e, z⟩
      · subst e
        refine ⟨r, hr, fun a ha => ?_⟩
        rw [e1, e2] at ha
        rcases l.all a (by simpa using ha) with z | z <;> simp [z]
      · exact ⟨r2, z, fun a q => q⟩
    · intro a h
      rcases setR_own h with ⟨_, z⟩ | ⟨z, _⟩
      · simp at z
      · exact z rfl
    · intro j hj
      unfold setR
      rw [List.getElem?_set_ne (Ne.symm hj)]
theorem frz_ok {σ : St} {H : Hp} : ∀ (is : List Nat) {S0 : Slots}, SRep K CA S0 σ H → Fr S0 → ∃ S', SRep K CA S' σ H ∧ Fr S' ∧ Frz S0 S' is
  | [], S0, sr, f => ⟨S0, sr, f, rfl, rfl, fun _ _ h => h, fun j r h => ⟨r, h, fun a q => q⟩, by simp, fun _ _ => rfl, fun j r h => ⟨r, h, rfl⟩⟩
  | i :: is, S0, sr, f => by
    obtain ⟨S1, sr1, f1, l1, e1, o1, a1, n1, t1⟩ := frz1_ok (i := i) sr f
    obtain ⟨S2, sr2, f2, z⟩ := frz_ok is sr1 f1
    refine ⟨S2, sr2, f2, z.len.trans l1, ?_, fun j a h => o1 j a (z.own j a h), fun j r' h => ?_, fun j hj a h => ?_, fun j hj => ?_, fun j r' h => ?_⟩
    · rw [z.env, e1]; rfl
    · obtain ⟨r, h1, h2⟩ := z.any j r' h
      obtain ⟨r0, h3, h4⟩ := a1 j r h1
      exact ⟨r0, h3, fun a q => h4 a (h2 a q)⟩
    · rcases List.mem_cons.mp hj with rfl | hj
      · exact n1 a (z.own j a h)
      · exact z.nod j hj a h
    · simp at hj
      rw [z.oth j hj.2, t1 j hj.1]
    · obtain ⟨r, h1, _⟩ := z.any j r' h
      obtain ⟨r0, h3, _⟩ := a1 j r h1
      refine ⟨r0, h3, ?_⟩
      have q1 := (sr.rep j r0 h3).1
      rw [(sr2.rep j r' h).1] at q1
      exact (Option.some.inj (Option.some.inj q1)).symm
theorem Frz.step {S S' : Slots} {is : List Nat} (z : Frz S S' is) : Step J L S H0 S' H0 where
  keep := fun a o e _ => e
  there := fun a h => h
  own := fun i a h => .inl (z.own i a h)
  any := fun a ⟨j, r, e, q⟩ => let ⟨r0, h1, h2⟩ := z.any j r e; .inl ⟨j, r0, h1, h2 a q⟩
  pin := fun j _ r h => z.pin j r h
/-- what is named by the frozen is no one's own -/
theorem Frz.free {S S' : Slots} {is : List Nat} (z : Frz S S' is) (f : Fr S) {a : Addr} (h : Nod S is a) : ¬ Own S' a := by
  rintro ⟨k, w⟩
  obtain ⟨j, hj, r, e, q⟩ := h
  have w0 := z.own k a w
  rcases List.mem_append.mp q with q | q
  · have := f.sep k j a w0 ⟨r, e, q⟩
    subst this
    exact z.nod k hj a w
  · exact f.zo k a w0 j r e q
theorem onJ_eq {J is : List Nat} {o : OS} : onJ J is o = .bad ∨ (onJ J is o = o ∧ ∀ i ∈ is, i ∉ J) := by
  unfold onJ
  by_cases h : okJ J is = true
  · rw [if_pos h]
    refine .inr ⟨rfl, fun i hi z => ?_⟩
    have := List.all_eq_true.mp h i hi
    simp [z] at this
  · rw [if_neg h]; exact .inl rfl
theorem DenS.onJ {is : List Nat} {o : OS} {D : Ends} {K : PySem.W.Frag} {CA : Nat → Addr} {W : WX} (h : DenS K CA W J L S0 H0 (onJ J is o) D) : (∀ i ∈ is, i ∉ J) ∧ DenS K CA W J L S0 H0 o D := by
  rcases onJ_eq (J := J) (is := is) (o := o) with e | ⟨e, q⟩
  · rw [e] at h; exact h.elim
  · rw [e] at h; exact ⟨q, h⟩
/-- a slot takes a value that has come -/
theorem bind_ok {i : Nat} {d : D} {n : Nat} {v : V} {O Z : List Addr} {ns : List Nat} (sr : SRep K CA S0 σ H) (f : Fr S0) (hi : i < S0.length) (hJ : i ∉ J) (pv : PVal K CA (Nod S0 ns) H H1 d n v O Z) :
    ∃ S', SRep K CA S' (σ.set i (some v)) H1 ∧ Fr S' ∧ Step J L S0 H S' H1 ∧ envOf S' = bindV (envOf S0) i (d, n) ns := by
  have go : ∀ S1, SRep K CA S1 σ H → Fr S1 → S1.length = S0.length → (∀ j a, OwnAt S1 j a → OwnAt S0 j a) → (∀ a, Any S1 a → Any S0 a) → (∀ a ∈ Z, ¬ Own S1 a) → envOf (setR S1 i d n v O Z) = bindV (envOf S0) i (d, n) ns → (∀ (j : Nat) (r' : Root), S1[j]? = some (some r') → ∃ r : Root, S0[j]? = some (some r) ∧ r.v = r'.v) →
      ∃ S', SRep K CA S' (σ.set i (some v)) H1 ∧ Fr S' ∧ Step J L S0 H S' H1 ∧ envOf S' = bindV (envOf S0) i (d, n) ns := fun S1 sr1 f1 l1 ow an hz he pin => by
    refine ⟨setR S1 i d n v O Z, (sr1.same pv.same).setR pv.rep (by rw [l1]; exact hi), f1.setR pv.nd pv.zo (fun a ha j r _ e q => ?_) (fun a ha j _ w => hz a ha w.own), ⟨fun a o e _ => pv.same a o e, fun a h => same_there pv.same h, fun j a h => ?_, fun a h => ?_, fun j hj r' h => ?_⟩, he⟩
    · exact sr1.any ⟨j, r, e, q⟩ (pv.fresh a ha)
    · rcases setR_own h with ⟨_, z⟩ | ⟨_, z⟩
      · exact .inr (.inr (pv.fresh a z))
      · exact .inl (ow j a z)
    · rcases setR_any h with z | z
      · rcases List.mem_append.mp z with z | z
        · exact .inr (pv.fresh a z)
        · exact (pv.zin a z).elim .inr fun w => .inl w.any
      · exact .inl (an a z)
    · rcases setR_some h with ⟨e, _⟩ | ⟨_, z⟩
      · subst e; exact absurd hj hJ
      · exact pin j r' z
  by_cases hf : full (d, n) = true
  · have hz : Z = [] := pv.rep.full (by simpa [full] using hf)
    refine go S0 sr f rfl (fun _ _ h => h) (fun _ h => h) (by rw [hz]; simp) ?_ fun j r h => ⟨r, h, rfl⟩
    rw [envOf_setR]; unfold bindV; rw [if_pos hf]
  · obtain ⟨S1, sr1, f1, z⟩ := frz_ok ns sr f
    refine go S1 sr1 f1 z.len z.own (fun a ⟨j, r, e, q⟩ => let ⟨r0, h1, h2⟩ := z.any j r e; ⟨j, r0, h1, h2 a q⟩) (fun a ha w => ?_) ?_ z.pin
    · rcases pv.zin a ha with q | q
      · exact sr1.own w q
      · exact z.free f q w
    · rw [envOf_setR, z.env]; unfold bindV; rw [if_neg hf]
end
end Vy

namespace Vy
open PySem PySem.Spec
open PyProof.Rows hiding St
open L2
section
variable {K : PySem.W.Frag} {CA : Nat → Addr} {S0 S1 : Slots} {σ : St} {H H1 H3 : Hp} {J L : List Nat}
/-- a slot's own thing is changed -/
theorem mut_okR {i : Nat} {r0 : Root} {F : List Addr} {d : D} {n : Nat} {O Z : List Addr} (sr : SRep K CA S1 σ H) (f : Fr S1) (st : Step J L S0 H S1 H) (hi : S1[i]? = some (some r0)) (hL : i ∉ L) (hF : ∀ x ∈ F, x ∈ r0.O) (k : Keep F H H3) (fx : Fix F H) (th : ∀ x, H x ≠ none → H3 x ≠ none)
    (rep : Rep K CA H3 n d r0.v O Z) (nd : O.Nodup) (zo : ∀ a ∈ Z, a ∉ O) (ho : ∀ x ∈ O, x ∈ r0.O ∨ H x = none) (hz : ∀ x ∈ Z, x ∈ r0.O ∨ x ∈ r0.Z ∨ H x = none ∨ (¬ Own S1 x ∧ Any S0 x)) :
    SRep K CA (setR S1 i d n r0.v O Z) σ H3 ∧ Fr (setR S1 i d n r0.v O Z) ∧ Step J L S0 H (setR S1 i d n r0.v O Z) H3 ∧ envOf (setR S1 i d n r0.v O Z) = setV (envOf S1) i (d, n) := by
  have hil : i < S1.length := (List.getElem?_eq_some_iff.mp hi).1
  have hv : σ[i]? = some (some r0.v) := (sr.rep i r0 hi).1
  have own0 : ∀ x ∈ r0.O, OwnAt S1 i x := fun x hx => ⟨r0, hi, hx⟩
  refine ⟨⟨by unfold setR; rw [List.length_set, sr.len], fun j x hx => ?_⟩, ?_, ?_, envOf_setR⟩
  · unfold setR at hx
    by_cases hj : i = j
    · subst hj
      rw [List.getElem?_set_self hil] at hx
      cases hx
      exact ⟨hv, norm_rep rep⟩
    · rw [List.getElem?_set_ne hj] at hx
      obtain ⟨a, b⟩ := sr.rep j x hx
      refine ⟨a, b.keep k fx fun y hy z => ?_⟩
      rcases List.mem_append.mp hy with q | q
      · exact hj (f.sep i j y (own0 y (hF y z)) ⟨x, hx, q⟩)
      · exact f.zo i y (own0 y (hF y z)) j x hx q
  · refine f.setR nd zo (fun a ha j r hj e q => ?_) fun a ha j hj w => ?_
    · rcases ho a ha with z | z
      · rcases List.mem_append.mp q with q | q
        · exact hj (f.sep j i a ⟨r, e, q⟩ (own0 a z))
        · exact f.zo i a (own0 a z) j r e q
      · exact sr.any ⟨j, r, e, q⟩ z
    · rcases hz a ha with z | z | z | ⟨z, _⟩
      · exact hj (f.sep j i a w (own0 a z))
      · exact f.zo j a w i r0 hi z
      · exact sr.own w.own z
      · exact z w.own
  · refine ⟨fun a o e hn => k a o e fun z => ?_, th, fun j a h => ?_, fun a h => ?_, fun j hj r' h => ?_⟩
    · have := st.ou (L := L) ⟨i, hL, own0 a (hF a z)⟩
      rcases this with q | q
      · exact hn q
      · rw [e] at q; cases q
    · rcases setR_own h with ⟨e, z⟩ | ⟨_, z⟩
      · rcases ho a z with z | z
        · exact (st.own i a (own0 a z)).imp (fun q => e ▸ q) id
        · exact .inr (.inr z)
      · exact st.own j a z
    · rcases setR_any h with z | z
      · have : a ∈ r0.O ∨ a ∈ r0.Z ∨ H a = none ∨ Any S0 a := by
          rcases List.mem_append.mp z with z | z
          · exact (ho a z).elim .inl fun q => .inr (.inr (.inl q))
          · rcases hz a z with q | q | q | ⟨_, q⟩
            · exact .inl q
            · exact .inr (.inl q)
            · exact .inr (.inr (.inl q))
            · exact .inr (.inr (.inr q))
        rcases this with q | q | q | q
        · exact st.any a ⟨i, r0, hi, by simp [q]⟩
        · exact st.any a ⟨i, r0, hi, by simp [q]⟩
        · exact .inr q
        · exact .inl q
      · exact st.any a z
    · unfold setR at h
      by_cases hji : i = j
      · subst hji
        rw [List.getElem?_set_self hil] at h
        have e := Option.some.inj (Option.some.inj h)
        obtain ⟨r1, h1, h2⟩ := st.pin i hj r0 hi
        exact ⟨r1, h1, by rw [h2, ← e]⟩
      · rw [List.getElem?_set_ne hji] at h
        exact st.pin j hj r' h
theorem mut_ok {i : Nat} {r0 : Root} {F : List Addr} {d : D} {n : Nat} {O Z : List Addr} (sr : SRep K CA S1 σ H) (f : Fr S1) (st : Step J L S0 H S1 H) (hi : S1[i]? = some (some r0)) (hL : i ∉ L) (hF : ∀ x ∈ F, x ∈ r0.O) (k : Keep F H H3) (fx : Fix F H) (th : ∀ x, H x ≠ none → H3 x ≠ none)
    (rep : Rep K CA H3 n d r0.v O Z) (nd : O.Nodup) (zo : ∀ a ∈ Z, a ∉ O) (ho : ∀ x ∈ O, x ∈ r0.O ∨ H x = none) (hz : ∀ x ∈ Z, x ∈ r0.O ∨ x ∈ r0.Z ∨ H x = none ∨ (¬ Own S1 x ∧ Any S0 x)) :
    ∃ S', SRep K CA S' σ H3 ∧ Fr S' ∧ Step J L S0 H S' H3 ∧ envOf S' = setV (envOf S1) i (d, n) := ⟨_, mut_okR sr f st hi hL hF k fx th rep nd zo ho hz⟩
end
section
variable {X : Cx} {nm : Nm} {G : Glo} {CA : Nat → Addr} {cf : Runs} {W : WX} {L : List Nat}
def tS (X : Cx) (G : Glo) (CA : Nat → Addr) (cf : Runs) (W : WX) (L : List Nat) (s : S) : TS := fun D σ H => ∃ S, SRep X.K CA S σ H ∧ Fr S ∧ DenS X.K CA W cf.io L S H (exS G cf L (envOf S) s) D
def tB (X : Cx) (G : Glo) (CA : Nat → Addr) (cf : Runs) (W : WX) (L : List Nat) (b : List S) : TS := fun D σ H => ∃ S, SRep X.K CA S σ H ∧ Fr S ∧ DenS X.K CA W cf.io L S H (exB G cf L (envOf S) b) D
theorem b_nil : PSs X [] (tB X G CA cf W L []) := PSs.weak pss_nil fun D σ H ⟨S, sr, fr, h⟩ => by
  rw [exB] at h
  exact h S σ H sr fr Step.refl rfl
theorem b_cons {st : Stmt} {rest : List Stmt} {s : S} {b : List S} (h1 : PS X st (tS X G CA cf W L s)) (h2 : PSs X rest (tB X G CA cf W L b)) : PSs X (st :: rest) (tB X G CA cf W L (s :: b)) := PSs.weak (pss_cons h1 h2) fun D σ H ⟨S, sr, fr, h⟩ => by
  rw [exB] at h
  refine ⟨S, sr, fr, ?_⟩
  cases e : exS G cf L (envOf S) s with
  | nx ρ =>
    rw [e] at h
    intro S' σ' H' sr' fr' st he
    exact ⟨S', sr', fr', by rw [he]; exact h.step st⟩
  | rt p ρ => rw [e] at h; exact h
  | exc x ρ => rw [e] at h; exact h
  | bad => rw [e] at h; exact h
theorem s_pass {pos : Pos} : PS X (.Pass pos) (tS X G CA cf W L .pass) := PS.weak ps_pass fun D σ H ⟨S, sr, fr, h⟩ => by
  rw [exS] at h
  exact h S σ H sr fr Step.refl rfl
/-- no comprehension by itself -/
def noLc : Expr → Bool
  | .ListComp .. => false
  | .SetComp .. => false
  | .DictComp .. => false
  | _ => true
theorem no_swap {e : Expr} {t : Option Expr} {l : Nat} {env : PySem.Env} (h : noLc e = true) : swapsWith e t l env = pure false := by
  cases e <;> first | rfl | cases h
theorem asg_of {st : Stmt} {i : Nat} {x : Str} {c : C} (hi : X.N[i]? = some x) (h : PS X st (tAsg (tE X G CA cf W c) (gName i))) : PS X st (tS X G CA cf W L (.asg i c)) := ⟨fun pins s σ H D I ⟨S, sr, fr, hd⟩ => h.run pins s σ H D I (by
  rw [exS] at hd
  have hil : i < S.length := by rw [sr.len, I.len]; exact (List.getElem?_eq_some_iff.mp hi).1
  refine ⟨S, sr, hd.onE sr fr fun p v H1 O Z e pv hd => ?_⟩
  obtain ⟨hJ, hd⟩ := hd.onJ
  obtain ⟨S', sr', fr', st, he⟩ := bind_ok (L := L) sr fr hil (hJ i (by simp)) pv
  exact hd S' _ H1 sr' fr' st he)⟩
theorem s_asg {sc : Scope} {i : Nat} {x : Str} {c : C} {e : Expr} {p pos : Pos} (sco : ScOk sc X) (hN : X.N.Nodup) (hi : X.N[i]? = some x) (h : sc.names.lookup x = some .local ∨ sc.names.lookup x = some .cell) (he : PE X e (tE X G CA cf W c)) (hl : noLc e = true) :
    PS X (.Assign [.Name x p] e pos) (tS X G CA cf W L (.asg i c)) := by
  refine asg_of hi ?_
  rcases h with h | h
  · exact ps_set hN hi (.inl (sco.loc x h)) he (no_swap hl) (.inr (sco.loc x h))
  · obtain ⟨h1, h2⟩ := sco.cel x h
    exact ps_set hN hi (.inr h1) he (no_swap hl) (.inl h2)
theorem s_exp {c : C} {e : Expr} {pos : Pos} (he : PE X e (tE X G CA cf W c)) (hl : noLc e = true) : PS X (.Expr e pos) (tS X G CA cf W L (.exp c)) := PS.weak (ps_expr he (no_swap hl)) fun D σ H ⟨S, sr, fr, h⟩ => by
  rw [exS] at h
  refine ⟨S, sr, h.onE sr fr fun p v H1 O Z e pv hd => ?_⟩
  exact hd S σ H1 (sr.same pv.same) fr (Step.same pv.same) rfl
theorem s_ret {c : C} {e : Expr} {pos : Pos} (he : PE X e (tE X G CA cf W c)) : PS X (.Return (some e) pos) (tS X G CA cf W L (.ret c)) := PS.weak (ps_ret he) fun D σ H ⟨S, sr, fr, h⟩ => by
  rw [exS] at h
  refine ⟨S, sr, h.onE sr fr fun p v H1 O Z e pv hd => ?_⟩
  exact hd S σ v H1 O Z (sr.same pv.same) fr (Step.same pv.same) rfl pv.rep (fun a h w => sr.any w (pv.fresh a h)) (fun a h => .inr (pv.fresh a h)) pv.nd (fun a h => (pv.zin a h).elim .inr fun w => .inl w.any) pv.zo
theorem slot_get {S : Slots} {i : Nat} {p : D × Nat} (h : ((envOf S)[i]?).bind id = some p) : ∃ r : Root, S[i]? = some (some r) ∧ (r.d, r.n) = p := by
  rw [envOf_get] at h
  obtain ⟨r, hr, e⟩ := Option.map_eq_some_iff.mp h
  refine ⟨r, ?_, e⟩
  cases q : S[i]? with
  | none => rw [q] at hr; cases hr
  | some o => rw [q] at hr; cases o with
    | none => cases hr
    | some r' => cases hr; rfl
theorem s_retv {i : Nat} {x : Str} {p pos : Pos} (hN : X.N[i]? = some x) (hv : Vis X.env.scope x) (hd : (x == ("__debug__" : Str)) = false) (hcd : (x == ("__classdict__" : Str)) = false) : PS X (.Return (some (.Name x p)) pos) (tS X G CA cf W L (.retv i)) := PS.weak (ps_ret (pe_var hN hv hd hcd)) fun D σ H ⟨S, sr, fr, h⟩ => by
  rw [exS] at h
  cases e : ((envOf S)[i]?).bind id with
  | none => rw [e] at h; exact h.elim
  | some q =>
    rw [e] at h
    obtain ⟨r, hr, rfl⟩ := slot_get e
    obtain ⟨h1, h2⟩ := sr.rep i r hr
    have ow : ∀ {j a}, OwnAt (S.set i none) j a → j ≠ i ∧ OwnAt S j a := fun {j a} ⟨r', e, q⟩ => by
      by_cases hj : i = j
      · subst hj
        by_cases hl : i < S.length
        · rw [List.getElem?_set_self hl] at e; cases e
        · rw [List.getElem?_eq_none (by simpa using hl)] at e; cases e
      · rw [List.getElem?_set_ne hj] at e; exact ⟨fun z => hj z.symm, r', e, q⟩
    have gt : ∀ {j : Nat} {r' : Root}, (S.set i none)[j]? = some (some r') → j ≠ i ∧ S[j]? = some (some r') := fun {j r'} e => by
      by_cases hj : i = j
      · subst hj
        by_cases hl : i < S.length
        · rw [List.getElem?_set_self hl] at e; cases e
        · rw [List.getElem?_eq_none (by simpa using hl)] at e; cases e
      · rw [List.getElem?_set_ne hj] at e; exact ⟨fun z => hj z.symm, e⟩
    refine ⟨r.v, h1, h (S.set i none) σ r.v H r.O r.Z ⟨by rw [List.length_set]; exact sr.len, fun j r' e => sr.rep j r' (gt e).2⟩ ⟨fun j r' e => fr.nd j r' (gt e).2, fun j k a q w => fr.sep j k a (ow q).2 (ow w).2, fun j a q k r' e => fr.zo j a (ow q).2 k r' (gt e).2⟩
      ⟨fun _ _ e _ => e, fun _ e => e, fun j a q => .inl (ow q).2, fun a ⟨j, r', e, q⟩ => .inl ⟨j, r', (gt e).2, q⟩, fun j _ r' e => ⟨r', (gt e).2, rfl⟩⟩ ?_ h2 (fun a ha ⟨j, r', e, q⟩ => ?_) (fun a h => .inl ⟨i, r, hr, h⟩) (fr.nd i r hr) (fun a h => .inl ⟨i, r, hr, by simp [h]⟩) fun a h w => fr.zo i a ⟨r, hr, w⟩ i r hr h⟩
    · unfold envOf; rw [List.map_set]; rfl
    · rcases List.mem_append.mp q with q | q
      · exact (gt e).1 (fr.sep j i a ⟨r', (gt e).2, q⟩ ⟨r, hr, ha⟩)
      · exact fr.zo i a ⟨r, hr, ha⟩ j r' (gt e).2 q
theorem s_retN {pos : Pos} : PS X (.Return none pos) (tS X G CA cf W L .retN) := PS.weak ps_retN fun D σ H ⟨S, sr, fr, h⟩ => by
  rw [exS] at h
  exact h S σ .non H [] [] sr fr Step.refl rfl .non (by simp) (by simp) (by simp) (by simp) (by simp)
theorem s_if {c : C} {e : Expr} {a b : List Stmt} {sa sb : List S} {pos : Pos} (hc : PT X e (tT X G CA cf W c)) (ha : PSs X a (tB X G CA cf W L sa)) (hb : PSs X b (tB X G CA cf W L sb)) : PS X (.If e a b pos) (tS X G CA cf W L (.ife c sa sb)) := PS.weak (ps_if hc ha hb) fun D σ H ⟨S, sr, fr, h⟩ => by
  rw [exS] at h
  refine ⟨S, sr, h.onB sr fr fun b H1 e s hd => ?_⟩
  cases b with
  | true => exact ⟨S, sr.same s, fr, hd.step (Step.same s)⟩
  | false => exact ⟨S, sr.same s, fr, hd.step (Step.same s)⟩
theorem s_while {n : Nat} {c : C} {e : Expr} {a : List Stmt} {sa : List S} {pos : Pos} (pas : PassesOwn (model X.prog X.w) X.A X.env X.xe) (hc : PT X e (tT X G CA cf W c)) (ha : PSs X a (tB X G CA cf W L sa)) : PS X (.While e a [] pos) (tS X G CA cf W L (.whl n c sa)) := PS.weak (ps_while pas hc ha) fun D σ H ⟨S, sr, fr, h⟩ => by
  rw [exS] at h
  refine ⟨fun m σ' H' => ∃ S', SRep X.K CA S' σ' H' ∧ Fr S' ∧ Step cf.io L S H S' H' ∧ DenS X.K CA W cf.io L S H (whileL (fun ρ => evB G cf ρ c) (fun ρ => exB G cf L ρ sa) m (envOf S')) D, ⟨n, S, sr, fr, Step.refl, h⟩, ?_⟩
  rintro m σ1 H1 ⟨S1, sr1, fr1, st1, h1⟩
  cases m with
  | zero => exact h1.elim
  | succ m =>
    unfold whileL at h1
    refine ⟨S1, sr1, ?_⟩
    cases e : evB G cf (envOf S1) c with
    | exc x => rw [e] at h1; exact fun cls dd H' s x => h1 S1 σ1 H' cls dd (sr1.same s) fr1 (st1.trans (Step.same s)) rfl x
    | bad => rw [e] at h1; exact h1.elim
    | ok b =>
      rw [e] at h1
      intro H2 s2
      cases b with
      | false => exact h1 S1 σ1 H2 (sr1.same s2) fr1 (st1.trans (Step.same s2)) rfl
      | true =>
        have st2 : Step cf.io L S H S1 H2 := st1.trans (Step.same s2)
        refine ⟨fun σ' H' => ∃ S', SRep X.K CA S' σ' H' ∧ Fr S' ∧ Step cf.io L S H S' H' ∧ DenS X.K CA W cf.io L S H (whileL (fun ρ => evB G cf ρ c) (fun ρ => exB G cf L ρ sa) m (envOf S')) D, fun σ' H' hN => ⟨m, by omega, hN⟩, S1, sr1.same s2, fr1, ?_⟩
        simp only at h1
        cases e2 : exB G cf L (envOf S1) sa with
        | nx ρ =>
          rw [e2] at h1
          intro S' σ' H' sr' fr' st' he
          exact ⟨S', sr', fr', st2.trans st', by rw [he]; exact h1⟩
        | rt p ρ => rw [e2] at h1; exact DenS.nx' (D := D) rfl (fun _ z => by cases z) (DenS.step st2 h1)
        | exc x ρ => rw [e2] at h1; exact DenS.nx' (D := D) rfl (fun _ z => by cases z) (DenS.step st2 h1)
        | bad => rw [e2] at h1; exact h1.elim
end
end Vy

namespace Vy
open PySem PySem.Spec
open PyProof.Rows hiding St
open L2
theorem setV_len {ρ : Env} {i : Nat} {p : D × Nat} : (setV ρ i p).length = ρ.length := by unfold setV; simp
theorem frz_len : ∀ {is : List Nat} {ρ : Env}, (frz ρ is).length = ρ.length
  | [], _ => rfl
  | i :: is, ρ => by
    show (frz (frz1 ρ i) is).length = _
    rw [frz_len]
    unfold frz1
    split
    · exact setV_len
    · rfl
theorem put_len {tg : Tg} {ρ ρ' : Env} {d : D} (h : tg.put ρ d = .ok ρ') : ρ'.length = ρ.length := by
  cases tg with
  | one i => cases h; exact setV_len
  | tup l =>
    cases d <;> first | (cases h; done) | skip
    rename_i ds
    obtain ⟨_, h⟩ := gd_ok (show gd _ _ = .ok ρ' from h)
    cases h
    have : ∀ (ps : List (Nat × D)) (ρ : Env), (ps.foldl (fun r p => setV r p.1 (p.2, 0)) ρ).length = ρ.length := by
      intro ps
      induction ps with
      | nil => intro ρ; rfl
      | cons p ps ih => intro ρ; rw [List.foldl_cons, ih, setV_len]
    exact this _ _
theorem bindV_len {ρ : Env} {i : Nat} {p : D × Nat} {ns : List Nat} : (bindV ρ i p ns).length = ρ.length := by
  unfold bindV; split
  · exact setV_len
  · rw [setV_len, frz_len]
def LenOk (n : Nat) (o : OS) : Prop := match o with
  | .nx ρ => ρ.length = n
  | .exc _ ρ => ρ.length = n
  | _ => True
def LenX (n : Nat) (o : OX) : Prop := match o with
  | .ok _ ρ => ρ.length = n
  | .exc _ ρ => ρ.length = n
  | .bad => True
section
variable {n : Nat} {ρ : Env} {L : List Nat}
theorem LenOk.onE {α : Type} {o : Out α} {f : α → OS} (h : ρ.length = n) (hf : ∀ a, LenOk n (f a)) : LenOk n (onE o ρ f) := by
  cases o with
  | ok a => exact hf a
  | exc e => exact h
  | bad => trivial
theorem LenX.onO {α : Type} {o : Out α} {f : α → OX} (h : ρ.length = n) (hf : ∀ a, o = .ok a → LenX n (f a)) : LenX n (onO o ρ f) := by
  cases o with
  | ok a => exact hf a rfl
  | exc e => exact h
  | bad => trivial
theorem LenX.bind {o : OX} {f : D × Nat → Env → OX} (h : LenX n o) (hf : ∀ p ρ, ρ.length = n → LenX n (f p ρ)) : LenX n (o.bind f) := by
  cases o with
  | ok p ρ => exact hf p ρ h
  | exc e ρ => exact h
  | bad => trivial
theorem LenOk.onX {o : OX} {f : D × Nat → Env → OS} (h : LenX n o) (hf : ∀ p ρ, ρ.length = n → LenOk n (f p ρ)) : LenOk n (onX o f) := by
  cases o with
  | ok p ρ => exact hf p ρ h
  | exc e ρ => exact h
  | bad => trivial
theorem LenOk.onJ {J is : List Nat} {o : OS} (h : LenOk n o) : LenOk n (onJ J is o) := by
  rcases onJ_eq (J := J) (is := is) (o := o) with e | ⟨e, _⟩ <;> rw [e]
  · trivial
  · exact h
theorem LenX.of {o : Option OX} (h : ∀ x, o = some x → LenX n x) : LenX n (OX.of o) := by
  cases o with
  | none => trivial
  | some x => exact h x rfl
theorem LenOk.of {o : Option OS} (h : ∀ x, o = some x → LenOk n x) : LenOk n (osOf o) := by
  cases o with
  | none => trivial
  | some x => exact h x rfl
theorem LenOk.putS {tg : Tg} {d : D} {f : Env → OS} (h : ρ.length = n) (hf : ∀ ρ, ρ.length = n → LenOk n (f ρ)) : LenOk n (putS ρ tg d f) := by
  unfold Vy.putS
  split
  · rename_i ρ1 e
    exact hf _ ((put_len e).trans h)
  · trivial
theorem LenOk.forL {f : Env → D → OS} (hf : ∀ ρ d, ρ.length = n → LenOk n (f ρ d)) : ∀ {xs : List D} {ρ : Env}, ρ.length = n → LenOk n (forL f xs ρ)
  | [], ρ, h => h
  | x :: xs, ρ, h => by
    unfold Vy.forL
    have := hf ρ x h
    split
    · rename_i ρ1 e
      rw [e] at this
      exact LenOk.forL hf this
    · exact this
theorem LenOk.whileL {c : Env → Out Bool} {f : Env → OS} (hf : ∀ ρ, ρ.length = n → LenOk n (f ρ)) : ∀ {k : Nat} {ρ : Env}, ρ.length = n → LenOk n (whileL c f k ρ)
  | 0, ρ, h => trivial
  | k + 1, ρ, h => by
    unfold Vy.whileL
    split
    · have := hf ρ h
      split
      · rename_i ρ1 e
        rw [e] at this
        exact LenOk.whileL hf this
      · exact this
    · exact h
    · exact h
    · trivial
theorem LenOk.appD {i : Nat} {p : D × Nat} {ns : List Nat} (h : ρ.length = n) : LenOk n (appD L ρ i p ns) := by
  unfold Vy.appD
  repeat' split
  all_goals first
    | trivial
    | (show (setV _ _ _).length = n; rw [setV_len, frz_len]; exact h)
    | (show (setV _ _ _).length = n; rw [setV_len]; exact h)
theorem chgP_len {i : Nat} {rs : List Rtp} {q : D × Nat} {ρ' : Env} (h : chgP ρ i rs q = some ρ') : ρ'.length = ρ.length := by
  unfold chgP at h
  obtain ⟨p, _, h⟩ := Option.bind_eq_some_iff.mp h
  obtain ⟨_, _, e⟩ := Option.map_eq_some_iff.mp h
  rw [← e]; exact setV_len
theorem takeP_len {i : Nat} {rs : List Rtp} {u : (D × Nat) × Env} (h : takeP ρ i rs = some u) : u.2.length = ρ.length := by
  unfold takeP at h
  obtain ⟨p, _, h⟩ := Option.bind_eq_some_iff.mp h
  obtain ⟨_, _, e⟩ := Option.map_eq_some_iff.mp h
  rw [← e]; simp
theorem giveP_len {i : Nat} {rs : List Rtp} {q : D × Nat} {ρ' : Env} (h : giveP ρ i rs q = some ρ') : ρ'.length = ρ.length := by
  unfold giveP at h
  obtain ⟨p, _, h⟩ := Option.bind_eq_some_iff.mp h
  obtain ⟨g, _, h⟩ := Option.bind_eq_some_iff.mp h
  obtain ⟨_, h⟩ := go_some h
  split at h
  · cases h; exact setV_len
  · obtain ⟨_, h⟩ := go_some h
    cases h; simp
theorem gives_len : ∀ {bs : List Bk} {ios : List (D × Nat)} {ρ ρ' : Env}, gives ρ bs ios = some ρ' → ρ'.length = ρ.length
  | [], [], ρ, ρ', h => by cases h; rfl
  | [], _ :: _, ρ, ρ', h => by cases h
  | .pu :: bs, ios, ρ, ρ', h => by rw [gives] at h; exact gives_len h
  | .rd i rs q :: bs, ios, ρ, ρ', h => by
    rw [gives] at h
    obtain ⟨ρ1, h1, h⟩ := Option.bind_eq_some_iff.mp h
    rw [gives_len h, giveP_len h1]
  | .io i rs :: bs, [], ρ, ρ', h => by cases h
  | .io i rs :: bs, q :: ios, ρ, ρ', h => by
    rw [gives] at h
    obtain ⟨ρ1, h1, h⟩ := Option.bind_eq_some_iff.mp h
    rw [gives_len h, giveP_len h1]
end
section
variable {G : Glo} {cf : Runs}
theorem takes_len {L io : List Nat} {ρ0 : Env} : ∀ {as : List Ag} {ρ : Env} {q : List (D × Nat) × Env × List Bk}, takes G cf L io ρ0 ρ as = .ok q → q.2.1.length = ρ.length
  | [], ρ, q, h => by cases h; rfl
  | .pu c :: r, ρ, q, h => by
    rw [takes] at h
    obtain ⟨p, _, h⟩ := Out.bind_eq_ok h
    obtain ⟨_, h⟩ := gd_ok h
    obtain ⟨q1, h1, h⟩ := Out.bind_eq_ok h
    cases h
    exact takes_len (q := q1) h1
  | .rd p :: r, ρ, q, h => by
    rw [takes] at h
    obtain ⟨rs, _, h⟩ := Out.bind_eq_ok h
    obtain ⟨u, hu, h⟩ := Out.bind_eq_ok h
    obtain ⟨q1, h1, h⟩ := Out.bind_eq_ok h
    have hu : takeP ρ p.i rs = some u := by
      cases e : takeP ρ p.i rs with
      | none => rw [e] at hu; cases hu
      | some x => rw [e] at hu; cases hu; rfl
    cases h
    show q1.2.1.length = _
    rw [takes_len h1, takeP_len hu]
  | .io p :: r, ρ, q, h => by
    rw [takes] at h
    obtain ⟨rs, _, h⟩ := Out.bind_eq_ok h
    obtain ⟨u, hu, h⟩ := Out.bind_eq_ok h
    obtain ⟨_, h⟩ := gd_ok h
    obtain ⟨q1, h1, h⟩ := Out.bind_eq_ok h
    have hu : takeP ρ p.i rs = some u := by
      cases e : takeP ρ p.i rs with
      | none => rw [e] at hu; cases hu
      | some x => rw [e] at hu; cases hu; rfl
    cases h
    show q1.2.1.length = _
    rw [takes_len h1, takeP_len hu]
theorem mopX_len {n : Nat} {L : List Nat} {ρ : Env} {i : Nat} {rs : List Rtp} {ns : List Nat} {ps : List (D × Nat)} {f : D × Nat → Option ((D × Nat) × (D × Nat))} (h : ρ.length = n) : LenX n (mopX L ρ i rs ns ps f) := by
  unfold mopX
  refine LenX.of fun x e => ?_
  split at e
  · cases e
  · obtain ⟨p, _, e⟩ := Option.bind_eq_some_iff.mp e
    obtain ⟨q, _, e⟩ := Option.bind_eq_some_iff.mp e
    obtain ⟨u, _, e⟩ := Option.bind_eq_some_iff.mp e
    split at e
    · obtain ⟨ρ', h1, e⟩ := Option.map_eq_some_iff.mp e
      cases e
      exact (chgP_len h1).trans h
    · split at e
      · cases e
      · obtain ⟨ρ', h1, e⟩ := Option.map_eq_some_iff.mp e
        cases e
        exact (chgP_len h1).trans (frz_len.trans h)
theorem setL_len : ∀ {is : List Nat} {qs : List (D × Nat)} {ρ : Env}, (setL ρ is qs).length = ρ.length
  | [], _, _ => by rw [setL] <;> simp
  | _ :: _, [], _ => by rw [setL] <;> simp
  | i :: is, q :: qs, ρ => by rw [setL, setL_len, setV_len]
theorem iowX_len {n : Nat} {L : List Nat} {ρ : Env} {f : Nat} {as : List Aw} (h : ρ.length = n) : LenX n (iowX G cf L ρ f as) := by
  unfold iowX
  refine LenX.onO h fun ps _ => ?_
  split
  · split
    · split
      · exact setL_len.trans h
      · trivial
    · split
      · exact setL_len.trans h
      · trivial
    · trivial
  · trivial
mutual
theorem exX_len {n : Nat} : ∀ (x : Xp) (L : List Nat) (ρ : Env), ρ.length = n → LenX n (exX G cf L ρ x)
  | .pu c, L, ρ, h => by rw [exX]; exact LenX.onO h fun p _ => h
  | .iow f as, L, ρ, h => by rw [exX]; exact iowX_len h
  | .mop p m es, L, ρ, h => by
    rw [exX]
    refine LenX.onO h fun rs _ => LenX.of fun x e => ?_
    obtain ⟨q, _, e⟩ := Option.map_eq_some_iff.mp e
    subst e
    split
    · exact LenX.onO h fun ps _ => mopX_len h
    · trivial
  | .ioc f as, L, ρ, h => by
    rw [exX]
    refine LenX.onO h fun q hq => ?_
    have hl := (takes_len hq).trans h
    split
    · refine LenX.of fun x e => ?_
      obtain ⟨ρ', h1, e⟩ := Option.map_eq_some_iff.mp e
      cases e
      exact (gives_len h1).trans hl
    · refine LenX.of fun x e => ?_
      obtain ⟨ρ', h1, e⟩ := Option.map_eq_some_iff.mp e
      cases e
      exact (gives_len h1).trans hl
    · trivial
  | .cmp o a b, L, ρ, h => by
    rw [exX]
    refine (exX_len a L ρ h).bind fun x ρ1 h1 => LenX.of fun y e => ?_
    split at e
    · cases e
      refine (exX_len b L ρ1 h1).bind fun y ρ2 h2 => LenX.of fun z e => ?_
      obtain ⟨r, _, e⟩ := Option.map_eq_some_iff.mp e
      cases e; exact h2
    · cases e
  | .sub a i, L, ρ, h => by
    rw [exX]
    refine (exX_len a L ρ h).bind fun x ρ1 h1 => LenX.onO h1 fun y _ => LenX.of fun z e => ?_
    obtain ⟨r, _, e⟩ := Option.map_eq_some_iff.mp e
    cases e; exact h1
  | .not a, L, ρ, h => by
    rw [exX]
    refine (exX_len a L ρ h).bind fun x ρ1 h1 => LenX.of fun z e => ?_
    obtain ⟨r, _, e⟩ := Option.map_eq_some_iff.mp e
    cases e; exact h1
  | .and a b, L, ρ, h => by
    rw [exX]
    refine (exX_len a L ρ h).bind fun x ρ1 h1 => LenX.of fun z e => ?_
    obtain ⟨r, _, e⟩ := Option.map_eq_some_iff.mp e
    cases e
    cases r with
    | true => rw [if_pos rfl]; exact exX_len b L ρ1 h1
    | false => rw [if_neg (by decide)]; exact h1
  | .or a b, L, ρ, h => by
    rw [exX]
    refine (exX_len a L ρ h).bind fun x ρ1 h1 => LenX.of fun z e => ?_
    obtain ⟨r, _, e⟩ := Option.map_eq_some_iff.mp e
    cases e
    cases r with
    | true => rw [if_pos rfl]; exact h1
    | false => rw [if_neg (by decide)]; exact exX_len b L ρ1 h1
  | .tup xs, L, ρ, h => by
    rw [exX]
    refine exXs_len xs L ρ _ h fun ps ρ1 h1 => LenX.of fun z e => ?_
    split at e <;> cases e
    exact h1
  | .lst xs, L, ρ, h => by
    rw [exX]
    refine exXs_len xs L ρ _ h fun ps ρ1 h1 => LenX.of fun z e => ?_
    split at e <;> cases e
    exact h1
  | .cal f xs, L, ρ, h => by
    rw [exX]
    exact exXs_len xs L ρ _ h fun ps ρ1 h1 => LenX.onO h1 fun p _ => h1
  | .get d x e, L, ρ, h => by
    rw [exX]
    refine LenX.onO h fun p _ => (exX_len x L ρ h).bind fun k ρ1 h1 => LenX.onO h1 fun y _ => LenX.of fun z e => ?_
    obtain ⟨r, _, e⟩ := Option.map_eq_some_iff.mp e
    cases e; exact h1
  | .lc it tg t e, L, ρ, h => by
    rw [exX]
    refine LenX.onO h fun p _ => LenX.of fun z e => ?_
    obtain ⟨r, _, e⟩ := Option.map_eq_some_iff.mp e
    cases e; trivial
theorem exXs_len {n : Nat} : ∀ (xs : List Xp) (L : List Nat) (ρ : Env) (k : List (D × Nat) → Env → OX), ρ.length = n → (∀ ps ρ, ρ.length = n → LenX n (k ps ρ)) → LenX n (exXs G cf L ρ xs k)
  | [], L, ρ, k, h, hk => by rw [exXs]; exact hk _ _ h
  | x :: xs, L, ρ, k, h, hk => by
    rw [exXs]
    refine (exX_len x L ρ h).bind fun p ρ1 h1 => LenX.of fun z e => ?_
    split at e <;> cases e
    exact exXs_len xs L ρ1 _ h1 fun ps ρ2 h2 => hk _ _ h2
end
theorem exSu_len {n : Nat} {J : List Nat} {ρ : Env} (h : ρ.length = n) (su : Sui) : LenOk n (exSu G cf J ρ su) := by
  cases su with
  | ret c => exact LenOk.onE h fun p => trivial
  | asg i c => exact LenOk.onE h fun p => LenOk.onJ (by show (bindV _ _ _ _).length = n; rw [bindV_len]; exact h)
  | rai c fs es => exact LenOk.onE h fun p => by split <;> first | exact h | trivial
theorem handle_len {n : Nat} {J : List Nat} {e : Exn} {ρ : Env} (h : ρ.length = n) : ∀ hs : List Hdl, LenOk n (handle G cf J e ρ hs)
  | [] => h
  | x :: hs => by
    unfold handle
    split
    · split
      · exact exSu_len h _
      · split
        · trivial
        · exact exSu_len (by simpa using h) _
    · exact handle_len h hs
theorem amvD_len {n : Nat} {J L : List Nat} {ρ : Env} {i j : Nat} (h : ρ.length = n) : LenOk n (amvD J L ρ i j) := by
  unfold amvD
  split
  · split
    · show List.length _ = n; simpa using h
    · trivial
  · trivial
mutual
theorem exS_len {n : Nat} : ∀ (s : S) (L : List Nat) (ρ : Env), ρ.length = n → LenOk n (exS G cf L ρ s)
  | .pass, L, ρ, h => by rw [exS]; exact h
  | .amv i j, L, ρ, h => by rw [exS]; exact amvD_len h
  | .asg i e, L, ρ, h => by rw [exS]; exact LenOk.onE h fun p => LenOk.onJ (by show (bindV _ _ _ _).length = n; rw [bindV_len]; exact h)
  | .asgT is e, L, ρ, h => by
    rw [exS]
    exact LenOk.onE h fun p => LenOk.onJ (LenOk.putS (by split <;> first | exact h | exact frz_len.trans h) fun ρ h => h)
  | .exp e, L, ρ, h => by rw [exS]; exact LenOk.onE h fun p => h
  | .ret e, L, ρ, h => by rw [exS]; exact LenOk.onE h fun p => trivial
  | .retv i, L, ρ, h => by rw [exS]; split <;> trivial
  | .retN, L, ρ, h => by rw [exS]; trivial
  | .ife t a b, L, ρ, h => by
    rw [exS]
    refine LenOk.onE h fun c => ?_
    cases c with
    | true => exact exB_len a L ρ h
    | false => exact exB_len b L ρ h
  | .whl k t b, L, ρ, h => by rw [exS]; exact LenOk.whileL (fun ρ h => exB_len b L ρ h) h
  | .for_ tg it b, L, ρ, h => by
    rw [exS]
    refine LenOk.onE h fun p => ?_
    split
    · trivial
    · refine LenOk.onJ ?_
      split
      · exact LenOk.forL (fun ρ d h => LenOk.putS h fun ρ h => exB_len b L ρ h) h
      · exact LenOk.forL (fun ρ d h => LenOk.putS h fun ρ h => exB_len b _ ρ h) (by split <;> first | exact h | exact frz_len.trans h)
  | .forD tg it b, L, ρ, h => by
    rw [exS]
    refine LenOk.onE h fun p => ?_
    split
    · trivial
    · refine LenOk.onJ ?_
      split
      · exact LenOk.forL (fun ρ d h => LenOk.putS h fun ρ h => exB_len b L ρ h) h
      · exact LenOk.forL (fun ρ d h => LenOk.putS h fun ρ h => exB_len b _ ρ h) (frz_len.trans h)
  | .app i e, L, ρ, h => by
    rw [exS]
    split
    · exact LenOk.onE h fun p => LenOk.appD h
    · trivial
  | .par i j a b, L, ρ, h => by
    rw [exS]
    refine LenOk.onE h fun ps => LenOk.onJ ?_
    unfold parD
    split
    · show (setV _ _ _).length = n
      rw [setV_len, setV_len]
      split
      · exact h
      · exact frz_len.trans h
    · trivial
  | .asgX i x, L, ρ, h => by rw [exS]; exact LenOk.onX (exX_len x L ρ h) fun p ρ1 h1 => LenOk.onJ (by show (bindV _ _ _ _).length = n; rw [bindV_len]; exact h1)
  | .asgXT is x, L, ρ, h => by
    rw [exS]
    exact LenOk.onX (exX_len x L ρ h) fun p ρ1 h1 => LenOk.onJ (LenOk.putS (by split <;> first | exact h1 | exact frz_len.trans h1) fun ρ h => h)
  | .expX x, L, ρ, h => by rw [exS]; exact LenOk.onX (exX_len x L ρ h) fun p ρ1 h1 => h1
  | .retX x, L, ρ, h => by rw [exS]; exact LenOk.onX (exX_len x L ρ h) fun p ρ1 h1 => trivial
  | .ifX x a b, L, ρ, h => by
    rw [exS]
    refine LenOk.onX (exX_len x L ρ h) fun p ρ1 h1 => LenOk.of fun z e => ?_
    obtain ⟨c, _, e⟩ := Option.map_eq_some_iff.mp e
    cases e
    cases c with
    | true => exact exB_len a L ρ1 h1
    | false => exact exB_len b L ρ1 h1
  | .appX i x, L, ρ, h => by
    rw [exS]
    split
    · refine LenOk.onX (exX_len x L ρ h) fun q ρ1 h1 => ?_
      split
      · exact LenOk.onX (mopX_len h1) fun _ ρ2 h2 => h2
      · trivial
    · trivial
  | .st p k e, L, ρ, h => by rw [exS]; exact LenOk.onE h fun q => LenOk.onE h fun rs => LenOk.onE h fun y => LenOk.onX (mopX_len h) fun _ ρ2 h2 => h2
  | .stX i x e, L, ρ, h => by
    rw [exS]
    refine LenOk.onE h fun q => ?_
    split
    · exact LenOk.onX (exX_len x L ρ h) fun y ρ1 h1 => LenOk.onX (mopX_len h1) fun _ ρ2 h2 => h2
    · trivial
  | .stf p f e, L, ρ, h => by rw [exS]; exact LenOk.onE h fun q => LenOk.onE h fun rs => LenOk.onX (mopX_len h) fun _ ρ2 h2 => h2
  | .forX tg x b, L, ρ, h => by
    rw [exS]
    refine LenOk.onX (exX_len x _ ρ h) fun p ρ1 h1 => LenOk.of fun z e => ?_
    obtain ⟨xs, _, e⟩ := Option.map_eq_some_iff.mp e
    subst e
    refine LenOk.onJ ?_
    split
    · exact LenOk.forL (fun ρ d h => LenOk.putS h fun ρ h => exB_len b L ρ h) h1
    · exact LenOk.forL (fun ρ d h => LenOk.putS h fun ρ h => exB_len b _ ρ h) (by split <;> first | exact h1 | exact frz_len.trans h1)
  | .rai c fs es, L, ρ, h => by rw [exS]; exact LenOk.onE h fun ps => by split <;> first | exact h | trivial
  | .tri b hs, L, ρ, h => by
    rw [exS]
    have := exB_len b L ρ h
    split
    · rename_i e ρ1 q
      rw [q] at this
      exact handle_len this hs
    · exact this
theorem exB_len {n : Nat} : ∀ (b : List S) (L : List Nat) (ρ : Env), ρ.length = n → LenOk n (exB G cf L ρ b)
  | [], L, ρ, h => by rw [exB]; exact h
  | s :: r, L, ρ, h => by
    rw [exB]
    have := exS_len s L ρ h
    split
    · rename_i ρ1 e
      rw [e] at this
      exact exB_len r L ρ1 this
    · exact this
end
end
section
variable {K : PySem.W.Frag} {CA : Nat → Addr} {S0 S1 S' : Slots} {σ σ' : St} {H H1 H3 : Hp} {L : List Nat}
/-- a target took an item -/
theorem Fr.put {is : List Nat} {Z : List Addr} (f : Fr S1) (p : Put S1 σ S' σ' is Z) (hz : ∀ a ∈ Z, ¬ Own S1 a) : Fr S' ∧ (∀ j a, OwnAt S' j a → OwnAt S1 j a) ∧ ∀ a, Any S' a → Any S1 a ∨ a ∈ Z := by
  have ow : ∀ j a, OwnAt S' j a → OwnAt S1 j a := fun j a ⟨r, e, q⟩ => by
    by_cases h : j ∈ is
    · rw [(p.new j h r e).1] at q; simp at q
    · rw [(p.oth j h).1] at e; exact ⟨r, e, q⟩
  refine ⟨⟨fun j r e => ?_, fun i j a h1 h2 => f.sep i j a (ow i a h1) (ow j a h2), fun i a h j r e => ?_⟩, ow, fun a ⟨j, r, e, q⟩ => ?_⟩
  · by_cases h : j ∈ is
    · rw [(p.new j h r e).1]; simp
    · rw [(p.oth j h).1] at e; exact f.nd j r e
  · by_cases hj : j ∈ is
    · exact fun z => hz a ((p.new j hj r e).2 a z) (ow i a h).own
    · rw [(p.oth j hj).1] at e; exact f.zo i a (ow i a h) j r e
  · by_cases hj : j ∈ is
    · obtain ⟨e1, e2⟩ := p.new j hj r e
      rw [e1] at q
      exact .inr (e2 a (by simpa using q))
    · rw [(p.oth j hj).1] at e; exact .inl ⟨j, r, e, q⟩
end
section
variable {X : Cx} {nm : Nm} {G : Glo} {CA : Nat → Addr} {cf : Runs} {W : WX} {L : List Nat}
/-- the loop itself -/
theorem for_core {tg : Tg} {g : TG} {S0 S1 : Slots} {σ : St} {H H1 : Hp} {D : Ends} {xs : List Vy.D} {J : It} {Ns : List Addr} {P : Hp → Prop} {L' : List Nat} {sa : List S} (hg : TgOk X.K CA tg g) (hlen : ∀ i ∈ tg.is, i < X.N.length) (hJ : ∀ i ∈ tg.is, i ∉ cf.io) (hσ : ∀ {S : Slots} {σ' : St} {H' : Hp}, SRep X.K CA S σ' H' → S.length = S0.length → S.length = X.N.length)
    (hL : ∀ i ∈ L, i ∈ L') (sr : SRep X.K CA S1 σ H1) (f1 : Fr S1) (l1 : S1.length = S0.length) (st : Step cf.io L' S0 H S1 H1) (hP : P H1) (w : Walk X.K CA J xs Ns P)
    (n1 : ∀ a ∈ Ns, ¬ Ou S1 L' a) (n2 : mdepL xs = 0 ∨ ∀ a ∈ Ns, ¬ Own S1 a) (n3 : ∀ a ∈ Ns, Any S0 a ∨ H a = none)
    (h : DenS X.K CA W cf.io L S0 H (forL (fun ρ d => putS ρ tg d fun ρ => exB G cf L' ρ sa) xs (envOf S1)) D) :
    ∃ V : Nat → Nat → St → Hp → Prop, (∃ m, V 0 m σ H1) ∧ ∀ i m σ H, V i m σ H →
      (J.stop i H ∧ D.nx σ H) ∨ (J.go i H ∧ ∃ N : St → Hp → Prop, (∀ σ' H', N σ' H' → ∃ m', m' < m ∧ V (i + 1) m' σ' H') ∧ ∀ x H', J.yld i H x H' → g x σ H' fun σ2 H2 => tB X G CA cf W L' sa { D with nx := N, ct := N, bk := D.nx } σ2 H2) := by
  have hN0 : ∀ a ∈ Ns, H1 a ≠ none := w.there H1 hP
  refine ⟨fun i m σc Hc => m = xs.length - i ∧ i ≤ xs.length ∧ ∃ Sc, SRep X.K CA Sc σc Hc ∧ Fr Sc ∧ Sc.length = S0.length ∧ Step cf.io L' S0 H Sc Hc ∧ P Hc ∧ (∀ a ∈ Ns, ¬ Ou Sc L' a) ∧ (mdepL xs = 0 ∨ ∀ a ∈ Ns, ¬ Own Sc a) ∧ DenS X.K CA W cf.io L S0 H (forL (fun ρ d => putS ρ tg d fun ρ => exB G cf L' ρ sa) (xs.drop i) (envOf Sc)) D,
    ⟨xs.length, rfl, Nat.zero_le _, S1, sr, f1, l1, st, hP, n1, n2, h⟩, ?_⟩
  rintro i m σc Hc ⟨rfl, hil, Sc, src, fc, lc, stc, hPc, m1, m2, hd⟩
  by_cases hlt : i < xs.length
  · right
    rw [List.drop_eq_getElem_cons hlt] at hd
    have hxi : xs[i]? = some xs[i] := List.getElem?_eq_getElem hlt
    refine ⟨w.go i Hc hlt hPc, fun σ' H' => ∃ S', SRep X.K CA S' σ' H' ∧ Fr S' ∧ S'.length = S0.length ∧ Step cf.io L' S0 H S' H' ∧ P H' ∧ (∀ a ∈ Ns, ¬ Ou S' L' a) ∧ (mdepL xs = 0 ∨ ∀ a ∈ Ns, ¬ Own S' a) ∧ DenS X.K CA W cf.io L S0 H (forL (fun ρ d => putS ρ tg d fun ρ => exB G cf L' ρ sa) (xs.drop (i + 1)) (envOf S')) D,
      fun σ' H' hN => ⟨xs.length - (i + 1), by omega, rfl, by omega, hN⟩, fun x H2 hy => ?_⟩
    obtain ⟨s2, Z0, r0, hZ0⟩ := w.yld i Hc x H2 xs[i] hPc hxi hy
    obtain ⟨Z, rx, hZ, hZo⟩ : ∃ Z, Rep X.K CA H2 0 xs[i] x [] Z ∧ (∀ a ∈ Z, a ∈ Ns) ∧ ∀ a ∈ Z, ¬ Own Sc a := by
      rcases m2 with z | z
      · have hd0 : (xs[i]).mdep = 0 := Nat.le_zero.mp (z ▸ mdepL_mem (List.getElem_mem hlt))
        obtain ⟨_, e, r⟩ := r0.imm (m := 0) hd0
        exact ⟨[], r, by simp, by simp⟩
      · exact ⟨Z0, r0, hZ0, fun a ha => z a (hZ0 a ha)⟩
    simp only [forL] at hd
    cases hp : tg.put (envOf Sc) xs[i] with
    | exc e => simp only [putS, hp] at hd; exact hd.elim
    | bad => simp only [putS, hp] at hd; exact hd.elim
    | ok ρ' =>
    simp only [putS, hp] at hd
    refine hg Sc σc H2 xs[i] x Z ρ' _ (src.same s2) rx hp (fun j hj => by rw [hσ src lc]; exact hlen j hj) fun S' σ' sr' hρ pu => ?_
    obtain ⟨f', ow, an⟩ := fc.put pu hZo
    have l' : S'.length = S0.length := by rw [sr'.len, pu.len, ← src.len, lc]
    have stp : Step cf.io L' S0 H S' H2 := by
      refine ⟨fun a o e n => s2 a o (stc.keep a o e n), fun a h => same_there s2 (stc.there a h), fun j a h => stc.own j a (ow j a h), fun a h => ?_, fun j hj r' h => ?_⟩
      · rcases an a h with z | z
        · exact stc.any a z
        · exact n3 a (hZ a z)
      · rw [(pu.oth j fun q => hJ j q hj).1] at h
        exact stc.pin j hj r' h
    refine ⟨S', sr', f', ?_⟩
    rw [hρ]
    -- behind a turn
    have go : ∀ S2 σ2 H4, SRep X.K CA S2 σ2 H4 → Fr S2 → Step cf.io L' S' H2 S2 H4 → S2.length = S0.length → P H4 ∧ (∀ a ∈ Ns, ¬ Ou S2 L' a) ∧ (mdepL xs = 0 ∨ ∀ a ∈ Ns, ¬ Own S2 a) := fun S2 σ2 H4 sr2 f2 st2 l2 => by
      have nsu : ∀ a ∈ Ns, ¬ Ou S' L' a := fun a ha ⟨j, hj, q⟩ => m1 a ha ⟨j, hj, ow j a q⟩
      have nth : ∀ a ∈ Ns, H2 a ≠ none := fun a ha => same_there s2 (w.there Hc hPc a ha)
      have p2 : P H2 := w.keep [] Hc H2 hPc (keepS s2) (fun a z => by simp at z) (by simp)
      refine ⟨w.keep (ownL S' L') H2 H4 p2 st2.keepF sr'.fix fun a ha z => nsu a ha (ownL_mem.mp z), fun a ha z => ?_, m2.imp id fun z a ha q => ?_⟩
      · rcases st2.ou z with q | q
        · exact nsu a ha q
        · exact nth a ha q
      · rcases st2.ownA q with ⟨j, q⟩ | q
        · exact z a ha ⟨j, ow j a q⟩
        · exact nth a ha q
    cases e2 : exB G cf L' ρ' sa with
    | nx ρ2 =>
      rw [e2] at hd
      intro S2 σ2 H4 sr2 f2 st2 he
      have l2 : S2.length = S0.length := by
        have : (envOf S2).length = (envOf S').length := by
          rw [he, hρ]
          have := exB_len (G := G) (cf := cf) sa L' ρ' rfl
          rw [e2] at this; exact this
        rw [envOf_len, envOf_len] at this
        rw [this, l']
      obtain ⟨q1, q2, q3⟩ := go S2 σ2 H4 sr2 f2 st2 l2
      exact ⟨S2, sr2, f2, l2, stp.trans st2, q1, q2, q3, by rw [he]; exact hd⟩
    | rt p ρ => rw [e2] at hd; exact DenS.nx' (D := D) rfl (fun _ z => by cases z) (DenS.step stp (hd.lock hL))
    | exc x ρ => rw [e2] at hd; exact DenS.nx' (D := D) rfl (fun _ z => by cases z) (DenS.step stp (hd.lock hL))
    | bad => rw [e2] at hd; exact hd.elim
  · left
    have hie : i = xs.length := by omega
    subst hie
    rw [List.drop_length] at hd
    exact ⟨w.stop Hc hPc, hd Sc σc Hc src fc (stc.mono hL) rfl⟩
theorem s_for {tg : Tg} {g : TG} {it : C} {tge iter : Expr} {b : List Stmt} {sa : List S} {pos : Pos} (pas : PassesOwn (model X.prog X.w) X.A X.env X.xe) (hc : X.calm = true) (hg : TgOk X.K CA tg g) (hlen : ∀ i ∈ tg.is, i < X.N.length) (hi : PI X tge iter (tI X G CA cf W it)) (pg : PG X tge g)
    (ha : ∀ L, PSs X b (tB X G CA cf W L sa)) (hs : noSet iter = true) : PS X (.For tge iter b [] pos) (tS X G CA cf W L (.for_ tg it sa)) := ⟨fun pins s σ H D I ⟨S, sr, fr, h⟩ => by
  have hN : S.length = X.N.length := by rw [sr.len, I.len]
  rw [exS] at h
  cases e : ev G cf (envOf S) it with
  | exc x =>
    rw [e] at h
    refine (ps_for pas hc hi pg (ha L) (fold_no hs)).run pins s σ H D I ⟨S, sr, ?_⟩
    rw [e]
    exact fun cls dd H' s x => h S σ H' cls dd (sr.same s) fr (Step.same s) rfl x
  | bad => rw [e] at h; exact h.elim
  | ok p =>
    rw [e] at h
    simp only [onE_ok] at h
    cases hx : itemsOf p.1 with
    | none => rw [hx] at h; exact h.elim
    | some xs =>
      rw [hx] at h
      simp only at h
      obtain ⟨hJ, h⟩ := h.onJ
      by_cases hf : full p = true
      · rw [if_pos hf] at h
        refine (ps_for pas hc hi pg (ha L) (fold_no hs)).run pins s σ H D I ⟨S, sr, ?_⟩
        rw [e]
        refine ⟨xs, hx, fun J H1 Ns P s1 hP w hNs => ?_⟩
        have nf : ∀ a ∈ Ns, H a = none := fun a ha => (hNs a ha).elim id fun z => absurd (by simpa [full] using hf) z.1
        exact for_core hg hlen hJ (fun _ l => by rw [l, hN]) (fun _ h => h) (sr.same s1) fr rfl (Step.same s1) hP w (fun a ha z => sr.own z.own (nf a ha)) (.inr fun a ha z => sr.own z (nf a ha)) (fun a ha => .inr (nf a ha)) h
      · rw [if_neg hf] at h
        refine (ps_for pas hc hi pg (ha (names it ++ L)) (fold_no hs)).run pins s σ H D I ⟨S, sr, ?_⟩
        rw [e]
        refine ⟨xs, hx, fun J H1 Ns P s1 hP w hNs => ?_⟩
        have n3 : ∀ a ∈ Ns, Any S a ∨ H a = none := fun a ha => (hNs a ha).elim .inr fun z => .inl z.2.any
        by_cases hm : mdepL xs = 0
        · rw [if_pos hm] at h
          refine for_core hg hlen hJ (fun _ l => by rw [l, hN]) (fun j hj => List.mem_append_right _ hj) (sr.same s1) fr rfl (Step.same s1) hP w (fun a ha z => ?_) (.inl hm) n3 h
          obtain ⟨k, hk, q⟩ := z
          rcases hNs a ha with y | ⟨_, j, hj, r, hr, y⟩
          · exact sr.own q.own y
          · rcases List.mem_append.mp y with y | y
            · have := fr.sep k j a q ⟨r, hr, y⟩
              subst this
              exact hk (List.mem_append_left _ hj)
            · exact fr.zo k a q j r hr y
        · rw [if_neg hm] at h
          obtain ⟨S1, sr1, f1, z⟩ := frz_ok (names it) sr fr
          rw [← z.env] at h
          have nn : ∀ a ∈ Ns, ¬ Own S1 a := fun a ha q => by
            rcases hNs a ha with y | y
            · exact sr1.own q y
            · exact z.free fr y.2 q
          exact for_core hg hlen hJ (fun _ l => by rw [l, hN]) (fun j hj => List.mem_append_right _ hj) (sr1.same s1) f1 z.len (z.step.trans (Step.same s1)) hP w (fun a ha q => nn a ha q.own) (.inr nn) n3 h⟩
theorem s_asgT {is : List Nat} {g : TG} {c : C} {tge e : Expr} {pos : Pos} (hg : TgOk X.K CA (.tup is) g) (hlen : ∀ i ∈ is, i < X.N.length) (he : PE X e (tE X G CA cf W c)) (pg : PG X tge g) (hs : swapsWithSole [tge] e pos.line X.env = pure false) (hw : swappedStores [tge] e X.env = pure none)
    (h1 : (assignEach [tge] X.env).map (·.2) = [assign tge X.env]) : PS X (.Assign [tge] e pos) (tS X G CA cf W L (.asgT is c)) := ⟨fun pins s σ H D I ⟨S, sr, fr, h⟩ => (ps_asg he pg hs hw h1).run pins s σ H D I (by
  have hN : S.length = X.N.length := by rw [sr.len, I.len]
  rw [exS] at h
  refine ⟨S, sr, h.onE sr fr fun p v H1 O Z e pv hd => ?_⟩
  obtain ⟨hJ, hd⟩ := hd.onJ
  obtain ⟨O1, Z1, p0, lw⟩ := pv.low (Nat.zero_le _)
  have hO1 := p0.rep.zero
  subst hO1
  have zz : ∀ a ∈ Z1, H a = none ∨ Nod S (names c) a := p0.zin
  have fin : ∀ S1, SRep X.K CA S1 σ H → Fr S1 → S1.length = S.length → (∀ j a, OwnAt S1 j a → OwnAt S j a) → (∀ a, Any S1 a → Any S a) → (∀ a ∈ Z1, ¬ Own S1 a) → (∀ (j : Nat) (r' : Root), S1[j]? = some (some r') → ∃ r : Root, S[j]? = some (some r) ∧ r.v = r'.v) → DenS X.K CA W cf.io L S H (putS (envOf S1) (.tup is) p.1 .nx) D → g v σ H1 D.nx := fun S1 sr1 f1 l1 ow an hz pin hd => by
    cases hp : Tg.put (envOf S1) (.tup is) p.1 with
    | exc e => simp only [putS, hp] at hd; exact hd.elim
    | bad => simp only [putS, hp] at hd; exact hd.elim
    | ok ρ' =>
      simp only [putS, hp] at hd
      refine hg S1 σ H1 p.1 v Z1 ρ' _ (sr1.same pv.same) p0.rep hp (fun j hj => by rw [l1, hN]; exact hlen j hj) fun S' σ' sr' hρ pu => ?_
      obtain ⟨f', ow', an'⟩ := f1.put pu hz
      refine hd S' σ' H1 sr' f' ⟨fun a o e _ => pv.same a o e, fun a h => same_there pv.same h, fun j a h => .inl (ow j a (ow' j a h)), fun a h => ?_, fun j hj r' h => ?_⟩ hρ
      · rcases an' a h with z | z
        · exact .inl (an a z)
        · exact (zz a z).elim .inr fun w => .inl w.any
      · rw [(pu.oth j fun q => hJ j q hj).1] at h
        exact pin j r' h
  by_cases hf : full p = true
  · rw [if_pos hf] at hd
    have hz : Z = [] := pv.rep.full (by simpa [full] using hf)
    refine fin S sr fr rfl (fun _ _ h => h) (fun _ h => h) (fun a ha q => ?_) (fun j r h => ⟨r, h, rfl⟩) hd
    rcases lw.all a ha with z | z
    · exact sr.own q (pv.fresh a z)
    · rw [hz] at z; simp at z
  · rw [if_neg hf] at hd
    obtain ⟨S1, sr1, f1, z⟩ := frz_ok (names c) sr fr
    rw [← z.env] at hd
    refine fin S1 sr1 f1 z.len z.own (fun a ⟨j, r, e, q⟩ => let ⟨r0, h1, h2⟩ := z.any j r e; ⟨j, r0, h1, h2 a q⟩) (fun a ha q => ?_) z.pin hd
    rcases zz a ha with y | y
    · exact sr1.own q y
    · exact z.free fr y q)⟩
end
end Vy

namespace Vy
open PySem PySem.Spec
open PyProof.Rows hiding St
open L2
section
variable {X : Cx} {nm : Nm} {G : Glo} {CA : Nat → Addr} {cf : Runs} {W : WX} {L : List Nat}
/-- a list that is a slot's own -/
theorem Rep.lst_own {K : PySem.W.Frag} {H : Hp} {n : Nat} {xs : List D} {v : V} {O Z : List Addr} (r : Rep K CA H n (.lst xs) v O Z) (h : 1 ≤ n) : ∃ m a vs O', n = m + 1 ∧ v = .ref a ∧ H a = some (.lst vs) ∧ Reps K CA H m xs vs O' Z ∧ O = a :: O' := by
  cases r with
  | lstO e r => exact ⟨_, _, _, _, rfl, rfl, e, r, rfl⟩
  | lstZ e r => omega
theorem s_app {i : Nat} {x : Str} {c : C} {e : Expr} {p apos cpos pos : Pos} (hN : X.N[i]? = some x) (hv : Vis X.env.scope x) (hdb : (x == ("__debug__" : Str)) = false) (hcd : (x == ("__classdict__" : Str)) = false)
    (he : PE X e (tE X G CA cf W c)) (hs : noStar e = true) (hl : (apos.endLine == cpos.line) = true) : PS X (.Expr (.Call (.Attribute (.Name x p) "append" apos) [e] [] cpos) pos) (tS X G CA cf W L (.app i c)) := by
  have hs1 : [e].all noStar = true := by simp [hs]
  refine PS.weak (ps_expr (pe_bm F.plainAttrs_list F.slot_list_append F.type_list_append mt_append (pe_var (pos := p) hN hv hdb hcd) (a_cons he a_nil (star_cons hs)) rfl (back_few hs1 (by simp)) hl (star_cons hs) rfl) rfl) fun D σ H ⟨S, sr, fr, h⟩ => ?_
  rw [exS] at h
  cases e1 : ((envOf S)[i]?).bind id with
  | none => rw [e1] at h; exact h.elim
  | some q =>
  rw [e1] at h
  obtain ⟨d0, n0⟩ := q
  cases d0 <;> first | exact h.elim | skip
  rename_i xs
  simp only at h
  obtain ⟨r0, hr0, er⟩ := slot_get e1
  obtain ⟨q1, q2⟩ := sr.rep i r0 hr0
  obtain ⟨rd, rn, rv, rO, rZ⟩ := r0
  have er1 : rd = .lst xs := congrArg Prod.fst er
  have er2 : rn = n0 := congrArg Prod.snd er
  subst er1; subst er2
  have q2 : Rep X.K CA H rn (.lst xs) rv rO rZ := q2
  have q1 : σ[i]? = some (some rv) := q1
  obtain ⟨a0, vs0, O0, Z0, m0, ev0, hH0, rr0, _, _⟩ := q2.lst_inv
  refine ⟨rv, q1, by rw [ev0]; exact .inl ⟨rfl, vs0, .of hH0⟩, S, sr, ?_⟩
  have key : DenL X.K CA W (Nod S (namesL [c])) (evs G cf (envOf S) [c]) σ H fun vs H2 => ∃ p v O Z, ev G cf (envOf S) c = .ok p ∧ vs = [v] ∧ PVal X.K CA (Nod S (names c)) H H2 p.1 p.2 v O Z ∧ DenS X.K CA W cf.io L S H (appD L (envOf S) i p (names c)) D := by
    simp only [evs]
    cases e2 : ev G cf (envOf S) c with
    | exc y => rw [e2] at h; exact fun cls dd H' s x => h S σ H' cls dd (sr.same s) fr (Step.same s) rfl x
    | bad => rw [e2] at h; exact h.elim
    | ok p =>
      rw [e2] at h
      intro vs H2 O Z s pv
      obtain ⟨v, rfl, p1⟩ := pv.one_inv
      exact ⟨p, v, O, Z, rfl, rfl, p1.mono fun a ha => by simpa [namesL] using ha, h⟩
  have mono : ∀ {Q Q' : List V → Hp → Prop}, (∀ vs H2, Q vs H2 → Q' vs H2) → DenL X.K CA W (Nod S (namesL [c])) (evs G cf (envOf S) [c]) σ H Q → DenL X.K CA W (Nod S (namesL [c])) (evs G cf (envOf S) [c]) σ H Q' := fun {Q Q'} w h => by
    cases e2 : evs G cf (envOf S) [c] with
    | exc y => rw [e2] at h; exact h
    | bad => rw [e2] at h; exact h
    | ok ps => rw [e2] at h; exact fun vs H2 O Z s pv => w vs H2 (h vs H2 O Z s pv)
  refine mono (fun vs H2 ⟨p, v, O, Z, e2, ev1, pv, hd⟩ => ?_) key
  subst ev1
  unfold appD at hd
  by_cases hiL : i ∈ L
  · rw [if_pos hiL] at hd; exact hd.elim
  rw [if_neg hiL, e1] at hd
  simp only at hd
  by_cases hc : 1 ≤ rn ∧ xs.length + 1 ≤ SZ
  rotate_left
  · rw [if_neg hc] at hd; exact hd.elim
  rw [if_pos hc] at hd
  obtain ⟨m, a, vs, O', em, ea, hH, rr, eO⟩ := q2.lst_own hc.1
  subst em; subst ea; subst eO
  have own0 : ∀ y ∈ a :: O', OwnAt S i y := fun y hy => ⟨_, hr0, hy⟩
  have nd0 := List.nodup_cons.mp (fr.nd i _ hr0)
  have zo0 : ∀ y ∈ rZ, y ∉ a :: O' := fun y hy w => fr.zo i y (own0 y w) i _ hr0 hy
  have sz : vs.length < sizeLine := by rw [SZ_eq, ← rr.length]; omega
  have hH2 : H2 a = some (.lst vs) := pv.same _ _ hH
  have thO : ∀ y ∈ O', H y ≠ none := fun y hy => sr.own ⟨i, own0 y (by simp [hy])⟩
  have tha : H a ≠ none := by rw [hH]; simp
  refine ⟨a, vs, v, rfl, rfl, hH2, sz, ?_⟩
  have fin : ∀ (S1 : Slots) (k : Nat) (Op Zp : List Addr), SRep X.K CA S1 σ H → Fr S1 → Step cf.io L S H S1 H → S1[i]? = some (some ⟨.lst xs, m + 1, .ref a, a :: O', rZ⟩) → k ≤ m → Rep X.K CA H2 k p.1 v Op Zp → (∀ y ∈ Op, H y = none) → Op.Nodup → (∀ y ∈ Zp, y ∉ Op) → (∀ y ∈ Zp, H y = none ∨ (¬ Own S1 y ∧ Any S y)) →
      DenS X.K CA W cf.io L S H (.nx (setV (envOf S1) i (.lst (xs ++ [p.1]), k + 1))) D → D.nx σ (upd H2 a (.lst (vs ++ [v]))) := by
    intro S1 k Op Zp sr1 f1 st1 hr1 hk rp hOp ndp zop hZp hd
    obtain ⟨O2, Z2, r2, lw⟩ := rr.low hk
    have own1 : ∀ y ∈ a :: O', OwnAt S1 i y := fun y hy => ⟨_, hr1, hy⟩
    have zpn : ∀ y ∈ Zp, y ∉ a :: O' := fun y hy w => by
      rcases hZp y hy with z | ⟨z, _⟩
      · exact sr.own ⟨i, own0 y w⟩ z
      · exact z ⟨i, own1 y w⟩
    have z2 : ∀ y ∈ Z2, y ≠ a ∧ H y ≠ none := fun y hy => by
      rcases lw.all y hy with z | z
      · exact ⟨fun e => nd0.1 (e ▸ z), thO y z⟩
      · exact ⟨fun e => zo0 y z (by simp [e]), sr.any ⟨i, _, hr0, by simp [z]⟩⟩
    have same3 : ∀ y o, H2 y = some o → y ≠ a → upd H2 a (.lst (vs ++ [v])) y = some o := fun y o e hn => by rw [upd_ne hn]; exact e
    have k2 : Keep [a] H2 (upd H2 a (.lst (vs ++ [v]))) := fun y o e hn => same3 y o e (by simpa using hn)
    have fx2 : Fix [a] H2 := fun y hy => by simp at hy; subst hy; rw [hH2]; trivial
    have rep : Rep X.K CA (upd H2 a (.lst (vs ++ [v]))) (k + 1) (.lst (xs ++ [p.1])) (.ref a) (a :: (O2 ++ Op)) (Z2 ++ Zp) := by
      refine .lstO upd_same ?_
      have r2' : Reps X.K CA (upd H2 a (.lst (vs ++ [v]))) k xs vs O2 Z2 := (r2.same pv.same).keep k2 fx2 fun y hy z => by
        simp at z
        rcases List.mem_append.mp hy with q | q
        · exact nd0.1 (z ▸ lw.own y q)
        · exact (z2 y q).1 z
      have rp' : Rep X.K CA (upd H2 a (.lst (vs ++ [v]))) k p.1 v Op Zp := rp.keep k2 fx2 fun y hy z => by
        simp at z
        rcases List.mem_append.mp hy with q | q
        · exact tha (z ▸ hOp y q)
        · exact zpn y q (by simp [z])
      have := r2'.append (.cons rp' .nil)
      simpa using this
    have M1 : (a :: (O2 ++ Op)).Nodup ∧ (∀ y ∈ Z2 ++ Zp, y ∉ a :: (O2 ++ Op)) ∧ (∀ y ∈ a :: (O2 ++ Op), y ∈ a :: O' ∨ H y = none) ∧ ∀ y ∈ Z2 ++ Zp, y ∈ a :: O' ∨ y ∈ rZ ∨ H y = none ∨ (¬ Own S1 y ∧ Any S y) := by
      refine ⟨?_, ?_, ?_, ?_⟩
      · refine List.nodup_cons.mpr ⟨fun z => ?_, List.nodup_append.mpr ⟨lw.nd nd0.2, ndp, fun y hy w hw e => ?_⟩⟩
        · rcases List.mem_append.mp z with z | z
          · exact nd0.1 (lw.own a z)
          · exact tha (hOp a z)
        · subst e; exact thO y (lw.own y hy) (hOp y hw)
      · intro y hy z
        rcases List.mem_append.mp hy with q | q
        · rcases List.mem_cons.mp z with z | z
          · exact (z2 y q).1 z
          · rcases List.mem_append.mp z with z | z
            · exact lw.zo nd0.2 (fun y hy w => zo0 y hy (by simp [w])) y q z
            · exact (z2 y q).2 (hOp y z)
        · rcases List.mem_cons.mp z with z | z
          · exact zpn y q (by simp [z])
          · rcases List.mem_append.mp z with z | z
            · exact zpn y q (by simp [lw.own y z])
            · exact zop y q z
      · intro y hy
        rcases List.mem_cons.mp hy with q | q
        · exact .inl (by simp [q])
        · rcases List.mem_append.mp q with q | q
          · exact .inl (by simp [lw.own y q])
          · exact .inr (hOp y q)
      · intro y hy
        rcases List.mem_append.mp hy with q | q
        · rcases lw.all y q with q | q
          · exact .inl (by simp [q])
          · exact .inr (.inl q)
        · exact (hZp y q).elim (fun z => .inr (.inr (.inl z))) fun z => .inr (.inr (.inr z))
    obtain ⟨S', sr', f', st', he⟩ := mut_ok (L := L) (S0 := S) (S1 := S1) (F := [a]) (H3 := upd H2 a (.lst (vs ++ [v]))) sr1 f1 st1 hr1 hiL (by simp) (fun y o e hn => same3 y o (pv.same y o e) (by simpa using hn)) (fun y hy => by simp at hy; subst hy; rw [hH]; trivial)
      (fun y hy => by
        by_cases e : y = a
        · subst e; rw [upd_same]; simp
        · rw [upd_ne e]; exact same_there pv.same hy) rep M1.1 M1.2.1 M1.2.2.1 M1.2.2.2
    exact hd S' σ _ sr' f' st' he
  by_cases h0 : p.1.mdep = 0
  · rw [if_pos h0] at hd
    obtain ⟨_, _, rp⟩ := pv.rep.imm (m := m) h0
    exact fin S m [] [] sr fr Step.refl hr0 (Nat.le_refl _) rp (by simp) (by simp) (by simp) (by simp) hd
  rw [if_neg h0] at hd
  obtain ⟨Op, Zp, rp, lp⟩ := pv.rep.low (Nat.min_le_right m p.2)
  have ek : min (m + 1) (p.2 + 1) = min m p.2 + 1 := by omega
  rw [ek] at hd
  have hop : ∀ y ∈ Op, H y = none := fun y hy => pv.fresh y (lp.own y hy)
  by_cases hf : full p = true
  · rw [if_pos hf] at hd
    have hz : Z = [] := pv.rep.full (by simpa [full] using hf)
    refine fin S _ Op Zp sr fr Step.refl hr0 (Nat.min_le_left _ _) rp hop (lp.nd pv.nd) (lp.zo pv.nd pv.zo) (fun y hy => .inl ?_) hd
    rcases lp.all y hy with z | z
    · exact pv.fresh y z
    · rw [hz] at z; simp at z
  · rw [if_neg hf] at hd
    by_cases hin : i ∈ names c
    · rw [if_pos hin] at hd; exact hd.elim
    rw [if_neg hin] at hd
    obtain ⟨S1, sr1, f1, z⟩ := frz_ok (names c) sr fr
    rw [← z.env] at hd
    refine fin S1 _ Op Zp sr1 f1 z.step (by rw [z.oth i hin]; exact hr0) (Nat.min_le_left _ _) rp hop (lp.nd pv.nd) (lp.zo pv.nd pv.zo) (fun y hy => ?_) hd
    rcases lp.all y hy with q | q
    · exact .inl (pv.fresh y q)
    · rcases pv.zin y q with q | q
      · exact .inl q
      · exact .inr ⟨z.free fr q, q.any⟩
end
end Vy

namespace Vy
open PySem PySem.Spec
open PyProof.Rows hiding St
open L2
/-! ## defs -/
structure Def where
  np : Nat
  nl : Nat
  b : List S
  io : List Nat
def initI (nl : Nat) (ps : List (D × Nat)) : Env := ps.map (fun p => some (norm p)) ++ List.replicate (nl - ps.length) none
def initE (nl : Nat) (ds : List D) : Env := ds.map (fun d => some (norm (d, 0))) ++ List.replicate (nl - ds.length) none
def outS : OS → Out (D × Nat)
  | .nx _ => .ok (.non, 9)
  | .rt p _ => .ok p
  | .exc e _ => .exc e
  | .bad => .bad
def iosOf : List Nat → Env → Option (List (D × Nat))
  | [], _ => some []
  | i :: r, ρ => ((ρ[i]?).bind id).bind fun p => (iosOf r ρ).map fun l => p :: l
def outI (io : List Nat) : OS → OutI
  | .nx ρ => match iosOf io ρ with
    | some l => .ok (.non, 9) l
    | none => .bad
  | .rt p ρ => if io = [] ∨ full p = true then (match iosOf io ρ with
    | some l => .ok p l
    | none => .bad) else .bad
  | .exc e ρ => match iosOf io ρ with
    | some l => .exc e l
    | none => .bad
  | .bad => .bad
def plainO : OutI → Out (D × Nat)
  | .ok p [] => .ok p
  | .exc e [] => .exc e
  | _ => .bad
def runI (G : Glo) (P : Nat → Option Def) : Nat → Nat → List (D × Nat) → OutI
  | 0, _, _ => .bad
  | k + 1, f, ps => match P f with
    | none => .bad
    | some d => if ps.length = d.np then outI d.io (exB G ⟨fun g ds => plainO (runI G P k g (ds.map fun x => (x, 0))), runI G P k, d.io⟩ [] (initI d.nl ps) d.b) else .bad
def run (G : Glo) (P : Nat → Option Def) (k : Nat) : Runs := ⟨fun g ds => plainO (runI G P k g (ds.map fun x => (x, 0))), runI G P k, []⟩
def Runs.wio (R : Runs) (io : List Nat) : Runs := ⟨R.pl, R.ci, io⟩
theorem runI_eq (G : Glo) (P : Nat → Option Def) (k f : Nat) (ps : List (D × Nat)) (d : Def) (h : P f = some d) (hl : ps.length = d.np) : runI G P (k + 1) f ps = outI d.io (exB G ((run G P k).wio d.io) [] (initI d.nl ps) d.b) := by
  rw [runI, h]; simp only; rw [if_pos hl]; rfl
theorem run_eq (G : Glo) (P : Nat → Option Def) (k f : Nat) (ds : List D) (d : Def) (h : P f = some d) (hio : d.io = []) (hl : ds.length = d.np) : run G P (k + 1) f ds = outS (exB G (run G P k) [] (initE d.nl ds) d.b) := by
  show plainO (runI G P (k + 1) f (ds.map fun x => (x, 0))) = _
  rw [runI_eq G P k f _ d h (by simpa using hl), hio]
  have e : initI d.nl (ds.map fun x => (x, 0)) = initE d.nl ds := by unfold initI initE; simp [List.map_map, Function.comp_def]
  rw [e]
  show plainO (outI [] (exB G (run G P k) [] (initE d.nl ds) d.b)) = _
  cases exB G (run G P k) [] (initE d.nl ds) d.b <;> simp [outI, iosOf, plainO, outS]
section
variable {K : PySem.W.Frag} {CA : Nat → Addr} {H H' : Hp}
/-- what a def promises of what it is handed, some to be changed -/
def PostI (K : PySem.W.Frag) (CA : Nat → Addr) (io : List Nat) (A : Slots) (vs : List V) (H : Hp) (o : OutI) (Q : VK) (E : XK) : Prop := match o with
  | .ok p ios => ∀ A' v H' O Z, SRep K CA A' (vs.map some) H' → Fr A' → Step io [] A H A' H' → (∀ (i : Nat) (r : Root), A'[i]? = some (some r) → i ∈ io) → iosOf io (envOf A') = some ios →
      Rep K CA H' p.2 p.1 v O Z → (∀ a ∈ O, ¬ Any A' a) → (∀ a ∈ O, Own A a ∨ H a = none) → O.Nodup → (∀ a ∈ Z, Any A a ∨ H a = none) → (∀ a ∈ Z, a ∉ O) → (io ≠ [] → full p = true) → Q v H'
  | .exc e ios => ∀ A' H' cls dd, SRep K CA A' (vs.map some) H' → Fr A' → Step io [] A H A' H' → (∀ (i : Nat) (r : Root), A'[i]? = some (some r) → i ∈ io) → iosOf io (envOf A') = some ios → ExRep K CA e cls dd H' → E cls dd H'
  | .bad => False
def spI (K : PySem.W.Frag) (CA : Nat → Addr) (ci : Nat → List (D × Nat) → OutI) (np : Nat) (io : List Nat) (f : Nat) : Sp := fun vs H Q E =>
  vs.length = np ∧ ∃ rs : List Root, SRep K CA (rs.map some) (vs.map some) H ∧ Fr (rs.map some) ∧ PostI K CA io (rs.map some) vs H (ci f (rs.map fun r => (r.d, r.n))) Q E
theorem get_some {rs : List Root} {i : Nat} {r : Root} (h : (rs.map some)[i]? = some (some r)) : rs[i]? = some r := by
  rw [List.getElem?_map] at h
  cases e : rs[i]? with
  | none => rw [e] at h; cases h
  | some x => rw [e] at h; cases h; rfl
/-- slots of which some are taken -/
theorem Fr.sub {S S' : Slots} (f : Fr S) (h : ∀ (i : Nat) (r : Root), S'[i]? = some (some r) → S[i]? = some (some r)) : Fr S' := by
  have ow : ∀ {i a}, OwnAt S' i a → OwnAt S i a := fun ⟨r, e, q⟩ => ⟨r, h _ r e, q⟩
  exact ⟨fun i r e => f.nd i r (h i r e), fun i j a q w => f.sep i j a (ow q) (ow w), fun i a q j r e => f.zo i a (ow q) j r (h j r e)⟩
theorem Any.sub {S S' : Slots} (h : ∀ (i : Nat) (r : Root), S'[i]? = some (some r) → S[i]? = some (some r)) {a : Addr} (q : Any S' a) : Any S a := let ⟨i, r, e, w⟩ := q; ⟨i, r, h i r e, w⟩
/-- the slots handed in, at the end -/
def maskS (io : List Nat) (n : Nat) (S : Slots) : Slots := (List.range n).map fun i => if i ∈ io then (S[i]?).bind id else none
theorem maskS_get {io : List Nat} {n : Nat} {S : Slots} {i : Nat} {r : Root} (h : (maskS io n S)[i]? = some (some r)) : i < n ∧ i ∈ io ∧ S[i]? = some (some r) := by
  unfold maskS at h
  rw [List.getElem?_map] at h
  by_cases hi : i < n
  · rw [List.getElem?_range hi] at h
    simp only [Option.map_some, Option.some.injEq] at h
    split at h
    · rename_i hio
      refine ⟨hi, hio, ?_⟩
      cases e : S[i]? with
      | none => rw [e] at h; cases h
      | some o => rw [e] at h; cases o with
        | none => cases h
        | some x => cases h; rfl
    · cases h
  · rw [List.getElem?_eq_none (by simpa using hi)] at h
    cases h
theorem maskS_ios {n : Nat} {S : Slots} {io0 : List Nat} : ∀ {io : List Nat}, (∀ i ∈ io, i < n ∧ i ∈ io0) → iosOf io (envOf (maskS io0 n S)) = iosOf io (envOf S)
  | [], _ => rfl
  | i :: r, h => by
    have ih := maskS_ios (S := S) (io0 := io0) (n := n) (io := r) fun j hj => h j (by simp [hj])
    obtain ⟨h1, h2⟩ := h i (by simp)
    rw [iosOf, iosOf, ih]
    congr 1
    rw [envOf_get, envOf_get]
    congr 1
    unfold maskS
    rw [List.getElem?_map, List.getElem?_range h1]
    simp [h2]
theorem norm_norm (p : D × Nat) : norm (norm p) = norm p := by
  by_cases h : p.1.mdep = 0 <;> simp [norm, h]
/-- a def's slots at its entry -/
theorem start_ok {N : List Str} {rs : List Root} {vs : List V} (sr : SRep K CA (rs.map some) (vs.map some) H) (fr : Fr (rs.map some)) :
    ∃ S, SRep K CA S (L2.start N vs) H ∧ Fr S ∧ envOf S = initI N.length (rs.map fun r => (r.d, r.n)) ∧ (∀ (i : Nat) (r : Root), S[i]? = some (some r) → ∃ r0 : Root, rs[i]? = some r0 ∧ r0.v = r.v ∧ r0.O = r.O ∧ r0.Z = r.Z) ∧ (∀ (i : Nat) (r0 : Root), rs[i]? = some r0 → ∃ r : Root, S[i]? = some (some r) ∧ r0.v = r.v ∧ r0.O = r.O ∧ r0.Z = r.Z) := by
  let nr : Root → Root := fun r => ⟨r.d, (norm (r.d, r.n)).2, r.v, r.O, r.Z⟩
  have hl : rs.length = vs.length := by have := sr.len; simpa using this
  have get : ∀ (i : Nat) (q : Root), ((rs.map fun r => some (nr r)) ++ List.replicate (N.length - rs.length) none)[i]? = some (some q) → ∃ r, rs[i]? = some r ∧ q = nr r := fun i q h => by
    by_cases hi : i < rs.length
    · rw [List.getElem?_append_left (by simpa using hi), List.getElem?_map] at h
      cases e : rs[i]? with
      | none => rw [e] at h; cases h
      | some x => rw [e] at h; cases h; exact ⟨x, rfl, rfl⟩
    · rw [List.getElem?_append_right (by simpa using hi), List.getElem?_replicate] at h
      split at h <;> cases h
  have back : ∀ (i : Nat) (r : Root), rs[i]? = some r → ((rs.map fun r => some (nr r)) ++ List.replicate (N.length - rs.length) none)[i]? = some (some (nr r)) := fun i r h => by
    have hi : i < rs.length := (List.getElem?_eq_some_iff.mp h).1
    rw [List.getElem?_append_left (by simpa using hi), List.getElem?_map, h]; rfl
  have up : ∀ {i : Nat} {r : Root}, rs[i]? = some r → (rs.map some)[i]? = some (some r) := fun {i r} h => by rw [List.getElem?_map, h]; rfl
  have ow : ∀ {i a}, OwnAt ((rs.map fun r => some (nr r)) ++ List.replicate (N.length - rs.length) none) i a → OwnAt (rs.map some) i a := fun {i a} ⟨q, e, w⟩ => by
    obtain ⟨r, h1, rfl⟩ := get i q e
    exact ⟨r, up h1, w⟩
  refine ⟨(rs.map fun r => some (nr r)) ++ List.replicate (N.length - rs.length) none, ⟨?_, fun i q e => ?_⟩, ⟨fun i q e => ?_, fun i j a h w => fr.sep i j a (ow h) (ow w), fun i a h j q e => ?_⟩, ?_, fun i q e => ?_, fun i r e => ⟨nr r, back i r e, rfl, rfl, rfl⟩⟩
  · unfold L2.start
    simp [hl]
  · obtain ⟨r, h1, rfl⟩ := get i q e
    obtain ⟨h2, h3⟩ := sr.rep i r (up h1)
    refine ⟨?_, norm_rep h3⟩
    unfold L2.start
    rw [List.getElem?_append_left (by simp; rw [← hl]; exact (List.getElem?_eq_some_iff.mp h1).1)]
    exact h2
  · obtain ⟨r, h1, rfl⟩ := get i q e
    exact fr.nd i r (up h1)
  · obtain ⟨r, h1, rfl⟩ := get j q e
    exact fr.zo i a (ow h) j r (up h1)
  · unfold envOf initI
    rw [List.map_append, List.map_replicate, List.map_map, List.map_map, List.length_map]
    congr 1
    apply List.map_congr_left
    intro r _
    show some (r.d, (norm (r.d, r.n)).2) = some (norm (r.d, r.n))
    rw [show norm (r.d, r.n) = ((norm (r.d, r.n)).1, (norm (r.d, r.n)).2) from rfl, norm_fst]
  · obtain ⟨r, h1, rfl⟩ := get i q e
    exact ⟨r, h1, rfl, rfl, rfl⟩
theorem roots_of : ∀ {ds : List D} {vs : List V} {Z : List Addr}, Reps K CA H 0 ds vs [] Z → ∃ rs : List Root, rs.map (fun r => (r.d, r.n)) = ds.map (fun d => (d, 0)) ∧ rs.map (·.v) = vs ∧ ∀ r ∈ rs, Rep K CA H r.n r.d r.v r.O r.Z ∧ r.O = [] ∧ ∀ a ∈ r.Z, a ∈ Z
  | [], vs, Z, r => by
    cases r
    exact ⟨[], rfl, rfl, by simp⟩
  | d :: ds, vs, Z, r => by
    obtain ⟨v, vs', Z1, Z2, rfl, r1, r2, rfl⟩ : ∃ v vs' Z1 Z2, vs = v :: vs' ∧ Rep K CA H 0 d v [] Z1 ∧ Reps K CA H 0 ds vs' [] Z2 ∧ Z = Z1 ++ Z2 := by
      generalize hO : ([] : List Addr) = O at r
      generalize hX : d :: ds = dd at r
      cases r with
      | nil => cases hX
      | cons r1 r2 =>
        cases hX
        obtain ⟨e1, e2⟩ := List.append_eq_nil_iff.mp hO.symm
        subst e1; subst e2
        exact ⟨_, _, _, _, rfl, r1, r2, rfl⟩
    obtain ⟨rs, h1, h2, h3⟩ := roots_of r2
    refine ⟨⟨d, 0, v, [], Z1⟩ :: rs, by rw [List.map_cons, List.map_cons, h1], by rw [List.map_cons, h2], fun r hr => ?_⟩
    rcases List.mem_cons.mp hr with rfl | hr
    · exact ⟨r1, rfl, fun a h => by simp [h]⟩
    · obtain ⟨a, b, c⟩ := h3 r hr
      exact ⟨a, b, fun x h => by simp [c x h]⟩
/-- a def that changes nothing of what it is handed -/
theorem spI_of_spF {P : Nat → Option Def} {G : Glo} {k n f : Nat} {vs : List V} {Q : VK} {E : XK} (h : spF K CA (run G P k) n f vs H Q E) : spI K CA (runI G P k) n [] f vs H Q E := by
  obtain ⟨hl, ds, Z, r, h⟩ := h
  obtain ⟨rs, h1, h2, h3⟩ := roots_of r
  have noown : ∀ i a, ¬ OwnAt (rs.map some) i a := fun i a ⟨q, e, w⟩ => by
    rw [(h3 q (List.mem_of_getElem? (get_some e))).2.1] at w
    simp at w
  have anyZ : ∀ a, Any (rs.map some) a → a ∈ Z := fun a ⟨i, q, e, w⟩ => by
    obtain ⟨_, e1, e2⟩ := h3 q (List.mem_of_getElem? (get_some e))
    rw [e1] at w
    exact e2 a (by simpa using w)
  refine ⟨hl, rs, ⟨by simp [← h2], fun i q e => ?_⟩, ⟨fun i q e => ?_, fun i j a h => absurd h (noown i a), fun i a h => absurd h (noown i a)⟩, ?_⟩
  · have g := get_some e
    refine ⟨?_, (h3 q (List.mem_of_getElem? g)).1⟩
    rw [← h2, List.map_map, List.getElem?_map, g]; rfl
  · rw [(h3 q (List.mem_of_getElem? (get_some e))).2.1]; simp
  · rw [h1]
    have h : Den K CA (fun cls dd _ H' => E cls dd H') (fun a => a ∈ Z) (plainO (runI G P k f (ds.map fun d => (d, 0)))) [] H Q := h
    have sm : ∀ {A' H'}, Step [] [] (rs.map some) H A' H' → Same H H' := fun {A' H'} s a o e => s.keep a o e fun ⟨i, _, q⟩ => noown i a q
    cases e2 : runI G P k f (ds.map fun d => (d, 0)) with
    | ok p ios =>
      rw [e2] at h
      intro A' v H' O Z' sr' fr' st' hm hi rp ho1 ho2 hnd hz hzo _
      cases hi
      exact h v H' O Z' ⟨sm st', rp, fun a q => (ho2 a q).elim (fun ⟨i, q⟩ => absurd q (noown i a)) id, hnd, fun a q => (hz a q).elim (fun q => .inr (anyZ a q)) .inl, hzo⟩
    | exc x ios =>
      rw [e2] at h
      intro A' H' cls dd sr' fr' st' hm hi ex
      cases hi
      exact h cls dd H' (sm st') ex
    | bad => rw [e2] at h; exact h.elim
end
/-- what the proof of a def's body asks of its context -/
structure Body (sc : Scope) (X : Cx) (nm : Nm) (G : Glo) (CA : Nat → Addr) (cf : Runs) (np : Nat → Option Nat) (bl : List Str) (W : WX) : Prop where
  cx : CtxOk X nm G CA cf np bl
  sc : ScOk sc X
  tk : Takes X W
  pas : PassesOwn (model X.prog X.w) X.A X.env X.xe
  kd : X.env.scope.kind = .function
/-- names told apart from a def's own -/
structure Tb where
  fn : Nat → Str
  gn : Nat → Str
  cn : Nat → Str
  mt : Nat → Option (Nat × Str)
def Tb.nm (T : Tb) (N : List Str) : Nm := ⟨N, T.fn, T.gn, T.cn, T.mt⟩
section
variable {P : Program} {w : World} {K : PySem.W.Frag} {mg : Str → Option Value} {base : Heap} {T : Tb} {G : Glo} {CA : Nat → Addr} {Pr : Nat → Option Def} {np : Nat → Option Nat} {bl : List Str}
/-- how a def stands in the text, and what it promises at a level -/
def DefAt (P : Program) (w : World) (K : PySem.W.Frag) (mg : Str → Option Value) (base : Heap) (T : Tb) (CA : Nat → Addr) (ci : Nat → List (D × Nat) → OutI) (k f n : Nat) (io : List Nat) : Prop :=
  ∃ (a : Addr) (fd : FuncData) (ps : List Str), Reach K mg CA (T.fn f) a (T.mt f) ∧ PySem.W.keepIn K (.ref a) = true ∧ Binds K fd ps [] ∧ ps.length = n ∧ FnOk P w K mg base (L2.CX P w) k a fd ps (spI K CA ci n io f)
/-- all defs, at a level -/
def FnsI (P : Program) (w : World) (K : PySem.W.Frag) (mg : Str → Option Value) (base : Heap) (T : Tb) (G : Glo) (CA : Nat → Addr) (Pr : Nat → Option Def) (nio : Nat → Option (Nat × List Nat)) (k : Nat) : Prop :=
  ∀ f n io, nio f = some (n, io) → DefAt P w K mg base T CA (runI G Pr k) k f n io
/-- a def of the text, with its body proved: at each level it stands on all others at the one below -/
def DefOk (P : Program) (w : World) (K : PySem.W.Frag) (mg : Str → Option Value) (T : Tb) (G : Glo) (CA : Nat → Addr) (Pr : Nat → Option Def) (nio : Nat → Option (Nat × List Nat)) (f n : Nat) (io : List Nat) : Prop :=
  ∃ (a : Addr) (fd : FuncData) (ps : List Str), Reach K mg CA (T.fn f) a (T.mt f) ∧ PySem.W.keepIn K (.ref a) = true ∧ Binds K fd ps [] ∧ ps.length = n ∧
    ∀ (base : Heap) (k : Nat), FnsI P w K mg base T G CA Pr nio k → FnOk P w K mg base (L2.CX P w) (k + 1) a fd ps (spI K CA (runI G Pr (k + 1)) n io f)
/-- what a body's context gives of the other defs -/
structure CtxI (X : Cx) (nm : Nm) (CA : Nat → Addr) (cf : Runs) (nio : Nat → Option (Nat × List Nat)) : Prop where
  lev : ∃ k, Room k X.A ∧ ∀ f n io, nio f = some (n, io) → ∃ (a : Addr) (fd : FuncData) (ps : List Str), Reach X.K X.mg CA (nm.fn f) a (nm.mt f) ∧ PySem.W.keepIn X.K (.ref a) = true ∧ Binds X.K fd ps [] ∧ ps.length = n ∧ FnOk X.prog X.w X.K X.mg X.base (L2.CX X.prog X.w) k a fd ps (spI X.K CA cf.ci n io f)
theorem fns_ok {nio : Nat → Option (Nat × List Nat)} (hd : ∀ f n io, nio f = some (n, io) → DefOk P w K mg T G CA Pr nio f n io) : ∀ k, FnsI P w K mg base T G CA Pr nio k
  | 0 => fun f n io e => by
    obtain ⟨a, fd, ps, h1, h2, h3, h4, h5⟩ := hd f n io e
    have no : ∀ vs H Q E, ¬ spI K CA (runI G Pr 0) n io f vs H Q E := fun vs H Q E ⟨_, rs, _, _, h⟩ => h
    exact ⟨a, fd, ps, h1, h2, h3, h4, fun vs H Q E h => absurd h (no _ _ _ _), fun A outer s H args us vs Q E _ _ _ _ h => absurd h (no _ _ _ _)⟩
  | k + 1 => fun f n io e => by
    obtain ⟨a, fd, ps, h1, h2, h3, h4, h5⟩ := hd f n io e
    exact ⟨a, fd, ps, h1, h2, h3, h4, h5 base k (fns_ok hd k)⟩
/-- how a def's body is asked -/
theorem def_core (PB : Cx → List Stmt → TS → Prop) {nio : Nat → Option (Nat × List Nat)} {f n : Nat} {io : List Nat} {a : Addr} {ps N : List Str} {qual : Str} {st : Stmt} {b : List S} (h4 : ps.length = n) (h5 : FnScope N ps (defScope st)) (h6 : Pr f = some ⟨n, N.length, b, io⟩) (hio : ∀ i ∈ io, i < n)
    (hnp : ∀ f n, np f = some n → nio f = some (n, []))
    (h7 : ∀ (X : Cx) (cf : Runs) (W : WX), Body (defScope st) X (T.nm N) G CA cf np bl W → CtxI X (T.nm N) CA cf nio → cf.io = io → PB X (defBody st) (tB X G CA cf W [] b)) (hb : ∀ x ∈ bl, mg x = none) (hg : ∀ g d, G.gv g = some d → ∃ u v, mg (T.gn g) = some u ∧ RelV v u ∧ ∀ H, Rep K CA H 9 d v [] []) :
    ∀ (base : Heap) (k : Nat), FnsI P w K mg base T G CA Pr nio k → ∀ (cdv : Value) (A : Around) (outer : List PySem.Env) (s : Shared) (H : Hp) (vs : List V) (Q : VK) (E : XK), Room k (A.deeper (envOfC qual (defScope st) s.heap.objs.size a cdv)) → spI K CA (runI G Pr (k + 1)) n io f vs H Q E →
      ∃ t, PB (cxOf (L2.CX P w) P w K mg base N qual (defScope st) a cdv A outer s H E) (defBody st) t ∧ t { nx := fun _ H' => Q .non H', rt := Q } (L2.start N vs) H := by
  intro base k ih cdv A outer s H vs Q E hr h
  obtain ⟨hl, rs, sr0, fr0, h⟩ := h
  have hrl : rs.length = n := by have := sr0.len; simp at this; rw [this, hl]
  refine ⟨tB (cxOf (L2.CX P w) P w K mg base N qual (defScope st) a cdv A outer s H E) G CA ((run G Pr k).wio io) (fun cls d _ H => E cls d H) [] b, h7 _ ((run G Pr k).wio io) _ ⟨⟨rfl, h5.nd, rfl, ⟨k, hr, fun f n e => ⟨?_⟩⟩, hb, hg⟩, ⟨fun x h => h, fun x h => ⟨h, rfl⟩, fun x h => .inl h, fun x h => h⟩, takes_of rfl rfl rfl rfl, passes_of rfl, h5.kind⟩ ⟨k, hr, fun f n io e => ih f n io e⟩ rfl, ?_⟩
  · obtain ⟨a, fd, ps, q1, q2, q3, q4, q5⟩ := ih f n [] (hnp f n e)
    exact ⟨a, fd, ps, q1, q2, q3, q4, q5.imp fun vs H Q E h => spI_of_spF h⟩
  · obtain ⟨S, sr, fr, he, fw, bk⟩ := start_ok (N := N) sr0 fr0
    refine ⟨S, sr, fr, ?_⟩
    rw [he]
    rw [runI_eq G Pr k f _ _ h6 (by simpa using hrl)] at h
    have ow : ∀ {i a}, OwnAt S i a → OwnAt (rs.map some) i a := fun {i a} ⟨q, e, w⟩ => by
      obtain ⟨r, h1, _, h2, _⟩ := fw i q e
      exact ⟨r, by rw [List.getElem?_map, h1]; rfl, h2 ▸ w⟩
    have wo : ∀ {i a}, OwnAt (rs.map some) i a → OwnAt S i a := fun {i a} ⟨q, e, w⟩ => by
      obtain ⟨r, h1, _, h2, _⟩ := bk i q (get_some e)
      exact ⟨r, h1, h2 ▸ w⟩
    have an : ∀ {a}, Any S a → Any (rs.map some) a := fun {a} ⟨i, q, e, w⟩ => by
      obtain ⟨r, h1, _, h2, h3⟩ := fw i q e
      exact ⟨i, r, by rw [List.getElem?_map, h1]; rfl, by rw [h2, h3]; exact w⟩
    have mask : ∀ {S' : Slots} {σ' : St} {H' : Hp}, SRep K CA S' σ' H' → Fr S' → Step io [] S H S' H' → SRep K CA (maskS io n S') (vs.map some) H' ∧ Fr (maskS io n S') ∧ Step io [] (rs.map some) H (maskS io n S') H' ∧ (∀ (i : Nat) (r : Root), (maskS io n S')[i]? = some (some r) → i ∈ io) ∧ iosOf io (envOf (maskS io n S')) = iosOf io (envOf S') := fun {S' σ' H'} sr' fr' st' => by
      have sub : ∀ (i : Nat) (r : Root), (maskS io n S')[i]? = some (some r) → S'[i]? = some (some r) := fun i r e => (maskS_get e).2.2
      refine ⟨⟨by simp [maskS, hl], fun i r e => ?_⟩, fr'.sub sub, ⟨fun a o e hn => st'.keep a o e fun ⟨i, hi, q⟩ => hn ⟨i, hi, ow q⟩, st'.there, fun i a ⟨r, e, q⟩ => ?_, fun a q => (st'.any a (q.sub sub)).imp an id, fun i hi r e => ?_⟩, fun i r e => (maskS_get e).2.1, maskS_ios fun i hi => ⟨hio i hi, hi⟩⟩
      · obtain ⟨e1, e2, e3⟩ := maskS_get e
        refine ⟨?_, (sr'.rep i r e3).2⟩
        obtain ⟨r1, q1, q2⟩ := st'.pin i e2 r e3
        obtain ⟨r2, q3, q4, _⟩ := fw i r1 q1
        have := (sr0.rep i r2 (by rw [List.getElem?_map, q3]; rfl)).1
        rw [this, q4, q2]
      · rcases st'.own i a ⟨r, sub i r e, q⟩ with z | ⟨j, hj, z⟩ | z
        · exact .inl (ow z)
        · exact .inr (.inl ⟨j, hj, ow z⟩)
        · exact .inr (.inr z)
      · obtain ⟨r1, q1, q2⟩ := st'.pin i hi r (sub i r e)
        obtain ⟨r2, q3, q4, _⟩ := fw i r1 q1
        exact ⟨r2, by rw [List.getElem?_map, q3]; rfl, q4.trans q2⟩
    show DenS K CA _ io [] S H (exB G ((run G Pr k).wio io) [] (initI N.length (rs.map fun r => (r.d, r.n))) b) _
    cases e2 : exB G ((run G Pr k).wio io) [] (initI N.length (rs.map fun r => (r.d, r.n))) b with
    | nx ρ =>
      simp only [e2, outI] at h
      intro S' σ' H' sr' fr' st' he'
      obtain ⟨m1, m2, m3, m4, m5⟩ := mask sr' fr' st'
      subst he'
      cases e3 : iosOf io (envOf S') with
      | none => rw [e3] at h; exact h.elim
      | some l => rw [e3] at h; exact h _ .non H' [] [] m1 m2 m3 m4 (m5.trans e3) .non (by simp) (by simp) (by simp) (by simp) (by simp) fun _ => by simp [full, D.mdep]
    | rt p ρ =>
      simp only [e2, outI] at h
      intro S' σ' v H' O Z sr' fr' st' he' rp o1 o2 nd z1 z2
      obtain ⟨m1, m2, m3, m4, m5⟩ := mask sr' fr' st'
      subst he'
      by_cases hc : io = [] ∨ full p = true
      · rw [if_pos hc] at h
        cases e3 : iosOf io (envOf S') with
        | none => rw [e3] at h; exact h.elim
        | some l =>
          rw [e3] at h
          exact h _ v H' O Z m1 m2 m3 m4 (m5.trans e3) rp (fun a ha q => o1 a ha (q.sub fun i r e => (maskS_get e).2.2)) (fun a ha => (o2 a ha).imp (fun ⟨i, q⟩ => ⟨i, ow q⟩) id) nd (fun a ha => (z1 a ha).imp an id) z2 fun hne => hc.resolve_left hne
      · rw [if_neg hc] at h; exact h.elim
    | exc x ρ =>
      simp only [e2, outI] at h
      intro S' σ' H' cls dd sr' fr' st' he' ex
      obtain ⟨m1, m2, m3, m4, m5⟩ := mask sr' fr' st'
      subst he'
      cases e3 : iosOf io (envOf S') with
      | none => rw [e3] at h; exact h.elim
      | some l => rw [e3] at h; exact h _ H' cls dd m1 m2 m3 m4 (m5.trans e3) ex
    | bad => simp only [e2, outI] at h; exact h.elim
/-- a def whose body is told in the language -/
theorem def_fn {nio : Nat → Option (Nat × List Nat)} {f n : Nat} {io : List Nat} {a : Addr} {fd : FuncData} {ps N : List Str} {x qual : Str} {st : Stmt} {b : List S} (h1 : Reach K mg CA (T.fn f) a (T.mt f)) (h2 : Fun K x qual st a fd) (h3 : Binds K fd ps []) (h4 : ps.length = n) (h5 : FnScope N ps (defScope st)) (h6 : Pr f = some ⟨n, N.length, b, io⟩) (hio : ∀ i ∈ io, i < n)
    (hnp : ∀ f n, np f = some n → nio f = some (n, []))
    (h7 : ∀ (X : Cx) (cf : Runs) (W : WX), Body (defScope st) X (T.nm N) G CA cf np bl W → CtxI X (T.nm N) CA cf nio → cf.io = io → PSs X (defBody st) (tB X G CA cf W [] b)) (hb : ∀ x ∈ bl, mg x = none) (hg : ∀ g d, G.gv g = some d → ∃ u v, mg (T.gn g) = some u ∧ RelV v u ∧ ∀ H, Rep K CA H 9 d v [] []) :
    ∀ (base : Heap) (k : Nat), FnsI P w K mg base T G CA Pr nio k → FnOk P w K mg base (L2.CX P w) (k + 1) a fd ps (spI K CA (runI G Pr (k + 1)) n io f) := by
  intro base k ih
  exact Fun.okX h2 h5 (fun vs H Q E h => h.1.trans h4.symm) (def_core PSs h4 h5 h6 hio hnp h7 hb hg base k ih)
theorem def_ok {nio : Nat → Option (Nat × List Nat)} {f n : Nat} {io : List Nat} {a : Addr} {fd : FuncData} {ps N : List Str} {x qual : Str} {st : Stmt} {b : List S} (h1 : Reach K mg CA (T.fn f) a (T.mt f)) (h2 : Fun K x qual st a fd) (h3 : Binds K fd ps []) (h4 : ps.length = n) (h5 : FnScope N ps (defScope st)) (h6 : Pr f = some ⟨n, N.length, b, io⟩) (hio : ∀ i ∈ io, i < n)
    (hnp : ∀ f n, np f = some n → nio f = some (n, []))
    (h7 : ∀ (X : Cx) (cf : Runs) (W : WX), Body (defScope st) X (T.nm N) G CA cf np bl W → CtxI X (T.nm N) CA cf nio → cf.io = io → PSs X (defBody st) (tB X G CA cf W [] b)) (hb : ∀ x ∈ bl, mg x = none) (hg : ∀ g d, G.gv g = some d → ∃ u v, mg (T.gn g) = some u ∧ RelV v u ∧ ∀ H, Rep K CA H 9 d v [] []) :
    DefOk P w K mg T G CA Pr nio f n io := ⟨a, fd, ps, h1, h2.kp, h3, h4, def_fn h1 h2 h3 h4 h5 h6 hio hnp h7 hb hg⟩
end
end Vy

namespace Vy
open PySem PySem.Spec
open PyProof.Rows hiding St
open L2
/-! ## displays of dicts -/
section
variable {K : PySem.W.Frag} {CA : Nat → Addr}
theorem PVal.updM {M : Addr → Prop} {H1 H : Hp} {d : D} {n : Nat} {v : V} {O Z : List Addr} {Dd : Addr} {o : HO} (p : PVal K CA M H1 H d n v O Z) (hD : Mut (H Dd)) (h1 : H1 Dd = none) (hn : Dd ∉ O ++ Z) : PVal K CA M H1 (upd H Dd o) d n v O Z := by
  refine ⟨fun c u e => ?_, ?_, p.fresh, p.nd, p.zin, p.zo⟩
  · have hc : c ≠ Dd := fun z => by rw [z, h1] at e; cases e
    rw [upd_ne hc]; exact p.same c u e
  · refine p.rep.keep (F := [Dd]) (fun c u e hc => ?_) (fun c hc => ?_) (fun c hc => ?_)
    · rw [upd_ne (by simpa using hc)]; exact e
    · simp at hc; subst hc; exact hD
    · intro z; simp at z; subst z; exact hn (by simp at hc ⊢; rcases hc with z | z <;> simp [z])
theorem PVs.updM {M : Addr → Prop} {H1 H : Hp} {ps : List (D × Nat)} {vs : List V} {O Z : List Addr} {Dd : Addr} {o : HO} (p : PVs K CA M H1 H ps vs O Z) (hD : Mut (H Dd)) (h1 : H1 Dd = none) (hn : Dd ∉ O ++ Z) : PVs K CA M H1 (upd H Dd o) ps vs O Z := by
  induction p with
  | nil => exact .nil
  | @cons q v O1 Z1 ps vs O2 Z2 pv _ a b ih =>
    refine .cons (pv.updM hD h1 fun z => hn (by simp at z ⊢; rcases z with z | z <;> simp [z])) (ih fun z => hn (by simp at z ⊢; rcases z with z | z <;> simp [z])) a b
theorem PVal.wrap {M : Addr → Prop} {H H' : Hp} {p : D × Nat} {v : V} {O Z : List Addr} (pv : PVal K CA M H H' p.1 p.2 v O Z) : PVal K CA M H H' (wrapD p).1 (wrapD p).2 v O Z := by
  unfold wrapD
  split
  · rename_i h
    have r := pv.rep
    rw [h.1] at r
    have := r.zero
    subst this
    exact ⟨pv.same, .fz (show (9:Nat) < 1000000 by decide) h.2 r, pv.fresh, pv.nd, pv.zin, pv.zo⟩
  · exact pv
theorem PVs.wrap {M : Addr → Prop} {H H' : Hp} {ps : List (D × Nat)} {vs : List V} {O Z : List Addr} (p : PVs K CA M H H' ps vs O Z) : PVs K CA M H H' (ps.map wrapD) vs O Z := by
  induction p with
  | nil => exact .nil
  | cons q _ a b ih => exact .cons q.wrap ih a b
/-- by turns -/
def unpairV : List V → List (V × V)
  | k :: v :: r => (k, v) :: unpairV r
  | _ => []
theorem key_of {H : Hp} {n : Nat} {d : D} {v : V} {O Z : List Addr} {k : L2.Key} (r : Rep K CA H n d v O Z) (h : vKey d = some k) : v = kV k ∧ O = [] ∧ Z = [] ∧ ∀ s, d = .str s → Bd s := by
  cases d <;> first | (cases h; done) | skip
  · cases h; obtain ⟨e, h1, h2⟩ := r.int_inv; exact ⟨e, h1, h2, fun s z => by cases z⟩
  · cases h; obtain ⟨e, h1, h2, h3⟩ := r.str_inv; exact ⟨e, h1, h2, fun s z => by cases z; exact h3⟩
theorem unpair_ok {M : Addr → Prop} {H H' : Hp} : ∀ (n : Nat) {ps : List (D × Nat)} {vs : List V} {O Z : List Addr} {r : List D × List (D × Nat)}, ps.length ≤ n → PVs K CA M H H' ps vs O Z → unpair ps = some r → (∀ k ∈ r.1, (vKey k).isSome = true) →
    ∃ kvs : List (L2.Key × V), unpairV vs = kvs.map (fun kv => (kV kv.1, kv.2)) ∧ r.1.map vKey = kvs.map (fun p => some p.1) ∧ PVs K CA M H H' r.2 (kvs.map (·.2)) O Z ∧ ∀ s, D.str s ∈ r.1 → Bd s
  | n, [], vs, O, Z, r, _, p, h, _ => by
    cases p; cases h
    exact ⟨[], rfl, rfl, .nil, by simp⟩
  | n, [x], vs, O, Z, r, _, p, h, _ => by cases h
  | 0, k :: v :: ps, vs, O, Z, r, hn, p, h, hk => by simp at hn
  | n + 1, k :: v :: ps, vs, O, Z, r, hn, p, h, hk => by
    rw [unpair] at h
    obtain ⟨q, hq, rfl⟩ := Option.map_eq_some_iff.mp h
    cases p with
    | @cons _ u O1 Z1 _ us O2 Z2 pk pr a b =>
      cases pr with
      | @cons _ w O3 Z3 _ ws O4 Z4 pv pr c d =>
        have hk0 := hk k.1 (by simp)
        obtain ⟨kk, hkk⟩ := Option.isSome_iff_exists.mp hk0
        obtain ⟨e1, e2, e3, e4⟩ := key_of pk.rep hkk
        subst e2; subst e3; subst e1
        obtain ⟨kvs, h1, h2, h3, h4⟩ := unpair_ok n (by simp at hn; omega) pr hq (fun k hk' => hk k (by simp [hk']))
        refine ⟨(kk, w) :: kvs, ?_, ?_, ?_, fun s hs => ?_⟩
        · rw [List.map_cons, ← h1]; rfl
        · rw [List.map_cons, List.map_cons, h2, hkk]
        · have := PVs.cons pv h3 c d
          simpa using this
        · rcases List.mem_cons.mp hs with z | z
          · exact e4 s z.symm
          · exact h4 s z
theorem mergeK_nodup : ∀ (kvs acc : List (L2.Key × V)), ((acc ++ kvs).map (·.1)).Nodup → mergeK acc kvs = acc ++ kvs
  | [], acc, _ => by simp [mergeK]
  | p :: r, acc, h => by
    have h1 : valV acc p.1 = none := by
      have : p.1 ∉ acc.map (·.1) := fun z => by
        rw [List.map_append, List.map_cons] at h
        exact (List.nodup_append.mp h).2.2 p.1 z p.1 (by simp) rfl
      unfold valV
      rw [Option.map_eq_none_iff, List.find?_eq_none]
      intro x hx e
      exact this (by have e : x.1 = p.1 := of_decide_eq_true e; rw [← e]; exact List.mem_map.mpr ⟨x, hx, rfl⟩)
    show mergeK (putK acc p.1 p.2) r = _
    rw [putK_new p.2 h1, mergeK_nodup r (acc ++ [(p.1, p.2)]) (by simpa using h)]
    simp
end
section
variable {X : Cx} {nm : Nm} {G : Glo} {CA : Nat → Addr} {cf : Runs} {W : WX}
/-- pairs of a display -/
inductive DP (X : Cx) (G : Glo) (CA : Nat → Addr) (cf : Runs) (W : WX) : List (Option Expr) → List Expr → List C → List (TE × TE) → Prop
  | nil : DP X G CA cf W [] [] [] []
  | cons {k v : Expr} {ck cv : C} {ks : List (Option Expr)} {vs : List Expr} {cs : List C} {trs : List (TE × TE)} : PE X k (tE X G CA cf W ck) → PE X v (tE X G CA cf W cv) → DP X G CA cf W ks vs cs trs → DP X G CA cf W (some k :: ks) (v :: vs) (ck :: cv :: cs) ((tE X G CA cf W ck, tE X G CA cf W cv) :: trs)
theorem DP.pps {pos : Pos} {ks : List (Option Expr)} {vs : List Expr} {cs : List C} {trs : List (TE × TE)} (h : DP X G CA cf W ks vs cs trs) : PPs X pos ks vs trs := by
  induction h with
  | nil => exact pps_nil
  | cons hk hv _ ih => exact pps_cons hk hv ih
/-- one ahead of the others -/
theorem dl_cons {c : C} {cs : List C} {σ : St} {H : Hp} {Q : List V → Hp → Prop} (h : tL X G CA cf W (c :: cs) σ H Q) : tE X G CA cf W c σ H fun v H1 => tL X G CA cf W cs σ H1 fun vs H2 => Q (v :: vs) H2 := by
  obtain ⟨S, sr, h⟩ := h
  rw [evs] at h
  refine ⟨S, sr, ?_⟩
  cases e1 : ev G cf (envOf S) c with
  | exc x => rw [e1] at h; exact h
  | bad => rw [e1] at h; exact h
  | ok p =>
    rw [e1] at h
    simp only [Out.bind_ok] at h
    intro v H1 O Z pv
    refine ⟨S, sr.same pv.same, ?_⟩
    cases e2 : evs G cf (envOf S) cs with
    | exc x => rw [e2] at h; exact fun cls dd H' s' r => h cls dd H' (pv.same.trans s') r
    | bad => rw [e2] at h; exact h
    | ok ps =>
      rw [e2] at h
      intro vs H2 O' Z' s2 pw
      refine h _ _ _ _ (pv.same.trans s2) (.cons ((pv.later s2).mono fun a => Nod.l) ((pw.ahead pv.same).mono fun a => Nod.r) (fun a ha hb => ?_) fun a ha hb => ?_)
      · exact pv.rep.there a hb (pw.fresh a ha)
      · rcases pw.zin a hb with z | z
        · exact pv.rep.there a (by simp [ha]) z
        · exact Nod.there sr z (pv.fresh a ha)
theorem tE.mono {c : C} {σ : St} {H : Hp} {Q Q' : VK} (w : ∀ v H, Q v H → Q' v H) (h : tE X G CA cf W c σ H Q) : tE X G CA cf W c σ H Q' := by
  obtain ⟨S, sr, h⟩ := h
  refine ⟨S, sr, ?_⟩
  cases e : ev G cf (envOf S) c with
  | ok p => rw [e] at h; exact fun v H1 O Z pv => w v H1 (h v H1 O Z pv)
  | exc x => rw [e] at h; exact h
  | bad => rw [e] at h; exact h
theorem DP.pairs {ks : List (Option Expr)} {vs : List Expr} {cs : List C} {trs : List (TE × TE)} (h : DP X G CA cf W ks vs cs trs) {σ : St} : ∀ {H : Hp} {Q : List (V × V) → Hp → Prop}, tL X G CA cf W cs σ H (fun us H2 => Q (unpairV us) H2) → tPairs trs σ H Q := by
  induction h with
  | nil => exact fun {H Q} ⟨S, sr, h⟩ => h [] H [] [] (Same.refl H) .nil
  | cons hk hv _ ih => exact fun {H Q} h => (dl_cons h).mono fun v H1 h1 => (dl_cons h1).mono fun w H2 h2 => ih h2
theorem e_disp {keys : List (Option Expr)} {values : List Expr} {cs : List C} {trs : List (TE × TE)} {pos : Pos} (h : DP X G CA cf W keys values cs trs) (hall : keys.all (·.isSome) = true) (hl : keys.length = values.length) (h0 : keys ≠ []) (h15 : keys.length ≤ 15) :
    PE X (.Dict keys values pos) (tE X G CA cf W (.dct [] cs)) := by
  refine PE.weak (pe_disp h.pps hall hl h0 h15) fun σ H Q ⟨S, sr, hd⟩ p hp => h.pairs ?_
  rw [ev] at hd
  have k : Same H (upd H p (.dK [])) := sameNew hp
  refine ⟨S, sr.same k, ?_⟩
  cases e : evs G cf (envOf S) cs with
  | exc x => rw [e] at hd; exact fun cls dd H' s r => hd cls dd H' (k.trans s) r
  | bad => rw [e] at hd; exact hd
  | ok ps =>
    rw [e] at hd
    intro vs H2 O Z s2 pv
    obtain ⟨z, hz, hd⟩ := Den.ofv (show Den _ _ _ _ (Out.of (dispD ps)) _ _ _ from hd)
    obtain ⟨r, hr, hz⟩ := Option.bind_eq_some_iff.mp (show (unpair ps).bind _ = some z from hz)
    obtain ⟨hk, hz⟩ := go_some hz
    cases hz
    simp only [keysOk, Bool.and_eq_true, decide_eq_true_eq] at hk
    obtain ⟨⟨k1, k2⟩, k3⟩ := hk
    have k1' : ∀ k ∈ r.1, (vKey k).isSome = true := fun k hk => List.all_eq_true.mp k1 (vKey k) (List.mem_map.mpr ⟨k, hk, rfl⟩)
    obtain ⟨kvs, e1, e2, e3, e4⟩ := unpair_ok ps.length (Nat.le_refl _) pv hr k1'
    have nd : (kvs.map (·.1)).Nodup := by
      have : (kvs.map (·.1)).map some = r.1.map vKey := by rw [e2, List.map_map]; rfl
      rw [← this] at k2
      exact (List.pairwise_map.mp k2).imp fun h e => h (by rw [e])
    have hp2 : H2 p = some (.dK []) := s2 _ _ upd_same
    have nO : p ∉ O ++ Z := fun z => by
      rcases List.mem_append.mp z with z | z
      · have := pv.fresh p z; rw [upd_same] at this; cases this
      · rcases pv.zin p z with z | z
        · rw [upd_same] at z; cases z
        · exact Nod.there sr z hp
    have len : kvs.length = r.1.length := by have := congrArg List.length e2; simpa using this.symm
    refine ⟨hp2, kvs, e1, by omega, ?_⟩
    have em : mergeK [] kvs = kvs := by have := mergeK_nodup kvs [] (by simpa using nd); simpa using this
    rw [em]
    have pv2 : PVs X.K CA (Nod S (namesL cs)) H (upd H2 p (.dK kvs)) (r.2.map wrapD) (kvs.map (·.2)) O Z := ((e3.ahead k).updM (by rw [hp2]; trivial) hp nO).wrap
    obtain ⟨O', Z', rr, lw⟩ := pv2.reps (lvL (r.2.map wrapD)) (Nat.le_refl _)
    have sm : Same H (upd H2 p (.dK kvs)) := fun c u hc => by
      have : c ≠ p := fun z => by rw [z, hp] at hc; cases hc
      rw [upd_ne this]
      exact s2 _ _ (k _ _ hc)
    refine hd (.ref p) _ (p :: O') Z' ⟨sm, .dctO upd_same ⟨e2, nd, e4⟩ rr, fun a ha => ?_, ?_, fun a ha => ?_, fun a ha z => ?_⟩
    · rcases List.mem_cons.mp ha with rfl | ha
      · exact hp
      · exact pv2.fresh a (lw.own a ha)
    · exact List.nodup_cons.mpr ⟨fun z => nO (by simp [lw.own _ z]), lw.nd pv2.nd⟩
    · rcases lw.all a ha with z | z
      · exact .inl (pv2.fresh a z)
      · exact (pv2.zin a z).imp id fun w => w.l
    · rcases List.mem_cons.mp z with rfl | z
      · rcases lw.all a ha with z | z <;> exact nO (by simp [z])
      · exact lw.zo pv2.nd pv2.zo a ha z
end
end Vy

namespace Vy
open PySem PySem.Spec
open PyProof.Rows hiding St
open L2
/-! ## the rules, as a text is written with them -/
structure En (sc : Scope) (X : Cx) (nm : Nm) (G : Glo) (CA : Nat → Addr) (cf : Runs) (np : Nat → Option Nat) (bl : List Str) (W : WX) : Prop where
  cx : CtxOk X nm G CA cf np bl
  so : ScOk sc X
  tk : Takes X W
def dbg (x : Str) : Bool := !(x == ("__debug__" : Str)) && !(x == ("__classdict__" : Str)) && !(x == ("__name__" : Str))
def visB (sc : Scope) (x : Str) : Bool := match sc.names.lookup x with
  | some .local => true
  | some .cell => true
  | some .free => true
  | _ => false
def locB (sc : Scope) (x : Str) : Bool := match sc.names.lookup x with
  | some .local => true
  | some .cell => true
  | _ => false
def gloB (sc : Scope) (x : Str) : Bool := match sc.names.lookup x with
  | some .globalImplicit => true
  | _ => false
def freB (sc : Scope) (x : Str) : Bool := match sc.names.lookup x with
  | some .cell => true
  | some .free => true
  | _ => false
section
variable {sc : Scope} {X : Cx} {nm : Nm} {G : Glo} {CA : Nat → Addr} {cf : Runs} {np : Nat → Option Nat} {bl : List Str} {W : WX} {L : List Nat}
theorem Body.en (B : Body sc X nm G CA cf np bl W) : En sc X nm G CA cf np bl W := ⟨B.cx, B.sc, B.tk⟩
theorem En.inn (B : En sc X nm G CA cf np bl W) {scope : Scope} {s : Shared} {H : Hp} {c : Addr} {cl : List (Str × Addr)} {fp : List Addr} : En scope (Cx.inn X scope s H c cl fp) nm G CA cf np bl W0 := ⟨B.cx.inn, ScOk.inn, L2.takes0⟩
theorem dbg_ok {x : Str} (h : dbg x = true) : (x == ("__debug__" : Str)) = false ∧ (x == ("__classdict__" : Str)) = false ∧ x ≠ "__name__" := by
  unfold dbg at h
  simp only [Bool.and_eq_true, Bool.not_eq_true'] at h
  exact ⟨h.1.1, h.1.2, fun e => by have := h.2; rw [e] at this; revert this; decide⟩
theorem En.vis (B : En sc X nm G CA cf np bl W) {x : Str} (h : visB sc x = true) : Vis X.env.scope x := by
  unfold visB at h
  split at h
  · rename_i e; exact .inl (B.so.loc x e)
  · rename_i e; exact .inr (.inl (B.so.cel x e).1)
  · rename_i e; rcases B.so.fre x e with z | z
    · exact .inr (.inr z)
    · exact .inr (.inl z)
  · cases h
theorem loc_or {x : Str} (h : locB sc x = true) : sc.names.lookup x = some .local ∨ sc.names.lookup x = some .cell := by
  unfold locB at h
  split at h
  · exact .inl (by assumption)
  · exact .inr (by assumption)
  · cases h
theorem En.gl (B : En sc X nm G CA cf np bl W) {x : Str} (h : gloB sc x = true) : Gl X x := by
  unfold gloB at h
  split at h
  · exact B.so.glo x (by assumption)
  · cases h
theorem x_var (B : En sc X nm G CA cf np bl W) (i : Nat) {x : Str} {pos : Pos} (hN : nm.N[i]? = some x) (h : visB sc x = true) (hd : dbg x = true) : PE X (.Name x pos) (tE X G CA cf W (.var i)) :=
  e_var (by rw [B.cx.N]; exact hN) (B.vis h) (dbg_ok hd).1 (dbg_ok hd).2.1
theorem x_glb (B : En sc X nm G CA cf np bl W) (g : Nat) {x : Str} {pos : Pos} (hx : x = nm.gn g) (h : gloB sc x = true) (hg : (G.gv g).isSome = true) (hd : dbg x = true) : PE X (.Name x pos) (tE X G CA cf W (.glb g)) :=
  e_glb B.cx hx (B.gl h) hg (dbg_ok hd).1
theorem x_cmp (B : En sc X nm G CA cf np bl W) (o : CO) {a b : C} {ea eb : Expr} {pos : Pos} (ha : PE X ea (tE X G CA cf W a)) (hb : PE X eb (tE X G CA cf W b)) (hm : behindInMarks o.op eb = false) : PE X (.Compare ea [o.op] [eb] pos) (tE X G CA cf W (.cmp o a b)) :=
  let ⟨_, hr, _⟩ := B.cx.lev; e_cmp hr ha hb hm
theorem y_cmp (B : En sc X nm G CA cf np bl W) (o : CO) {a b : C} {ea eb : Expr} {pos : Pos} (ha : PE X ea (tE X G CA cf W a)) (hb : PE X eb (tE X G CA cf W b)) (hm : behindInMarks o.op eb = false) : PT X (.Compare ea [o.op] [eb] pos) (tT X G CA cf W (.cmp o a b)) :=
  let ⟨_, hr, _⟩ := B.cx.lev; t_cmp hr ha hb hm
theorem x_chn (B : En sc X nm G CA cf np bl W) (o o' : CO) {a b c : C} {ea eb ec : Expr} {pos : Pos} (ha : PE X ea (tE X G CA cf W a)) (hb : PE X eb (tE X G CA cf W b)) (hc : PE X ec (tE X G CA cf W c)) (hm : lastMarks [o.op, o'.op] [eb, ec] = false) : PE X (.Compare ea [o.op, o'.op] [eb, ec] pos) (tE X G CA cf W (.chn o o' a b c)) :=
  let ⟨_, hr, _⟩ := B.cx.lev; e_chn hr ha hb hc hm
theorem y_chn (B : En sc X nm G CA cf np bl W) (o o' : CO) {a b c : C} {ea eb ec : Expr} {pos : Pos} (ha : PE X ea (tE X G CA cf W a)) (hb : PE X eb (tE X G CA cf W b)) (hc : PE X ec (tE X G CA cf W c)) (hm : lastMarks [o.op, o'.op] [eb, ec] = false) : PT X (.Compare ea [o.op, o'.op] [eb, ec] pos) (tT X G CA cf W (.chn o o' a b c)) :=
  let ⟨_, hr, _⟩ := B.cx.lev; t_chn hr ha hb hc hm
theorem x_sub (B : En sc X nm G CA cf np bl W) {a b : C} {ea eb : Expr} {pos : Pos} (ha : PE X ea (tE X G CA cf W a)) (hb : PE X eb (tE X G CA cf W b)) (hs : PlainIx eb) : PE X (.Subscript ea eb pos) (tE X G CA cf W (.sub a b)) :=
  let ⟨_, hr, _⟩ := B.cx.lev; e_sub hr ha hb hs
theorem x_cal (B : En sc X nm G CA cf np bl W) (f n : Nat) {x : Str} {cs : List C} {e : Expr} {es : List Expr} {p pos : Pos} (hf : np f = some n) (hx : x = nm.fn f) (hmt : nm.mt f = none) (hn : cs.length = n) (h : gloB sc x = true) (hd : dbg x = true) (hs : (e :: es).all noStar = true)
    (ha : PA X (e :: es) (tL X G CA cf W cs)) : PE X (.Call (.Name x p) (e :: es) [] pos) (tE X G CA cf W (.cal f cs)) := e_cal B.cx B.tk hf hx hmt hn (B.gl h) ha (dbg_ok hd).1 hs
theorem x_cal0 (B : En sc X nm G CA cf np bl W) (f : Nat) {x : Str} {p pos : Pos} (hf : np f = some 0) (hx : x = nm.fn f) (hmt : nm.mt f = none) (h : gloB sc x = true) (hd : dbg x = true) : PE X (.Call (.Name x p) [] [] pos) (tE X G CA cf W (.cal f [])) := e_cal0 B.cx B.tk hf hx hmt rfl (B.gl h) (dbg_ok hd).1
theorem x_bif (B : En sc X nm G CA cf np bl W) (f : Bi) {x : Str} {cs : List C} {e : Expr} {es : List Expr} {p pos : Pos} (hf : biOk f = true) (hx : x = Str.ofString (biS f)) (hb : bl.contains x = true) (h : gloB sc x = true) (hd : dbg x = true) (hs : (e :: es).all noStar = true)
    (ha : PA X (e :: es) (tL X G CA cf W cs)) : PE X (.Call (.Name x p) (e :: es) [] pos) (tE X G CA cf W (.bif f cs)) := e_bif B.cx hf hx (by simpa using hb) (B.gl h) ha (dbg_ok hd).1 (dbg_ok hd).2.2 hs
theorem x_isi (B : En sc X nm G CA cf np bl W) (k : IK) {c : C} {e : Expr} {x : Str} {pp p2 pos : Pos} (hk : ikOk k = true) (hx : x = Str.ofString (ikS k)) (hb : bl.contains x = true) (hi : bl.contains ("isinstance" : Str) = true) (h : gloB sc x = true) (hg : gloB sc "isinstance" = true) (hs : noStar e = true) (hd : dbg x = true)
    (he : PE X e (tE X G CA cf W c)) : PE X (.Call (.Name "isinstance" pp) [e, .Name x p2] [] pos) (tE X G CA cf W (.isi c k)) := e_isi B.cx hk hx (by simpa using hb) (by simpa using hi) (B.gl h) (B.gl hg) he hs (dbg_ok hd).2.2 (dbg_ok hd).1
theorem a_c {c : C} {cs : List C} {e : Expr} {es : List Expr} (hs : noStar e = true) (ha : PE X e (tE X G CA cf W c)) (hr : PA X es (tL X G CA cf W cs)) : PA X (e :: es) (tL X G CA cf W (c :: cs)) := a_cons ha hr (star_cons hs)
theorem r_1 (B : En sc X nm G CA cf np bl W) {tg : Expr} {c : C} {e : Expr} {p pos : Pos} (hr : bl.contains ("range" : Str) = true) (hg : gloB sc "range" = true) (hs : noStar e = true) (h : PE X e (tE X G CA cf W c)) : PI X tg (.Call (.Name "range" p) [e] [] pos) (tI X G CA cf W (.rng [c])) := i_rng1 B.cx (by simpa using hr) (B.gl hg) h hs
theorem r_2 (B : En sc X nm G CA cf np bl W) {tg : Expr} {c c2 : C} {e e2 : Expr} {p pos : Pos} (hr : bl.contains ("range" : Str) = true) (hg : gloB sc "range" = true) (hs : noStar e = true) (hs2 : noStar e2 = true) (h : PE X e (tE X G CA cf W c)) (h2 : PE X e2 (tE X G CA cf W c2)) : PI X tg (.Call (.Name "range" p) [e, e2] [] pos) (tI X G CA cf W (.rng [c, c2])) := i_rng2 B.cx (by simpa using hr) (B.gl hg) h hs h2 hs2
theorem r_enu (B : En sc X nm G CA cf np bl W) {c : C} {e : Expr} {p pos tpos : Pos} {elts : List Expr} {kk : Nat} (hr : bl.contains ("enumerate" : Str) = true) (hg : gloB sc "enumerate" = true) (hs : noStar e = true) (h : PE X e (tE X G CA cf W c)) :
    PI X (.Tuple elts kk tpos) (.Call (.Name "enumerate" p) [e] [] pos) (tI X G CA cf W (.enu c)) := i_enu B.cx (by simpa using hr) (B.gl hg) h hs
/-- a comprehension's names, seen of the text -/
def blkB (N : List Str) (sc scope : Scope) (own : List (Str × Nat)) : Bool :=
  (match scope.kind with | .function => true | _ => false) && scope.names.all (fun y => scope.names.lookup y.1 == some y.2) && own.all (fun p => N[p.2]? == some p.1) &&
  scope.names.all (fun y => !(y.2 == .free) || freB sc y.1) && scope.names.all (fun y => !(y.2 == .local || y.2 == .cell) || (own.map (·.1)).contains y.1 || !N.contains y.1)
theorem blk_ok (B : En sc X nm G CA cf np bl W) {scope : Scope} {own : List (Str × Nat)} (h : blkB nm.N sc scope own = true) : BlkOk X.N X.env.scope scope own := by
  unfold blkB at h
  simp only [Bool.and_eq_true] at h
  obtain ⟨⟨⟨⟨h1, h2⟩, h3⟩, h4⟩, h5⟩ := h
  refine ⟨?_, fun y hy => ?_, fun p hp => ?_, fun y hy e => ?_, fun y hy e => ?_⟩
  · cases e : scope.kind <;> rw [e] at h1 <;> first | rfl | cases h1
  · simpa using List.all_eq_true.mp h2 y hy
  · rw [B.cx.N]; simpa using List.all_eq_true.mp h3 p hp
  · have := List.all_eq_true.mp h4 y hy
    rw [e] at this
    have hf : freB sc y.1 = true := by simpa using this
    unfold freB at hf
    split at hf
    · rename_i z; exact .inl (B.so.cel y.1 z).1
    · rename_i z; exact (B.so.fre y.1 z).symm
    · cases hf
  · have := List.all_eq_true.mp h5 y hy
    have h0 : (y.2 == NameKind.local || y.2 == NameKind.cell) = true := by rcases e with e | e <;> rw [e] <;> rfl
    rw [h0] at this
    simp only [Bool.not_true, Bool.false_or, Bool.or_eq_true, Bool.not_eq_true'] at this
    rcases this with z | z
    · exact .inl (by simpa using z)
    · right; rw [B.cx.N]; intro w; rw [List.contains_iff_mem.mpr w] at z; cases z
/-- [elt for name in iter if ..] -/
theorem x_lc1 (B : En sc X nm G CA cf np bl W) (i : Nat) {x : Str} {it : C} {t : Option C} {e : C} {elt iter : Expr} {ifs : List Expr} {scope : Scope} {pos px : Pos} (hb : blkB nm.N sc scope [(x, i)] = true) (hx : nm.N[i]? = some x) (hl : locB scope x = true) (hs : noSet iter = true)
    (hi : PI X (.Name x px) iter (tI X G CA cf W it)) (ht : ∀ s H c cl fp, En scope (Cx.inn X scope s H c cl fp) nm G CA cf np bl W0 → PTs (Cx.inn X scope s H c cl fp) ifs (tTo (Cx.inn X scope s H c cl fp) G CA cf W0 t))
    (he : ∀ s H c cl fp, En scope (Cx.inn X scope s H c cl fp) nm G CA cf np bl W0 → PE (Cx.inn X scope s H c cl fp) elt (tE (Cx.inn X scope s H c cl fp) G CA cf W0 e)) :
    PE X (.ListComp elt [⟨.Name x px, iter, ifs, 0⟩] scope pos) (tE X G CA cf W (.lc it (.one i) t e)) :=
  e_lc B.cx hi (blk_ok B hb) rfl (fun l z => by cases z) tg_one (fun s H c cl fp => g_one (B.inn).so B.cx.nd (by show X.N[i]? = _; rw [B.cx.N]; exact hx) (loc_or hl)) (fun s H c cl fp => ht s H c cl fp B.inn) (fun s H c cl fp => he s H c cl fp B.inn) hs
theorem x_lcT (B : En sc X nm G CA cf np bl W) (own : List (Str × Nat)) {it : C} {t : Option C} {e : C} {elt iter : Expr} {ifs tes : List Expr} {scope : Scope} {pos px : Pos} {kk : Nat} (hb : blkB nm.N sc scope own = true) (hn : (own.map (·.2)).Nodup) (hT : TgNames scope nm.N tes (own.map (·.2))) (hs : noSet iter = true)
    (hi : PI X (.Tuple tes kk px) iter (tI X G CA cf W it)) (ht : ∀ s H c cl fp, En scope (Cx.inn X scope s H c cl fp) nm G CA cf np bl W0 → PTs (Cx.inn X scope s H c cl fp) ifs (tTo (Cx.inn X scope s H c cl fp) G CA cf W0 t))
    (he : ∀ s H c cl fp, En scope (Cx.inn X scope s H c cl fp) nm G CA cf np bl W0 → PE (Cx.inn X scope s H c cl fp) elt (tE (Cx.inn X scope s H c cl fp) G CA cf W0 e)) :
    PE X (.ListComp elt [⟨.Tuple tes kk px, iter, ifs, 0⟩] scope pos) (tE X G CA cf W (.lc it (.tup (own.map (·.2))) t e)) :=
  e_lc B.cx hi (blk_ok B hb) rfl (fun l z => by cases z; exact hn) (tg_tup hn) (fun s H c cl fp => g_tup (B.inn).so B.cx.nd B.cx.calm (by show TgNames scope X.N tes _; rw [B.cx.N]; exact hT)) (fun s H c cl fp => ht s H c cl fp B.inn) (fun s H c cl fp => he s H c cl fp B.inn) hs
/-! ### statements -/
theorem z_asg (B : En sc X nm G CA cf np bl W) (i : Nat) {x : Str} {c : C} {e : Expr} {p pos : Pos} (hx : nm.N[i]? = some x) (hl : locB sc x = true) (hc : noLc e = true) (he : PE X e (tE X G CA cf W c)) : PS X (.Assign [.Name x p] e pos) (tS X G CA cf W L (.asg i c)) :=
  s_asg B.so B.cx.nd (by rw [B.cx.N]; exact hx) (loc_or hl) he hc
/-- name = [..] where they stand on one line -/
def swB (sc scope : Scope) (y : Str) (py pos : Pos) : Bool := (match sc.kind with | .function => true | _ => false) && (sc.names.lookup y == some .local) && (py.line == pos.line) && !(scope.names.any fun (n, k) => n == y && (k == .local || k == .cell))
theorem z_lc1 (B : En sc X nm G CA cf np bl W) (hk : X.env.scope.kind = .function) (j : Nat) {y : Str} {py spos : Pos} (hy : nm.N[j]? = some y) (i : Nat) {x : Str} {it : C} {t : Option C} {e : C} {elt iter : Expr} {ifs : List Expr} {scope : Scope} {pos px : Pos} (hw : swB sc scope y py pos = true) (hb : blkB nm.N sc scope [(x, i)] = true) (hx : nm.N[i]? = some x) (hl : locB scope x = true) (hs : noSet iter = true)
    (hi : PI X (.Name x px) iter (tI X G CA cf W it)) (ht : ∀ s H c cl fp, En scope (Cx.inn X scope s H c cl fp) nm G CA cf np bl W0 → PTs (Cx.inn X scope s H c cl fp) ifs (tTo (Cx.inn X scope s H c cl fp) G CA cf W0 t))
    (he : ∀ s H c cl fp, En scope (Cx.inn X scope s H c cl fp) nm G CA cf np bl W0 → PE (Cx.inn X scope s H c cl fp) elt (tE (Cx.inn X scope s H c cl fp) G CA cf W0 e)) :
    PS X (.Assign [.Name y py] (.ListComp elt [⟨.Name x px, iter, ifs, 0⟩] scope pos) spos) (tS X G CA cf W L (.asg j (.lc it (.one i) t e))) := by
  unfold swB at hw
  simp only [Bool.and_eq_true, Bool.not_eq_true'] at hw
  obtain ⟨⟨⟨_, w2⟩, w3⟩, w4⟩ := hw
  have hyl : X.env.scope.names.lookup y = some .local := B.so.loc y (by simpa using w2)
  exact asg_of (by rw [B.cx.N]; exact hy) (s_lc B.cx (by rw [B.cx.N]; exact hy) hyl (sw_true hk hyl w3 w4) hi (blk_ok B hb) rfl (fun l z => by cases z) tg_one (fun s H c cl fp => g_one (B.inn).so B.cx.nd (by show X.N[i]? = _; rw [B.cx.N]; exact hx) (loc_or hl)) (fun s H c cl fp => ht s H c cl fp B.inn) (fun s H c cl fp => he s H c cl fp B.inn) hs)
theorem z_lcT (B : En sc X nm G CA cf np bl W) (hk : X.env.scope.kind = .function) (j : Nat) {y : Str} {py spos : Pos} (hy : nm.N[j]? = some y) (own : List (Str × Nat)) {it : C} {t : Option C} {e : C} {elt iter : Expr} {ifs tes : List Expr} {scope : Scope} {pos px : Pos} {kk : Nat} (hw : swB sc scope y py pos = true) (hb : blkB nm.N sc scope own = true) (hn : (own.map (·.2)).Nodup) (hT : TgNames scope nm.N tes (own.map (·.2))) (hs : noSet iter = true)
    (hi : PI X (.Tuple tes kk px) iter (tI X G CA cf W it)) (ht : ∀ s H c cl fp, En scope (Cx.inn X scope s H c cl fp) nm G CA cf np bl W0 → PTs (Cx.inn X scope s H c cl fp) ifs (tTo (Cx.inn X scope s H c cl fp) G CA cf W0 t))
    (he : ∀ s H c cl fp, En scope (Cx.inn X scope s H c cl fp) nm G CA cf np bl W0 → PE (Cx.inn X scope s H c cl fp) elt (tE (Cx.inn X scope s H c cl fp) G CA cf W0 e)) :
    PS X (.Assign [.Name y py] (.ListComp elt [⟨.Tuple tes kk px, iter, ifs, 0⟩] scope pos) spos) (tS X G CA cf W L (.asg j (.lc it (.tup (own.map (·.2))) t e))) := by
  unfold swB at hw
  simp only [Bool.and_eq_true, Bool.not_eq_true'] at hw
  obtain ⟨⟨⟨_, w2⟩, w3⟩, w4⟩ := hw
  have hyl : X.env.scope.names.lookup y = some .local := B.so.loc y (by simpa using w2)
  exact asg_of (by rw [B.cx.N]; exact hy) (s_lc B.cx (by rw [B.cx.N]; exact hy) hyl (sw_true hk hyl w3 w4) hi (blk_ok B hb) rfl (fun l z => by cases z; exact hn) (tg_tup hn) (fun s H c cl fp => g_tup (B.inn).so B.cx.nd B.cx.calm (by show TgNames scope X.N tes _; rw [B.cx.N]; exact hT)) (fun s H c cl fp => ht s H c cl fp B.inn) (fun s H c cl fp => he s H c cl fp B.inn) hs)
theorem z_retv (B : En sc X nm G CA cf np bl W) (i : Nat) {x : Str} {p pos : Pos} (hx : nm.N[i]? = some x) (h : visB sc x = true) (hd : dbg x = true) : PS X (.Return (some (.Name x p)) pos) (tS X G CA cf W L (.retv i)) :=
  s_retv (by rw [B.cx.N]; exact hx) (B.vis h) (dbg_ok hd).1 (dbg_ok hd).2.1
theorem z_app (B : En sc X nm G CA cf np bl W) (i : Nat) {x : Str} {c : C} {e : Expr} {p apos cpos pos : Pos} (hx : nm.N[i]? = some x) (h : visB sc x = true) (hd : dbg x = true) (hs : noStar e = true) (hl : (apos.endLine == cpos.line) = true) (he : PE X e (tE X G CA cf W c)) :
    PS X (.Expr (.Call (.Attribute (.Name x p) "append" apos) [e] [] cpos) pos) (tS X G CA cf W L (.app i c)) := s_app (by rw [B.cx.N]; exact hx) (B.vis h) (dbg_ok hd).1 (dbg_ok hd).2.1 he hs hl
theorem z_for1 (B : En sc X nm G CA cf np bl W) (pas : PassesOwn (model X.prog X.w) X.A X.env X.xe) (i : Nat) {x : Str} {it : C} {iter : Expr} {b : List Stmt} {sa : List S} {px pos : Pos} (hx : nm.N[i]? = some x) (hl : locB sc x = true) (hs : noSet iter = true) (hi : PI X (.Name x px) iter (tI X G CA cf W it)) (ha : ∀ L, PSs X b (tB X G CA cf W L sa)) :
    PS X (.For (.Name x px) iter b [] pos) (tS X G CA cf W L (.for_ (.one i) it sa)) :=
  s_for pas B.cx.calm tg_one (fun j hj => by simp [Tg.is] at hj; subst hj; rw [B.cx.N]; exact (List.getElem?_eq_some_iff.mp hx).1) hi (g_one B.so B.cx.nd (by rw [B.cx.N]; exact hx) (loc_or hl)) ha hs
theorem TgNames.lt {sc : Scope} {N : List Str} {es : List Expr} {is : List Nat} (h : TgNames sc N es is) : ∀ i ∈ is, i < N.length := by
  induction h with
  | nil => simp
  | cons h1 _ _ ih =>
    intro j hj
    rcases List.mem_cons.mp hj with e | hj
    · rw [e]; exact (List.getElem?_eq_some_iff.mp h1).1
    · exact ih j hj
theorem z_forT (B : En sc X nm G CA cf np bl W) (pas : PassesOwn (model X.prog X.w) X.A X.env X.xe) (is : List Nat) {tes : List Expr} {it : C} {iter : Expr} {b : List Stmt} {sa : List S} {px pos : Pos} {kk : Nat} (hn : is.Nodup) (hT : TgNames sc nm.N tes is) (hs : noSet iter = true) (hi : PI X (.Tuple tes kk px) iter (tI X G CA cf W it)) (ha : ∀ L, PSs X b (tB X G CA cf W L sa)) :
    PS X (.For (.Tuple tes kk px) iter b [] pos) (tS X G CA cf W L (.for_ (.tup is) it sa)) := by
  rw [← B.cx.N] at hT
  exact s_for pas B.cx.calm (tg_tup hn) hT.lt hi (g_tup B.so B.cx.nd B.cx.calm hT) ha hs
/-- a, b = e -/
theorem z_asgT (B : En sc X nm G CA cf np bl W) (is : List Nat) {tes : List Expr} {c : C} {e : Expr} {px pos : Pos} {kk : Nat} (hn : is.Nodup) (hT : TgNames sc nm.N tes is) (hl : noLc e = true) (hw : swappedStores [.Tuple tes kk px] e X.env = pure none) (he : PE X e (tE X G CA cf W c)) :
    PS X (.Assign [.Tuple tes kk px] e pos) (tS X G CA cf W L (.asgT is c)) := by
  rw [← B.cx.N] at hT
  exact s_asgT (tg_tup hn) hT.lt he (g_tup B.so B.cx.nd B.cx.calm hT) (no_swap (t := some (.Tuple tes kk px)) (l := pos.line) (env := X.env) hl) hw rfl
end
/-! ### the end -/
section
variable {P : Program} {w : World} {K : PySem.W.Frag} {mg : Str → Option Value} {base : Heap} {T : Tb} {G : Glo} {CA : Nat → Addr} {Pr : Nat → Option Def} {np : Nat → Option Nat} {bl : List Str}
def spLaw (K : PySem.W.Frag) : Sp := fun vs H Q _ => ∃ (a : Addr) (ns : List Int), vs = [.ref a] ∧ SqZ K H a (ns.map V.int) ∧ ns.length ≤ 63 ∧ ∀ H', Q (.bl true) H'
theorem law_ok {k f : Nat} {a : Addr} {fd : FuncData} {ps : List Str} (F : FnOk P w K mg base (L2.CX P w) k a fd ps (spI K CA (runI G Pr k) 1 [] f)) (h : ∀ ns : List Int, ns.length ≤ 63 → ∃ n, run G Pr k f [.scr ns] = .ok (.bl true, n)) : FnOk P w K mg base (L2.CX P w) k a fd ps (spLaw K) :=
  F.imp fun vs H Q E ⟨a, ns, hv, hq, hl, q⟩ => by
    subst hv
    obtain ⟨n, e⟩ := h ns hl
    refine spI_of_spF ⟨rfl, [.scr ns], [], ?_, ?_⟩
    · have := Reps.cons (K := K) (CA := CA) (H := H) (n := 0) (.scr hq) .nil
      simpa using this
    · rw [e]
      intro v H' O Z pv
      rw [pv.rep.bl_inv.1]
      exact q H'
theorem sp_end {H : Hp} {a : Addr} {ns : List Int} (hl : ns.length ≤ 63) (hO : Only H) (hS : SqL K H a (ns.map V.int)) : spLaw K [.ref a] H (fun v _ => v = .bl true) fun _ _ _ => False := by
  refine ⟨a, ns, rfl, ?_, hl, fun _ => rfl⟩
  rcases hS with (e | ⟨o, e⟩) | e
  · rcases hO a with z | ⟨o, xs, z⟩
    · rw [z] at e; cases e
    · rw [z] at e; cases e
  · exact .inl ⟨o, e⟩
  · exact .inr fun H' => .inr e
theorem cx_end (H : Hp) (s : Shared) (e : Value) (s' : Shared) (h : L2.CX P w [] H s (fun _ _ _ => False) e s') : False := by
  obtain ⟨_, _, _, _, _, _, _, _, _, _, _, _, z⟩ := h
  exact z
end
end Vy

namespace Vy
open PySem PySem.Spec
open PyProof.Rows hiding St
open L2
inductive NoneAll (mg : Str → Option Value) : List Str → Prop
  | nil : NoneAll mg []
  | cons {x : Str} {xs : List Str} : mg x = none → NoneAll mg xs → NoneAll mg (x :: xs)
theorem NoneAll.all {mg : Str → Option Value} {xs : List Str} (h : NoneAll mg xs) : ∀ x ∈ xs, mg x = none := by
  induction h with
  | nil => simp
  | cons h _ ih =>
    intro y hy
    rcases List.mem_cons.mp hy with e | hy
    · rw [e]; exact h
    · exact ih y hy
section
variable {sc : Scope} {X : Cx} {nm : Nm} {G : Glo} {CA : Nat → Addr} {cf : Runs} {np : Nat → Option Nat} {bl : List Str} {W : WX} {L : List Nat}
/-- a tuple of texts that the top has written -/
def tupStrs : List Cs → Array Value → Bool
  | ss, its => go ss its.toList
where go : List Cs → List Value → Bool
  | [], [] => true
  | s :: r, .str x _ :: q => x == mkS s && bdB s && go r q
  | _, _ => false
theorem tupStrs_go {K : PySem.W.Frag} {CA : Nat → Addr} {H : Hp} : ∀ {ss : List Cs} {l : List Value}, tupStrs.go ss l = true → Vals (ss.map fun s => V.str (mkS s)) l ∧ Reps K CA H 9 (ss.map D.str) (ss.map fun s => V.str (mkS s)) [] []
  | [], [], _ => ⟨.nil, .nil⟩
  | s :: r, .str x t :: q, h => by
    simp only [tupStrs.go, Bool.and_eq_true] at h
    obtain ⟨⟨h1, h2⟩, h3⟩ := h
    obtain ⟨a, b⟩ := tupStrs_go (K := K) (CA := CA) (H := H) h3
    have e : x = mkS s := by simpa using h1
    refine ⟨.cons ⟨t, by rw [e]⟩ a, ?_⟩
    have := Reps.cons (K := K) (CA := CA) (H := H) (n := 9) (.str (bdB_ok h2)) b
    simpa using this
theorem rep_tup {K : PySem.W.Frag} {CA : Nat → Addr} {H : Hp} {a : Addr} {o : Obj} {its : Array Value} {ss : List Cs} (hl : K.lookup a = some o) (hc : o.cls = .type "tuple") (hd : o.data = .seq its 0) (h : tupStrs ss its = true) (hz : ss.length ≤ 1000) : Rep K CA H 9 (.tup (ss.map D.str)) (.ref a) [] [] := by
  obtain ⟨q1, q2⟩ := tupStrs_go (K := K) (CA := CA) (H := H) h
  exact .tup (.inr ⟨o, its, 0, hl, hc, hd, by
    have := q1.length
    simp at this
    rw [SZ_eq]; unfold SZ; omega, q1⟩) q2
end
/-- rows found by their number -/
def lk {α : Type} : List (Nat × α) → Nat → Option α
  | [], _ => none
  | (k, v) :: r, f => match Nat.beq k f with
    | true => some v
    | false => lk r f
theorem lk_mem {α : Type} : ∀ {l : List (Nat × α)} {f : Nat} {v : α}, lk l f = some v → (f, v) ∈ l
  | [], f, v, h => by cases h
  | (k, v0) :: r, f, v, h => by
    rw [lk] at h
    cases e : Nat.beq k f with
    | true => rw [e] at h; cases h; rw [Nat.eq_of_beq_eq_true e]; simp
    | false => rw [e] at h; exact List.mem_cons_of_mem _ (lk_mem h)
inductive DefsOk (Q : Nat → Nat → List Nat → Prop) : List (Nat × (Nat × List Nat)) → Prop
  | nil : DefsOk Q []
  | cons {f n io r} : Q f n io → DefsOk Q r → DefsOk Q ((f, (n, io)) :: r)
theorem DefsOk.all {Q : Nat → Nat → List Nat → Prop} {l : List (Nat × (Nat × List Nat))} (h : DefsOk Q l) : ∀ f n io, lk l f = some (n, io) → Q f n io := by
  have : ∀ x ∈ l, Q x.1 x.2.1 x.2.2 := by
    induction h with
    | nil => simp
    | cons h _ ih =>
      intro x hx
      rcases List.mem_cons.mp hx with e | hx
      · rw [e]; exact h
      · exact ih x hx
  exact fun f n io e => this _ (lk_mem e)
inductive GlosOk (Q : Nat → D → Prop) : List (Nat × D) → Prop
  | nil : GlosOk Q []
  | cons {g d r} : Q g d → GlosOk Q r → GlosOk Q ((g, d) :: r)
theorem GlosOk.all {Q : Nat → D → Prop} {l : List (Nat × D)} (h : GlosOk Q l) : ∀ g d, lk l g = some d → Q g d := by
  have : ∀ x ∈ l, Q x.1 x.2 := by
    induction h with
    | nil => simp
    | cons h _ ih =>
      intro x hx
      rcases List.mem_cons.mp hx with e | hx
      · rw [e]; exact h
      · exact ih x hx
  exact fun g d e => this _ (lk_mem e)
/-- the defs that change nothing of what they are handed -/
def plainN (nio : Nat → Option (Nat × List Nat)) (f : Nat) : Option Nat := match nio f with
  | some (n, []) => some n
  | _ => none
theorem plainN_ok {nio : Nat → Option (Nat × List Nat)} (f n : Nat) (h : plainN nio f = some n) : nio f = some (n, []) := by
  unfold plainN at h
  split at h
  · cases h; assumption
  · cases h
theorem same_fn {mg : Str → Option Value} {x : Str} {a b : Addr} (h1 : mg x = some (.ref a)) (h2 : mg x = some (.ref b)) : a = b := by rw [h1] at h2; cases h2; rfl
end Vy

namespace Vy
/-! ## the language, for simp -/
section
variable (G : Glo) (cf : Runs) (ρ : Env)
@[simp] theorem ev_cst (d : D) : ev G cf ρ (.cst d) = .ok (d, 9) := by rw [ev]
@[simp] theorem ev_var (i : Nat) : ev G cf ρ (.var i) = .of ((ρ[i]?).bind id |>.map fun p => (p.1, 0)) := by rw [ev]
@[simp] theorem ev_glb (g : Nat) : ev G cf ρ (.glb g) = .of ((G.gv g).map fun d => (d, 9)) := by rw [ev]
@[simp] theorem ev_bin (o : BO) (a b : C) : ev G cf ρ (.bin o a b) = (ev G cf ρ a).bind fun x => (ev G cf ρ b).bind fun y => .of (binD o x y) := by rw [ev]
@[simp] theorem ev_cmp (o : CO) (a b : C) : ev G cf ρ (.cmp o a b) = (ev G cf ρ a).bind fun x => (ev G cf ρ b).bind fun y => (Out.of (cmpD o x.1 y.1)).bind fun r => .ok (.bl r, 9) := by rw [ev]
@[simp] theorem ev_chn (o p : CO) (a b c : C) : ev G cf ρ (.chn o p a b c) = (ev G cf ρ a).bind fun x => (ev G cf ρ b).bind fun y => (Out.of (cmpD o x.1 y.1)).bind fun r => if r = true then (ev G cf ρ c).bind fun z => (Out.of (cmpD p y.1 z.1)).bind fun q => .ok (.bl q, 9) else .ok (.bl false, 9) := by rw [ev]
@[simp] theorem ev_not (a : C) : ev G cf ρ (.not a) = (ev G cf ρ a).bind fun x => (Out.of (truth x.1)).bind fun b => .ok (.bl (!b), 9) := by rw [ev]
@[simp] theorem ev_neg (a : C) : ev G cf ρ (.neg a) = (ev G cf ρ a).bind fun x => match x.1 with | .int i => .ok (.int (-i), 9) | _ => .bad := by rw [ev] <;> rfl
@[simp] theorem ev_and (a b : C) : ev G cf ρ (.and a b) = (ev G cf ρ a).bind fun x => (Out.of (truth x.1)).bind fun r => if r = true then ev G cf ρ b else .ok x := by rw [ev]
@[simp] theorem ev_or (a b : C) : ev G cf ρ (.or a b) = (ev G cf ρ a).bind fun x => (Out.of (truth x.1)).bind fun r => if r = true then .ok x else ev G cf ρ b := by rw [ev]
@[simp] theorem ev_ife (t a b : C) : ev G cf ρ (.ife t a b) = (ev G cf ρ t).bind fun x => (Out.of (truth x.1)).bind fun r => if r = true then ev G cf ρ a else ev G cf ρ b := by rw [ev]
@[simp] theorem ev_tup (es : List C) : ev G cf ρ (.tup es) = (evs G cf ρ es).bind fun ps => gd (ps.length ≤ SZ) (.ok (.tup (ps.map (·.1)), lvL ps)) := by rw [ev]
@[simp] theorem ev_lst (es : List C) : ev G cf ρ (.lst es) = (evs G cf ρ es).bind fun ps => gd (ps.length ≤ SZ) (.ok (.lst (ps.map (·.1)), lvL ps + 1)) := by rw [ev]
@[simp] theorem ev_dct (ks es : List C) : ev G cf ρ (.dct ks es) = (evs G cf ρ es).bind fun ps => .of (dispD ps) := by rw [ev]
@[simp] theorem ev_sub (a i : C) : ev G cf ρ (.sub a i) = (ev G cf ρ a).bind fun x => (ev G cf ρ i).bind fun y => .of (subD x.1 y.1) := by rw [ev]
@[simp] theorem ev_slc (a : C) (lo hi : Option C) : ev G cf ρ (.slc a lo hi) = (ev G cf ρ a).bind fun x => (evo G cf ρ lo).bind fun l => (evo G cf ρ hi).bind fun h => .of (slcD x.1 l h) := by rw [ev]
@[simp] theorem ev_rvl (a : C) : ev G cf ρ (.rvl a) = (ev G cf ρ a).bind fun x => .of ((lsqOf x.1).map fun xs => (.lst xs.reverse, lv1 xs.reverse)) := by rw [ev]
@[simp] theorem ev_cal (f : Nat) (es : List C) : ev G cf ρ (.cal f es) = (evs G cf ρ es).bind fun ps => cf f (ps.map (·.1)) := by rw [ev]
@[simp] theorem ev_bif (f : Bi) (es : List C) : ev G cf ρ (.bif f es) = (evs G cf ρ es).bind fun ps => .of (bifD f ps) := by rw [ev]
@[simp] theorem ev_mth (m : Me) (o : C) (es : List C) : ev G cf ρ (.mth m o es) = (ev G cf ρ o).bind fun x => gd (recvOk m x.1 = true) ((evs G cf ρ es).bind fun ps => .of (methD m x ps)) := by rw [ev]
@[simp] theorem ev_isi (a : C) (k : IK) : ev G cf ρ (.isi a k) = (ev G cf ρ a).bind fun x => gd (isiOk x.1 k = true) (.ok (.bl (isaD G.cm x.1 k), 9)) := by rw [ev]
@[simp] theorem ev_lc (it : C) (tg : Tg) (t : Option C) (e : C) : ev G cf ρ (.lc it tg t e) = (ev G cf ρ it).bind fun x => (Out.of (itemsOf x.1)).bind fun xs => (compL (turnF G cf ρ tg t e) xs).bind fun ps => .ok (.lst (ps.map (·.1)), lvL ps + 1) := by rw [ev] <;> rfl
@[simp] theorem ev_rng (es : List C) : ev G cf ρ (.rng es) = (evs G cf ρ es).bind fun ps => (rngD (ps.map (·.1))).bind fun xs => .ok (.lst xs, 9) := by rw [ev]
@[simp] theorem ev_enu (e : C) : ev G cf ρ (.enu e) = (ev G cf ρ e).bind fun x => .of ((lsqOf x.1).map fun xs => (.lst (enumD xs), x.2)) := by rw [ev]
@[simp] theorem evs_nil : evs G cf ρ [] = .ok [] := by rw [evs]
@[simp] theorem evs_cons (e : C) (es : List C) : evs G cf ρ (e :: es) = (ev G cf ρ e).bind fun x => (evs G cf ρ es).bind fun xs => .ok (x :: xs) := by rw [evs]
@[simp] theorem evo_none : evo G cf ρ none = .ok none := by rw [evo]
@[simp] theorem evo_some (e : C) : evo G cf ρ (some e) = (ev G cf ρ e).bind fun x => match x.1 with | .int i => .ok (some i) | _ => .bad := by rw [evo] <;> rfl
@[simp] theorem evt_none : evt G cf ρ none = .ok true := by rw [evt]
@[simp] theorem evt_some (e : C) : evt G cf ρ (some e) = (ev G cf ρ e).bind fun x => .of (truth x.1) := by rw [evt]
@[simp] theorem evB_eq (e : C) : evB G cf ρ e = (ev G cf ρ e).bind fun x => .of (truth x.1) := id rfl
variable (L : List Nat)
@[simp] theorem exB_nil : exB G cf L ρ [] = .nx ρ := by rw [exB]
/-- on to the next statement -/
theorem exB_cons (s : S) (r : List S) : exB G cf L ρ (s :: r) = match exS G cf L ρ s with | .nx ρ' => exB G cf L ρ' r | o => o := by rw [exB] <;> rfl
def thenB (o : OS) (f : Env → OS) : OS := match o with | .nx ρ => f ρ | o => o
@[simp] theorem thenB_nx (f : Env → OS) : thenB (.nx ρ) f = f ρ := id rfl
@[simp] theorem thenB_rt (p : D × Nat) (f : Env → OS) : thenB (.rt p ρ) f = .rt p ρ := id rfl
@[simp] theorem thenB_exc (e : Exn) (f : Env → OS) : thenB (.exc e ρ) f = .exc e ρ := id rfl
@[simp] theorem thenB_bad (f : Env → OS) : thenB .bad f = .bad := id rfl
@[simp] theorem exB_cons' (s : S) (r : List S) : exB G cf L ρ (s :: r) = thenB (exS G cf L ρ s) fun ρ' => exB G cf L ρ' r := by rw [exB] <;> rfl
theorem exB_app : ∀ (a b : List S) (ρ : Env), exB G cf L ρ (a ++ b) = thenB (exB G cf L ρ a) fun ρ' => exB G cf L ρ' b
  | [], b, ρ => by simp
  | s :: r, b, ρ => by
    rw [List.cons_append, exB_cons', exB_cons']
    cases exS G cf L ρ s with
    | nx ρ' => simp only [thenB_nx]; rw [exB_app r b]
    | _ => rfl
/-- the first i statements, then the others -/
theorem exB_at (i : Nat) (b : List S) (ρ : Env) {ρ' : Env} (h : exB G cf L ρ (b.take i) = .nx ρ') : exB G cf L ρ b = exB G cf L ρ' (b.drop i) := by
  have := exB_app G cf L (b.take i) (b.drop i) ρ
  rw [List.take_append_drop] at this
  rw [this, h]; rfl
@[simp] theorem exS_pass : exS G cf L ρ .pass = .nx ρ := by rw [exS]
@[simp] theorem exS_asg (i : Nat) (e : C) : exS G cf L ρ (.asg i e) = onE (ev G cf ρ e) ρ fun p => onJ cf.io [i] (.nx (bindV ρ i p (names e))) := by rw [exS]
@[simp] theorem exS_asgT (is : List Nat) (e : C) : exS G cf L ρ (.asgT is e) = onE (ev G cf ρ e) ρ fun p => onJ cf.io is (putS (if full p = true then ρ else frz ρ (names e)) (.tup is) p.1 .nx) := by rw [exS]
@[simp] theorem exS_exp (e : C) : exS G cf L ρ (.exp e) = onE (ev G cf ρ e) ρ fun _ => .nx ρ := by rw [exS]
@[simp] theorem exS_ret (e : C) : exS G cf L ρ (.ret e) = onE (ev G cf ρ e) ρ fun p => .rt p ρ := by rw [exS]
@[simp] theorem exS_retv (i : Nat) : exS G cf L ρ (.retv i) = match (ρ[i]?).bind id with | some p => .rt p (ρ.set i none) | none => .bad := by rw [exS] <;> rfl
@[simp] theorem exS_retN : exS G cf L ρ .retN = .rt (.non, 9) ρ := by rw [exS]
@[simp] theorem exS_ife (t : C) (a b : List S) : exS G cf L ρ (.ife t a b) = onE (evB G cf ρ t) ρ fun c => if c = true then exB G cf L ρ a else exB G cf L ρ b := by rw [exS]
@[simp] theorem exS_whl (n : Nat) (t : C) (b : List S) : exS G cf L ρ (.whl n t b) = whileL (fun ρ => evB G cf ρ t) (fun ρ => exB G cf L ρ b) n ρ := by rw [exS]
/-- a for's turns -/
def forS (tg : Tg) (it : C) (b : List S) (p : D × Nat) : OS := match itemsOf p.1 with
  | none => .bad
  | some xs => onJ cf.io tg.is <| if full p = true then forL (fun ρ d => putS ρ tg d fun ρ => exB G cf L ρ b) xs ρ
    else forL (fun ρ d => putS ρ tg d fun ρ => exB G cf (names it ++ L) ρ b) xs (if mdepL xs = 0 then ρ else frz ρ (names it))
theorem exS_for (tg : Tg) (it : C) (b : List S) : exS G cf L ρ (.for_ tg it b) = onE (ev G cf ρ it) ρ (forS G cf ρ L tg it b) := by rw [exS] <;> rfl
@[simp] theorem exS_par (i j : Nat) (a b : C) : exS G cf L ρ (.par i j a b) = onE (evs G cf ρ [a, b]) ρ fun ps => onJ cf.io [i, j] (parD ρ i j ps (namesL [a, b])) := by rw [exS]
@[simp] theorem exS_app (i : Nat) (e : C) : exS G cf L ρ (.app i e) = match (ρ[i]?).bind id with
    | some (.lst _, _) => onE (ev G cf ρ e) ρ fun p => appD L ρ i p (names e)
    | _ => .bad := by rw [exS] <;> rfl
end
@[simp] theorem outS_nx (ρ : Env) : outS (.nx ρ) = .ok (.non, 9) := id rfl
@[simp] theorem outS_rt (p : D × Nat) (ρ : Env) : outS (.rt p ρ) = .ok p := id rfl
@[simp] theorem outS_exc (e : Exn) (ρ : Env) : outS (.exc e ρ) = .exc e := id rfl
@[simp] theorem outS_bad : outS .bad = .bad := id rfl
@[simp] theorem run_io (G : Glo) (P : Nat → Option Def) (k : Nat) : (run G P k).io = [] := id rfl
@[simp] theorem wio_io (R : Runs) (io : List Nat) : (R.wio io).io = io := id rfl
@[simp] theorem wio_pl (R : Runs) (io : List Nat) : (R.wio io).pl = R.pl := id rfl
@[simp] theorem wio_ci (R : Runs) (io : List Nat) : (R.wio io).ci = R.ci := id rfl
@[simp] theorem run_ci (G : Glo) (P : Nat → Option Def) (k : Nat) : (run G P k).ci = runI G P k := id rfl
@[simp] theorem onJ_nil (is : List Nat) (o : OS) : onJ [] is o = o := by simp [onJ, okJ]
/-! ### values -/
@[simp] theorem go_true {α : Type} (x : Option α) : go True x = x := by simp [go]
@[simp] theorem go_false {α : Type} (x : Option α) : go False x = none := by simp [go]
@[simp] theorem gd_true {α : Type} (x : Out α) : gd True x = x := by simp [gd]
@[simp] theorem gd_false {α : Type} (x : Out α) : gd False x = .bad := by simp [gd]
@[simp] theorem truth_bl (b : Bool) : truth (.bl b) = some b := id rfl
@[simp] theorem truth_non : truth .non = some false := id rfl
@[simp] theorem truth_int (i : Int) : truth (.int i) = some (i != 0) := id rfl
@[simp] theorem truth_lst (xs : List D) : truth (.lst xs) = some (!xs.isEmpty) := id rfl
@[simp] theorem truth_tup (xs : List D) : truth (.tup xs) = some (!xs.isEmpty) := id rfl
@[simp] theorem norm_str (s : Cs) (n : Nat) : norm (.str s, n) = (.str s, 9) := by simp [norm, D.mdep]
@[simp] theorem norm_int (i : Int) (n : Nat) : norm (.int i, n) = (.int i, 9) := by simp [norm, D.mdep]
@[simp] theorem norm_bl (b : Bool) (n : Nat) : norm (.bl b, n) = (.bl b, 9) := by simp [norm, D.mdep]
@[simp] theorem norm_non (n : Nat) : norm (.non, n) = (.non, 9) := by simp [norm, D.mdep]
@[simp] theorem norm_scr (ns : List Int) (n : Nat) : norm (.scr ns, n) = (.scr ns, 9) := by simp [norm, D.mdep]
@[simp] theorem norm_lst (xs : List D) (n : Nat) : norm (.lst xs, n) = (.lst xs, n) := by simp [norm, D.mdep]
@[simp] theorem norm_dct (ks xs : List D) (n : Nat) : norm (.dct ks xs, n) = (.dct ks xs, n) := by simp [norm, D.mdep]
@[simp] theorem full_str (s : Cs) (n : Nat) : full (.str s, n) = true := by simp [full, D.mdep]
@[simp] theorem full_int (i : Int) (n : Nat) : full (.int i, n) = true := by simp [full, D.mdep]
@[simp] theorem full_bl (b : Bool) (n : Nat) : full (.bl b, n) = true := by simp [full, D.mdep]
@[simp] theorem full_non (n : Nat) : full (.non, n) = true := by simp [full, D.mdep]
@[simp] theorem full_scr (ns : List Int) (n : Nat) : full (.scr ns, n) = true := by simp [full, D.mdep]
theorem bind_full {ρ : Env} {i : Nat} {p : D × Nat} {ns : List Nat} (h : full p = true) : bindV ρ i p ns = setV ρ i p := by unfold bindV; rw [if_pos h]
@[simp] theorem bind_str (ρ : Env) (i : Nat) (s : Cs) (n : Nat) (ns : List Nat) : bindV ρ i (.str s, n) ns = ρ.set i (some (.str s, 9)) := by rw [bind_full (by simp)]; simp [setV]
@[simp] theorem bind_int (ρ : Env) (i : Nat) (s : Int) (n : Nat) (ns : List Nat) : bindV ρ i (.int s, n) ns = ρ.set i (some (.int s, 9)) := by rw [bind_full (by simp)]; simp [setV]
@[simp] theorem bind_bl (ρ : Env) (i : Nat) (s : Bool) (n : Nat) (ns : List Nat) : bindV ρ i (.bl s, n) ns = ρ.set i (some (.bl s, 9)) := by rw [bind_full (by simp)]; simp [setV]
@[simp] theorem bind_non (ρ : Env) (i : Nat) (n : Nat) (ns : List Nat) : bindV ρ i (.non, n) ns = ρ.set i (some (.non, 9)) := by rw [bind_full (by simp)]; simp [setV]
@[simp] theorem put_str (ρ : Env) (i : Nat) (s : Cs) : Tg.put ρ (.one i) (.str s) = .ok (ρ.set i (some (.str s, 9))) := by simp [Tg.put, setV]
@[simp] theorem put_int (ρ : Env) (i : Nat) (s : Int) : Tg.put ρ (.one i) (.int s) = .ok (ρ.set i (some (.int s, 9))) := by simp [Tg.put, setV]
@[simp] theorem initE_eq (nl : Nat) (ds : List D) : initE nl ds = ds.map (fun d => some (norm (d, 0))) ++ List.replicate (nl - ds.length) none := id rfl
@[simp] theorem add_int (i j : Int) (m n : Nat) : binD .add (.int i, m) (.int j, n) = some (.int (i + j), 9) := id rfl
@[simp] theorem sub_int (i j : Int) (m n : Nat) : binD .sub (.int i, m) (.int j, n) = some (.int (i - j), 9) := id rfl
theorem mul_int {i j : Int} {m n : Nat} (h : mulOk i j) : binD .mul (.int i, m) (.int j, n) = some (.int (i * j), 9) := go_pos h
theorem mod_int {i j : Int} {m n : Nat} (h : 0 < j) : binD .mod (.int i, m) (.int j, n) = some (.int (i % j), 9) := by
  show go (j ≠ 0) _ = _
  rw [go_pos (by omega), Int.fmod_eq_emod_of_nonneg _ (by omega)]
theorem fdv_int {i j : Int} {m n : Nat} (h : 0 < j) (h2 : j < 1073741824) : binD .fdv (.int i, m) (.int j, n) = some (.int (i / j), 9) := by
  show go (j ≠ 0 ∧ _) _ = _
  rw [go_pos (by omega), Int.fdiv_eq_ediv_of_nonneg _ (by omega)]
theorem add_str {s t : Cs} {m n : Nat} (h : s.length + t.length ≤ SZ) : binD .add (.str s, m) (.str t, n) = some (.str (s ++ t), 9) := go_pos h
@[simp] theorem lt_int (i j : Int) : cmpD .lt (.int i) (.int j) = some (decide (i < j)) := id rfl
@[simp] theorem le_int (i j : Int) : cmpD .le (.int i) (.int j) = some (decide (i ≤ j)) := id rfl
@[simp] theorem gt_int (i j : Int) : cmpD .gt (.int i) (.int j) = some (decide (j < i)) := id rfl
@[simp] theorem ge_int (i j : Int) : cmpD .ge (.int i) (.int j) = some (decide (j ≤ i)) := id rfl
@[simp] theorem eq_int (i j : Int) : cmpD .eq (.int i) (.int j) = some (i == j) := by simp [cmpD, eqOk, pyEq, D.dep]
@[simp] theorem ne_int (i j : Int) : cmpD .ne (.int i) (.int j) = some (!(i == j)) := by simp [cmpD, eqOk, pyEq, D.dep]
@[simp] theorem eq_str (i j : Cs) : cmpD .eq (.str i) (.str j) = some (i == j) := by simp [cmpD, eqOk, pyEq, D.dep]
@[simp] theorem ne_str (i j : Cs) : cmpD .ne (.str i) (.str j) = some (!(i == j)) := by simp [cmpD, eqOk, pyEq, D.dep]
@[simp] theorem eq_bl (i j : Bool) : cmpD .eq (.bl i) (.bl j) = some (i == j) := by simp [cmpD, eqOk, pyEq, D.dep]
@[simp] theorem ne_bl (i j : Bool) : cmpD .ne (.bl i) (.bl j) = some (!(i == j)) := by simp [cmpD, eqOk, pyEq, D.dep]
@[simp] theorem lt_str (i j : Cs) : cmpD .lt (.str i) (.str j) = some (decide (i < j)) := id rfl
@[simp] theorem le_str (i j : Cs) : cmpD .le (.str i) (.str j) = some (!decide (j < i)) := id rfl
@[simp] theorem len_scr (ns : List Int) (n : Nat) : bifD .len [(.scr ns, n)] = some (.int ns.length, 9) := id rfl
@[simp] theorem len_lst (ns : List D) (n : Nat) : bifD .len [(.lst ns, n)] = some (.int ns.length, 9) := id rfl
@[simp] theorem len_tup (ns : List D) (n : Nat) : bifD .len [(.tup ns, n)] = some (.int ns.length, 9) := id rfl
theorem len_str {s : Cs} {n : Nat} (h : s.length ≤ SZ) : bifD .len [(.str s, n)] = some (.int s.length, 9) := go_pos h
@[simp] theorem ord_str (c n : Nat) : bifD .ord [(.str [c], n)] = some (.int c, 9) := id rfl
theorem sub_scr {ns : List Int} {i : Int} (h0 : 0 ≤ i) (h : i < ns.length) : subD (.scr ns) (.int i) = some (.int (ns.getD i.toNat 0), 9) := by
  have : i.toNat < ns.length := by omega
  simp [subD, at?, ix, h0, h, this]
theorem sub_str {s : Cs} {i : Int} (hl : s.length ≤ SZ) (h0 : 0 ≤ i) (h : i < s.length) : subD (.str s) (.int i) = some (.str [s.getD i.toNat 0], 9) := by
  have : i.toNat < s.length := by omega
  simp [subD, at?, ix, h0, h, this, go, hl]
@[simp] theorem lt1 (a b : Nat) : (([a] : Cs) < [b]) ↔ a < b := by
  rw [List.cons_lt_cons_iff]
  simp
@[simp] theorem le1 (a b : Nat) : (([a] : Cs) ≤ [b]) ↔ a ≤ b := by
  rw [← List.not_lt, lt1]; omega
@[simp] theorem castBeq (a b : Nat) : (((a : Nat) : Int) == ((b : Nat) : Int)) = (a == b) := by
  rw [Bool.eq_iff_iff, beq_iff_eq, beq_iff_eq]
  omega
theorem compL_map {f : D → Out (Option (D × Nat))} {h : D → D × Nat} : ∀ {xs : List D}, (∀ x ∈ xs, f x = .ok (some (h x))) → xs.length ≤ SZ → compL f xs = .ok (xs.map h)
  | [], _, _ => rfl
  | x :: xs, hf, hl => by
    rw [compL, hf x (by simp)]
    simp only
    rw [compL_map (fun y hy => hf y (by simp [hy])) (by simp at hl; omega)]
    simp only [Out.bind_ok, List.length_map]
    rw [gd_pos (by simpa using hl)]
    rfl
theorem compL_mp {α : Type} {f : D → Out (Option (D × Nat))} {g : α → D} {h : α → D × Nat} {l : List α} (hf : ∀ a ∈ l, f (g a) = .ok (some (h a))) (hl : l.length ≤ SZ) : compL f (l.map g) = .ok (l.map h) := by
  induction l with
  | nil => rfl
  | cons a l ih =>
    rw [List.map_cons, compL, hf a (by simp)]
    simp only
    rw [ih (fun b hb => hf b (by simp [hb])) (by simp at hl; omega)]
    simp only [Out.bind_ok, List.length_map]
    rw [gd_pos (by simpa using hl)]
    rfl
theorem strsOf_map (l : List Cs) : strsOf (l.map D.str) = some l := by
  induction l with
  | nil => rfl
  | cons s r ih => rw [List.map_cons, strsOf, ih]; rfl
theorem boolsOf_map (l : List Bool) : boolsOf (l.map D.bl) = some l := by
  induction l with
  | nil => rfl
  | cons s r ih => rw [List.map_cons, boolsOf, ih]; rfl
@[simp] theorem all_mp {α : Type} (p : α → Bool) (l : List α) (n : Nat) : bifD .all [(.lst (l.map fun a => D.bl (p a)), n)] = some (.bl (l.all p), 9) := by
  have : boolsOf (l.map fun a => D.bl (p a)) = some (l.map p) := by
    have := boolsOf_map (l.map p)
    rwa [List.map_map] at this
  simp only [bifD, this]
  simp
theorem joinL_nil : ∀ l : List Cs, TL.joinL [] l = l.flatten
  | [] => rfl
  | [p] => by simp [TL.joinL]
  | p :: q :: r => by
    show p ++ ([] ++ TL.joinL [] (q :: r)) = _
    rw [joinL_nil (q :: r)]; simp
theorem join_ok {s : Cs} {l : List Cs} {m n : Nat} (h : (l.map (·.length)).sum + l.length * s.length ≤ SZ) : methD .join (.str s, m) [(.lst (l.map D.str), n)] = some (.str (TL.joinL s l), 9) := by
  simp only [methD, seqOf, Option.bind_some, strsOf_map]
  rw [if_pos h]
theorem slc_to {s : Cs} {i : Int} (hl : s.length ≤ SZ) (h : 0 ≤ i) : slcD (.str s) none (some i) = some (.str (s.take i.toNat), 9) := by
  have : (sx s.length s.length (some i)) = min i.toNat s.length := by simp [sx, h]
  simp only [slcD, go_pos hl, cut, this]
  simp [sx, List.take_eq_take_iff]
theorem slc_from {s : Cs} {i : Int} (hl : s.length ≤ SZ) (h : 0 ≤ i) : slcD (.str s) (some i) none = some (.str (s.drop i.toNat), 9) := by
  have : (sx s.length 0 (some i)) = min i.toNat s.length := by simp [sx, h]
  simp only [slcD, go_pos hl, cut, this]
  have e : s.drop (min i.toNat s.length) = s.drop i.toNat := by
    by_cases hh : i.toNat ≤ s.length
    · rw [Nat.min_eq_left hh]
    · rw [Nat.min_eq_right (by omega), List.drop_length, List.drop_of_length_le (by omega)]
  rw [e, show sx s.length s.length none = s.length from rfl]
  rw [List.take_of_length_le (by rw [List.length_drop]; omega)]
theorem rng_nat {n : Nat} (h : n ≤ 1000000) : rngD [.int (n : Int)] = .ok ((List.range n).map fun (j : Nat) => D.int (j : Int)) := by
  simp only [rngD]
  rw [gd_pos (by omega)]
  simp [rangeD]
theorem flat1 {α β : Type} (f : α → β) (l : List α) : (l.map fun j => [f j]).flatten = l.map f := by
  induction l with
  | nil => rfl
  | cons a l ih => simp [ih]
/-- the signs of a row, as a text -/
theorem join1 {α : Type} (f : α → Nat) (l : List α) (m n : Nat) (h : l.length ≤ 1000000) : methD .join (.str [], m) [(.lst (l.map fun j => D.str [f j]), n)] = some (.str (l.map f), 9) := by
  have e := join_ok (s := []) (l := l.map fun j => [f j]) (m := m) (n := n) ?_
  · rw [List.map_map] at e
    rw [show (D.str ∘ fun j => [f j]) = fun j => D.str [f j] from rfl] at e
    rw [e, joinL_nil, flat1]
  · rw [List.map_map, show ((fun x : Cs => x.length) ∘ fun j => [f j]) = fun _ => 1 from rfl]
    rw [List.map_const', List.sum_replicate_nat]
    simp only [List.length_map, List.length_nil]
    unfold SZ
    omega
theorem dec_cast {p q : Prop} [Decidable p] [Decidable q] (h : p ↔ q) : decide p = decide q := decide_eq_decide.mpr h
theorem sub_lst {xs : List D} {i : Int} {d : D} (h0 : 0 ≤ i) (h : xs[i.toNat]? = some d) : subD (.lst xs) (.int i) = some (d, 0) := by
  have hl : i.toNat < xs.length := (List.getElem?_eq_some_iff.mp h).1
  have : i < xs.length := by omega
  simp only [subD, at?, ix, h0, this, if_true, Option.bind_some, h, Option.map_some]
theorem sub_tup {xs : List D} {i : Int} {d : D} (h0 : 0 ≤ i) (h : xs[i.toNat]? = some d) : subD (.tup xs) (.int i) = some (d, 0) := by
  have hl : i.toNat < xs.length := (List.getElem?_eq_some_iff.mp h).1
  have : i < xs.length := by omega
  simp only [subD, at?, ix, h0, this, if_true, Option.bind_some, h, Option.map_some]
/-- a comprehension whose values are known to be there -/
theorem compL_ex {α : Type} {f : D → Out (Option (D × Nat))} {g : α → D} {P : α → D × Nat → Prop} : ∀ {l : List α}, (∀ a ∈ l, ∃ y, f (g a) = .ok (some y) ∧ P a y) → l.length ≤ SZ → ∃ h : List (D × Nat), compL f (l.map g) = .ok h ∧ h.length = l.length ∧ ∀ (i : Nat) (a : α) (y : D × Nat), l[i]? = some a → h[i]? = some y → P a y
  | [], _, _ => ⟨[], rfl, rfl, by simp⟩
  | a :: l, hf, hl => by
    obtain ⟨y, h1, h2⟩ := hf a (by simp)
    obtain ⟨h, h3, h4, h5⟩ := compL_ex (l := l) (fun b hb => hf b (by simp [hb])) (by simp at hl; omega)
    refine ⟨y :: h, ?_, by simp [h4], fun i b z hb hz => ?_⟩
    · rw [List.map_cons, compL, h1]
      simp only
      rw [h3]
      simp only [Out.bind_ok]
      rw [gd_pos (by rw [h4]; simpa using hl)]
    · cases i with
      | zero => simp at hb hz; subst hb; subst hz; exact h2
      | succ i => exact h5 i b z (by simpa using hb) (by simpa using hz)
/-- with a test: some are kept -/
theorem compL_if {α : Type} {f : D → Out (Option (D × Nat))} {g : α → D} {p : α → Bool} {h : α → D × Nat} {l : List α} (hf : ∀ a ∈ l, f (g a) = .ok (if p a = true then some (h a) else none)) (hl : l.length ≤ SZ) : compL f (l.map g) = .ok ((l.filter p).map h) := by
  induction l with
  | nil => rfl
  | cons a l ih =>
    have ih := ih (fun b hb => hf b (by simp [hb])) (by simp at hl; omega)
    rw [List.map_cons, compL, hf a (by simp)]
    cases hp : p a with
    | true =>
      simp only [if_true]
      rw [ih]
      simp only [Out.bind_ok, List.length_map]
      rw [gd_pos (by have := List.length_filter_le p l; simp at hl; omega), List.filter_cons_of_pos hp]
      rfl
    | false =>
      simp only [Bool.false_eq_true, if_false]
      rw [ih, List.filter_cons_of_neg (by simp [hp])]
theorem forL_inv {f : Env → D → OS} {I : Env → Prop} : ∀ {xs : List D}, (∀ x ∈ xs, ∀ ρ, I ρ → ∃ ρ', f ρ x = .nx ρ' ∧ I ρ') → ∀ ρ, I ρ → ∃ ρ', forL f xs ρ = .nx ρ' ∧ I ρ'
  | [], _, ρ, h => ⟨ρ, rfl, h⟩
  | x :: xs, hf, ρ, h => by
    obtain ⟨ρ1, h1, h2⟩ := hf x (by simp) ρ h
    obtain ⟨ρ2, h3, h4⟩ := forL_inv (xs := xs) (fun y hy => hf y (by simp [hy])) ρ1 h2
    exact ⟨ρ2, by rw [forL, h1]; exact h3, h4⟩
theorem split_ok {s p : Cs} {m n : Nat} (h1 : p ≠ []) (h2 : p.all (· < 256) = true) (h3 : s.length + 2 ≤ SZ) : methD .split (.str s, m) [(.str p, n)] = some (.lst ((TL.spl p 0 [] s).map .str), 9) := go_pos ⟨h1, h2, h3⟩
theorem part_ok {s p : Cs} {m n : Nat} (h1 : p ≠ []) (h3 : s.length ≤ SZ) : methD .partition (.str s, m) [(.str p, n)] = (match TL.par p [] s with
    | some (a, b) => some (.tup [.str a, .str p, .str b], 9)
    | none => some (.tup [.str s, .str [], .str []], 9)) := go_pos ⟨h1, h3⟩
/-- one sign in a text -/
theorem findC1 (c : Nat) : ∀ (t : Cs) (k : Nat), (findC [c] k t).isSome = t.contains c
  | [], k => by simp [findC]
  | d :: t, k => by
    rw [findC]
    by_cases h : c = d
    · subst h; simp [List.isPrefixOf]
    · have h' : ¬ d = c := fun e => h e.symm
      have : ([c] : Cs).isPrefixOf (d :: t) = false := by simp [List.isPrefixOf, h]
      rw [this]
      simp only [Bool.false_eq_true, if_false]
      rw [findC1 c t (k + 1)]
      simp [h, h']
theorem in_str1 (c : Nat) (t : Cs) : cmpD .isin (.str [c]) (.str t) = some (t.contains c) := by
  simp only [cmpD, inD]
  rw [findC1]
theorem eqOkL_strs (l : List Cs) : eqOkL (l.map D.str) = true := by
  induction l with
  | nil => rfl
  | cons s r ih => rw [List.map_cons, eqOkL, ih]; rfl
theorem any_strs (s : Cs) (l : List Cs) : (l.map D.str).any (fun y => pyEq y (.str s)) = l.contains s := by
  induction l with
  | nil => rfl
  | cons t r ih =>
    rw [List.map_cons, List.any_cons, ih, List.contains_cons]
    congr 1
    show (t == s) = (s == t)
    rw [Bool.eq_iff_iff, beq_iff_eq, beq_iff_eq]
    exact eq_comm
theorem in_strs (s : Cs) (l : List Cs) : cmpD .isin (.str s) (.lst (l.map D.str)) = some (l.contains s) := by
  simp only [cmpD, inD]
  rw [go_pos ⟨rfl, eqOkL_strs l, by rw [show (D.str s).dep = 0 from rfl]; omega⟩, any_strs]
theorem notin_tup (s : Cs) (l : List Cs) : cmpD .notin (.str s) (.tup (l.map D.str)) = some (!l.contains s) := by
  simp only [cmpD, inD]
  rw [go_pos ⟨rfl, eqOkL_strs l, by rw [show (D.str s).dep = 0 from rfl]; omega⟩, any_strs]
  rfl
@[simp] theorem mdepL_nil : mdepL [] = 0 := by rw [mdepL]
@[simp] theorem mdepL_cons (d : D) (r : List D) : mdepL (d :: r) = max d.mdep (mdepL r) := by rw [mdepL]
@[simp] theorem mdep_non : D.mdep .non = 0 := by rw [D.mdep] <;> simp
@[simp] theorem mdep_bl (b : Bool) : D.mdep (.bl b) = 0 := by rw [D.mdep] <;> simp
@[simp] theorem mdep_int (b : Int) : D.mdep (.int b) = 0 := by rw [D.mdep] <;> simp
@[simp] theorem mdep_str (b : Cs) : D.mdep (.str b) = 0 := by rw [D.mdep] <;> simp
@[simp] theorem mdep_scr (b : List Int) : D.mdep (.scr b) = 0 := by rw [D.mdep] <;> simp
@[simp] theorem mdep_tup (b : List D) : D.mdep (.tup b) = mdepL b := by rw [D.mdep]
@[simp] theorem mdep_lst (b : List D) : D.mdep (.lst b) = mdepL b + 1 := by rw [D.mdep]
@[simp] theorem mdep_dct (k b : List D) : D.mdep (.dct k b) = mdepL b + 1 := by rw [D.mdep]
@[simp] theorem lvL_nil : lvL [] = 9 := by rw [lvL]
@[simp] theorem lvL_cons (d : D) (n : Nat) (r : List (D × Nat)) : lvL ((d, n) :: r) = if d.mdep = 0 then lvL r else min n (lvL r) := by rw [lvL]
theorem bind_tup {ρ : Env} {i n : Nat} {xs : List D} {ns : List Nat} (h : mdepL xs = 0) : bindV ρ i (.tup xs, n) ns = ρ.set i (some (.tup xs, 9)) := by
  rw [bind_full (by simp [full, h])]; simp [setV, norm, h]
theorem bind_lst {ρ : Env} {i n : Nat} {xs : List D} {ns : List Nat} (h : mdepL xs + 1 ≤ n) : bindV ρ i (.lst xs, n) ns = ρ.set i (some (.lst xs, n)) := by
  rw [bind_full (by simp [full]; omega)]; simp [setV]
@[simp] theorem sub_tup0 (x : D) (r : List D) : subD (.tup (x :: r)) (.int 0) = some (x, 0) := sub_tup (by omega) rfl
@[simp] theorem sub_tup1 (x y : D) (r : List D) : subD (.tup (x :: y :: r)) (.int 1) = some (y, 0) := sub_tup (by omega) rfl
@[simp] theorem sub_tup2 (x y z : D) (r : List D) : subD (.tup (x :: y :: z :: r)) (.int 2) = some (z, 0) := sub_tup (by omega) rfl
@[simp] theorem sub_lst0 (x : D) (r : List D) : subD (.lst (x :: r)) (.int 0) = some (x, 0) := sub_lst (by omega) rfl
@[simp] theorem sub_lst1 (x y : D) (r : List D) : subD (.lst (x :: y :: r)) (.int 1) = some (y, 0) := sub_lst (by omega) rfl
@[simp] theorem sub_lst2 (x y z : D) (r : List D) : subD (.lst (x :: y :: z :: r)) (.int 2) = some (z, 0) := sub_lst (by omega) rfl
@[simp] theorem isiOk_str (s : Cs) (k : IK) (h : ikOk k = true) : isiOk (.str s) k = true := by cases k <;> first | rfl | cases h
@[simp] theorem isiOk_bl (s : Bool) (k : IK) (h : ikOk k = true) : isiOk (.bl s) k = true := by cases k <;> first | rfl | cases h
@[simp] theorem isiOk_int (s : Int) (k : IK) (h : ikOk k = true) : isiOk (.int s) k = true := by cases k <;> first | rfl | cases h
@[simp] theorem isiOk_non (k : IK) (h : ikOk k = true) : isiOk .non k = true := by cases k <;> first | rfl | cases h
@[simp] theorem isiOk_tup (s : List D) (k : IK) (h : ikOk k = true) : isiOk (.tup s) k = true := by cases k <;> first | rfl | cases h
@[simp] theorem isiOk_lst (s : List D) (k : IK) (h : ikOk k = true) : isiOk (.lst s) k = true := by cases k <;> first | rfl | cases h
@[simp] theorem isiOk_dct (s t : List D) (k : IK) (h : ikOk k = true) : isiOk (.dct s t) k = true := by cases k <;> first | rfl | cases h
@[simp] theorem ik_str : ikOk .str = true := id rfl
@[simp] theorem ik_int : ikOk .int = true := id rfl
@[simp] theorem ik_bool : ikOk .bool = true := id rfl
@[simp] theorem ik_tuple : ikOk .tuple = true := id rfl
@[simp] theorem ik_list : ikOk .list = true := id rfl
@[simp] theorem ik_dict : ikOk .dict = true := id rfl
section
variable (cm : Nat → List Nat)
@[simp] theorem isa_bl_bool (b : Bool) : isaD cm (.bl b) .bool = true := id rfl
@[simp] theorem isa_bl_int (b : Bool) : isaD cm (.bl b) .int = true := id rfl
@[simp] theorem isa_bl_str (b : Bool) : isaD cm (.bl b) .str = false := id rfl
@[simp] theorem isa_bl_tup (b : Bool) : isaD cm (.bl b) .tuple = false := id rfl
@[simp] theorem isa_bl_lst (b : Bool) : isaD cm (.bl b) .list = false := id rfl
@[simp] theorem isa_int_bool (b : Int) : isaD cm (.int b) .bool = false := id rfl
@[simp] theorem isa_int_int (b : Int) : isaD cm (.int b) .int = true := id rfl
@[simp] theorem isa_int_str (b : Int) : isaD cm (.int b) .str = false := id rfl
@[simp] theorem isa_int_tup (b : Int) : isaD cm (.int b) .tuple = false := id rfl
@[simp] theorem isa_str_bool (b : Cs) : isaD cm (.str b) .bool = false := id rfl
@[simp] theorem isa_str_int (b : Cs) : isaD cm (.str b) .int = false := id rfl
@[simp] theorem isa_str_str (b : Cs) : isaD cm (.str b) .str = true := id rfl
@[simp] theorem isa_str_tup (b : Cs) : isaD cm (.str b) .tuple = false := id rfl
@[simp] theorem isa_str_lst (b : Cs) : isaD cm (.str b) .list = false := id rfl
@[simp] theorem isa_lst_lst (b : List D) : isaD cm (.lst b) .list = true := id rfl
@[simp] theorem isa_lst_str (b : List D) : isaD cm (.lst b) .str = false := id rfl
@[simp] theorem isa_tup_str (b : List D) : isaD cm (.tup b) .str = false := id rfl
@[simp] theorem isa_tup_tup (b : List D) : isaD cm (.tup b) .tuple = true := id rfl
@[simp] theorem isa_tup_lst (b : List D) : isaD cm (.tup b) .list = false := id rfl
@[simp] theorem isa_non_str : isaD cm .non .str = false := id rfl
end
@[simp] theorem isnot_non (d : D) : cmpD .isnot d .non = (match d with | .hol => none | .non => some false | _ => some true) := by cases d <;> rfl
@[simp] theorem is_non (d : D) : cmpD .is_ d .non = (match d with | .hol => none | .non => some true | _ => some false) := by cases d <;> rfl
theorem ne_bb (p q r s : Bool) : cmpD .ne (.tup [.bl p, .bl q]) (.tup [.bl r, .bl s]) = some (!(p == r && q == s)) := by
  cases p <;> cases q <;> cases r <;> cases s <;> rfl
section
variable {α : Type}
theorem mdepL_map (f : α → D) (l : List α) (h : ∀ a, (f a).mdep = 0) : mdepL (l.map f) = 0 := by
  induction l with
  | nil => simp
  | cons a l ih => simp [ih, h]
theorem lvL_map (f : α → D) (n : Nat) (l : List α) (h : ∀ a, (f a).mdep = 0) : lvL (l.map fun a => (f a, n)) = 9 := by
  induction l with
  | nil => simp
  | cons a l ih => simp [ih, h]
@[simp] theorem mdepL_mapS (f : α → Cs) (l : List α) : mdepL (l.map fun a => D.str (f a)) = 0 := mdepL_map _ l fun _ => by simp
@[simp] theorem mdepL_mapI (f : α → Int) (l : List α) : mdepL (l.map fun a => D.int (f a)) = 0 := mdepL_map _ l fun _ => by simp
@[simp] theorem mdepL_mapB (f : α → Bool) (l : List α) : mdepL (l.map fun a => D.bl (f a)) = 0 := mdepL_map _ l fun _ => by simp
@[simp] theorem lvL_mapS (f : α → Cs) (n : Nat) (l : List α) : lvL (l.map fun a => (D.str (f a), n)) = 9 := lvL_map _ n l fun _ => by simp
@[simp] theorem lvL_mapI (f : α → Int) (n : Nat) (l : List α) : lvL (l.map fun a => (D.int (f a), n)) = 9 := lvL_map _ n l fun _ => by simp
@[simp] theorem lvL_mapB (f : α → Bool) (n : Nat) (l : List α) : lvL (l.map fun a => (D.bl (f a), n)) = 9 := lvL_map _ n l fun _ => by simp
end
end Vy

namespace Vy
open PySem PySem.Spec
open PyProof.Rows hiding St
open L2
section
variable {X : Cx} {nm : Nm} {G : Glo} {CA : Nat → Addr} {cf : Runs} {W : WX}
theorem hold_ints {h : Heap} : ∀ {ns : List Int} {its : List Value}, Vals (ns.map V.int) its → PySem.W.HoldAll h its ns
  | [], its, r => by cases r; exact PySem.W.HoldAll.nil
  | n :: ns, its, r => by
    rw [List.map_cons] at r
    cases r with
    | cons p q =>
      obtain ⟨t, rfl⟩ := p
      exact PySem.W.HoldAll.cons ⟨_, .int n t⟩ (hold_ints q)
theorem hold_strs {h : Heap} : ∀ {ns : List Str} {its : List Value}, Vals (ns.map V.str) its → PySem.W.HoldAll h its ns
  | [], its, r => by cases r; exact PySem.W.HoldAll.nil
  | n :: ns, its, r => by
    rw [List.map_cons] at r
    cases r with
    | cons p q =>
      obtain ⟨t, rfl⟩ := p
      exact PySem.W.HoldAll.cons ⟨_, .str n t⟩ (hold_strs q)
theorem maxOf_I : ∀ (ns : List Int) (n : Int), PySem.W.maxOf n ns = maxI n ns
  | [], n => rfl
  | m :: ns, n => by
    show PySem.W.maxOf (if PySem.W.DatumOrd.lt n m = true then m else n) ns = _
    rw [maxOf_I ns, maxI]
    congr 1
    have : PySem.W.DatumOrd.lt n m = decide (n < m) := rfl
    rw [this]
    by_cases h : n < m <;> simp [h]
theorem cr_maxDef {k : Nat} (hc : X.calm = true) (hr : Room k X.A) : CallRK X (.builtin "max") [Str.ofString "default"] (fun vs zs H Q => ∃ (a : Addr) (ns : List Int) (i : Int), vs = [V.ref a] ∧ zs = [V.int i] ∧ SqL X.K H a (ns.map V.int) ∧ Q (.int (match ns with | [] => i | n :: r => maxI n r)) H) := by
  intro pins s σ H vs zs us ws Q I r rz ⟨a, ns, i, e1, e2, hs, q⟩
  subst e1; subst e2
  obtain ⟨its, rv, hl, _⟩ := I.list hs
  rw [Vals.ref1 r]
  obtain ⟨w, rfl, t, rfl⟩ : ∃ w, ws = [w] ∧ RelV (V.int i) w := by
    cases rz with
    | cons p q => cases q; exact ⟨_, rfl, p⟩
  refine PySem.W.max_list_datum_default (α := Int) (I.ok.hd hc) hl.isList (hold_ints (by simpa using rv)) ?_ (fun e h' tk hk => ?_) fun y ys j v h' tk e hj hv hk => ?_
  · have := hr.un
    show X.A.units + 1 + 0 < cLine
    omega
  · subst e
    exact ⟨.int i, H, I.kept hk, ⟨t, rfl⟩, q⟩
  · subst e
    rw [maxOf_I] at hv
    obtain ⟨as, hv⟩ := hv
    have : ∃ t, v = .int (maxI y ys) t := by
      generalize hd : (PySem.W.Datum.toD (maxI y ys) : PyData) = d at hv
      cases hv <;> first | (cases hd; exact ⟨_, rfl⟩) | cases hd
    obtain ⟨t', rfl⟩ := this
    exact ⟨.int (maxI y ys), H, I.kept hk, ⟨t', rfl⟩, q⟩
/-- max(e, default=0) -/
theorem e_maxd {np : Nat → Option Nat} {bl : List Str} {c : C} {e : Expr} {j : Nat} {p kp kpos pos : Pos} (cx : CtxOk X nm G CA cf np bl) (hb : ("max" : Str) ∈ bl) (hg : Gl X "max") (he : PE X e (tE X G CA cf W c)) (hs : noStar e = true) :
    PE X (.Call (.Name "max" p) [e] [⟨some "default", .Constant (.int 0) j kp, kpos⟩] pos) (tE X G CA cf W (.bif .maxd [c])) := by
  obtain ⟨k, hr, _⟩ := cx.lev
  have hs1 : [e].all noStar = true := by simp [hs]
  refine PE.weak (pe_callBK (cr_maxDef cx.calm hr) hg (cx.blt _ hb) (by decide +kernel) (a_cons he a_nil (star_cons hs)) (pk_cons pe_int pk_nil) (by decide) (by decide) (by rw [star_cons hs]; rfl) (back_any hs1) rfl rfl rfl) fun σ H Q ⟨S, sr, h⟩ => ?_
  rw [ev] at h
  refine ⟨S, sr, DenL.seq (Same.refl H) h fun ps vs H2 O Z e1 s2 pv hd => ?_⟩
  obtain ⟨z, hz, hd⟩ := Den.ofv hd
  have hp : ∃ q, ps = [q] := by
    simp only [evs] at e1
    obtain ⟨q, _, e1⟩ := Out.bind_eq_ok e1
    obtain ⟨l, e3, e1⟩ := Out.bind_eq_ok e1
    cases e3; cases e1
    exact ⟨q, rfl⟩
  obtain ⟨⟨d, n⟩, rfl⟩ := hp
  obtain ⟨v, rfl, pv1⟩ := pv.one_inv
  obtain ⟨xs, rfl⟩ : ∃ xs, d = .lst xs := by
    cases d <;> first | (cases hz; done) | exact ⟨_, rfl⟩
  have hz : (match intsOf xs with | some (i :: is) => some (D.int (maxI i is), 9) | some [] => some (D.int 0, 9) | _ => none) = some z := hz
  obtain ⟨a, vs, Z0, rfl, h1, r, _⟩ := pv1.lst_inv
  cases hi : intsOf xs with
  | none => rw [hi] at hz; cases hz
  | some l =>
    rw [hi] at hz
    have hl := int_list r hi
    subst hl
    cases l with
    | nil => cases hz; exact ⟨a, [], 0, rfl, rfl, .of h1, hd.val s2 (.int _)⟩
    | cons i is => cases hz; exact ⟨a, i :: is, 0, rfl, rfl, .of h1, hd.val s2 (.int _)⟩
theorem x_maxd {sc : Scope} {np : Nat → Option Nat} {bl : List Str} {c : C} {e : Expr} {j : Nat} {p kp kpos pos : Pos} (B : En sc X nm G CA cf np bl W) (hb : bl.contains ("max" : Str) = true) (hg : gloB sc "max" = true) (hs : noStar e = true) (he : PE X e (tE X G CA cf W c)) :
    PE X (.Call (.Name "max" p) [e] [⟨some "default", .Constant (.int 0) j kp, kpos⟩] pos) (tE X G CA cf W (.bif .maxd [c])) := e_maxd B.cx (by simpa using hb) (B.gl hg) he hs
end
section
variable {X : Cx} {nm : Nm} {G : Glo} {CA : Nat → Addr} {cf : Runs} {W : WX} {L : List Nat}
theorem setR_len {S : Slots} {i : Nat} {d : D} {n : Nat} {v : V} {O Z : List Addr} : (setR S i d n v O Z).length = S.length := by unfold setR; simp
/-- a, b = x, y -/
theorem s_par {i j : Nat} {x y : Str} {a b : C} {ea eb : Expr} {px py pt pt2 pos : Pos} {kt k2 : Nat} (hc : X.calm = true) (hN : X.N.Nodup) (hi : X.N[i]? = some x) (hj : X.N[j]? = some y) (hij : i ≠ j) (hx : X.env.scope.names.lookup x = some .local) (hy : X.env.scope.names.lookup y = some .local)
    (ha : PA X [ea, eb] (tL X G CA cf W [a, b])) (hw : swappedStores [.Tuple [.Name x px, .Name y py] kt pt] (.Tuple [ea, eb] k2 pt2) X.env = pure (some [x, y])) :
    PS X (.Assign [.Tuple [.Name x px, .Name y py] kt pt] (.Tuple [ea, eb] k2 pt2) pos) (tS X G CA cf W L (.par i j a b)) := ⟨fun pins s σ H D I ⟨S, sr, fr, h⟩ => (ps_par hc hN hi hj hij hx hy ha hw rfl).run pins s σ H D I (by
  have hil : i < S.length := by rw [sr.len, I.len]; exact (List.getElem?_eq_some_iff.mp hi).1
  have hjl : j < S.length := by rw [sr.len, I.len]; exact (List.getElem?_eq_some_iff.mp hj).1
  rw [exS] at h
  refine ⟨S, sr, ?_⟩
  cases e : evs G cf (envOf S) [a, b] with
  | exc z => rw [e] at h; exact fun cls dd H' s x => h S σ H' cls dd (sr.same s) fr (Step.same s) rfl x
  | bad => rw [e] at h; exact h.elim
  | ok ps =>
    rw [e] at h
    intro vs H1 O Z sm pv
    have hp : ∃ p q, ps = [p, q] := by
      simp only [evs] at e
      obtain ⟨p, _, e⟩ := Out.bind_eq_ok e
      obtain ⟨l, e3, e⟩ := Out.bind_eq_ok e
      obtain ⟨q, _, e3⟩ := Out.bind_eq_ok e3
      cases e3; cases e
      exact ⟨p, q, rfl⟩
    obtain ⟨p, q, rfl⟩ := hp
    cases pv with
    | @cons _ v O1 Z1 _ vs' O2 Z2 p1 pr d1 d2 =>
    obtain ⟨w, rfl, p2⟩ := pr.one_inv
    refine ⟨v, w, rfl, ?_⟩
    obtain ⟨hJ, h⟩ := DenS.onJ (show DenS X.K CA W cf.io L S H (onJ cf.io [i, j] (parD (envOf S) i j [p, q] (namesL [a, b]))) D from h)
    have h : DenS X.K CA W cf.io L S H (.nx (setV (setV (if full p = true ∧ full q = true then envOf S else frz (envOf S) (namesL [a, b])) i p) j q)) D := h
    have fin : ∀ S1, SRep X.K CA S1 σ H → Fr S1 → S1.length = S.length → (∀ j a, OwnAt S1 j a → OwnAt S j a) → (∀ a, Any S1 a → Any S a) → (∀ a ∈ Z1, ¬ Own S1 a) → (∀ a ∈ Z2, ¬ Own S1 a) → (∀ (j : Nat) (r' : Root), S1[j]? = some (some r') → ∃ r : Root, S[j]? = some (some r) ∧ r.v = r'.v) → DenS X.K CA W cf.io L S H (.nx (setV (setV (envOf S1) i p) j q)) D → D.nx ((σ.set i (some v)).set j (some w)) H1 := by
      intro S1 sr1 f1 l1 ow an z1 z2 pin hd
      have any1 : ∀ a (k : Nat) (r : Root), S1[k]? = some (some r) → a ∈ r.O ++ r.Z → H a ≠ none := fun a k r e q => sr1.any ⟨k, r, e, q⟩
      have f2 : Fr (setR S1 i p.1 p.2 v O1 Z1) := f1.setR p1.nd p1.zo (fun a ha k r _ e q => any1 a k r e q (p1.fresh a ha)) fun a ha k _ w => z1 a ha w.own
      have sr2 : SRep X.K CA (setR S1 i p.1 p.2 v O1 Z1) (σ.set i (some v)) H1 := (sr1.same sm).setR p1.rep (by rw [l1]; exact hil)
      have f3 : Fr (setR (setR S1 i p.1 p.2 v O1 Z1) j q.1 q.2 w O2 Z2) := f2.setR p2.nd p2.zo (fun a ha k r _ e q => by
        rcases setR_some e with ⟨_, e1, e2⟩ | ⟨_, e1⟩
        · rw [e1, e2] at q; exact d1 a ha q
        · exact any1 a k r e1 q (p2.fresh a ha)) fun a ha k _ w => by
        rcases setR_own w with ⟨_, z⟩ | ⟨_, z⟩
        · exact d2 a z ha
        · exact z2 a ha z.own
      have sr3 := sr2.setR p2.rep (i := j) (by rw [setR_len, l1]; exact hjl)
      refine hd _ _ H1 sr3 f3 ⟨fun a o e _ => sm a o e, fun a h => same_there sm h, fun k a h => ?_, fun a h => ?_, fun k hk r' h => ?_⟩ (by rw [envOf_setR, envOf_setR])
      · rcases setR_own h with ⟨_, z⟩ | ⟨_, z⟩
        · exact .inr (.inr (p2.fresh a z))
        · rcases setR_own z with ⟨_, z⟩ | ⟨_, z⟩
          · exact .inr (.inr (p1.fresh a z))
          · exact .inl (ow k a z)
      · rcases setR_any h with z | z
        · rcases List.mem_append.mp z with z | z
          · exact .inr (p2.fresh a z)
          · exact (p2.zin a z).elim .inr fun w => .inl w.any
        · rcases setR_any z with z | z
          · rcases List.mem_append.mp z with z | z
            · exact .inr (p1.fresh a z)
            · exact (p1.zin a z).elim .inr fun w => .inl w.any
          · exact .inl (an a z)
      · rcases setR_some h with ⟨z, _⟩ | ⟨_, z⟩
        · exact absurd hk (z ▸ hJ j (by simp))
        · rcases setR_some z with ⟨z, _⟩ | ⟨_, z⟩
          · exact absurd hk (z ▸ hJ i (by simp))
          · exact pin k r' z
    by_cases hf : full p = true ∧ full q = true
    · rw [if_pos hf] at h
      have y1 : Z1 = [] := p1.rep.full (by simpa [full] using hf.1)
      have y2 : Z2 = [] := p2.rep.full (by simpa [full] using hf.2)
      exact fin S sr fr rfl (fun _ _ h => h) (fun _ h => h) (by rw [y1]; simp) (by rw [y2]; simp) (fun j r h => ⟨r, h, rfl⟩) h
    · rw [if_neg hf] at h
      obtain ⟨S1, sr1, f1, z⟩ := frz_ok (namesL [a, b]) sr fr
      rw [← z.env] at h
      have nn : ∀ (Z : List Addr), (∀ a' ∈ Z, H a' = none ∨ Nod S (namesL [a, b]) a') → ∀ a' ∈ Z, ¬ Own S1 a' := fun Z hz a' ha w => by
        rcases hz a' ha with q | q
        · exact sr1.own w q
        · exact z.free fr q w
      exact fin S1 sr1 f1 z.len z.own (fun a ⟨k, r, e, q⟩ => let ⟨r0, h1, h2⟩ := z.any k r e; ⟨k, r0, h1, h2 a q⟩) (nn Z1 p1.zin) (nn Z2 p2.zin) z.pin h)⟩
theorem sw_par {x y : Str} {ea eb : Expr} {px py pt pt2 : Pos} {kt k2 : Nat} {env : PySem.Env} (hk : env.scope.kind = .function) (hx : env.scope.names.lookup x = some .local) (hy : env.scope.names.lookup y = some .local) (hl : (py.line == px.line) = true) (hxy : (x == y) = false)
    (h1 : noStar ea = true) (h2 : noStar eb = true) (h3 : [ea, eb].all (foldedForSure 8) = false) (h4 : [ea, eb].all (constantsAlone 8) = false) : swappedStores [.Tuple [.Name x px, .Name y py] kt pt] (.Tuple [ea, eb] k2 pt2) env = pure (some [x, y]) := by
  have kx : env.kindOf x = some .local := hx
  have ky : env.kindOf y = some .local := hy
  have hb : env.blockKind = .function := by unfold Env.blockKind; rw [hk]; rfl
  have hxy' : (y == x) = false := by
    rw [beq_eq_false_iff_ne] at hxy ⊢
    exact fun e => hxy e.symm
  have hl' : py.line = px.line := by simpa using hl
  have xy' : ¬ y = x := by simpa using hxy'
  unfold swappedStores
  simp [hb, kx, ky, hl', h3, h4, Expr.pos, List.eraseDups_cons, hxy, hxy', List.filterMap_cons, xy']
  intro h
  rcases h with h | h
  · cases ea <;> first | (cases h1; done) | (cases h; done)
  · cases eb <;> first | (cases h2; done) | (cases h; done)
theorem z_par {sc : Scope} {np : Nat → Option Nat} {bl : List Str} (B : En sc X nm G CA cf np bl W) (hk : X.env.scope.kind = .function) (i j : Nat) {x y : Str} {a b : C} {ea eb : Expr} {px py pt pt2 pos : Pos} {kt k2 : Nat} (hi : nm.N[i]? = some x) (hj : nm.N[j]? = some y) (hij : i ≠ j) (hx : sc.names.lookup x = some .local) (hy : sc.names.lookup y = some .local)
    (hl : (py.line == px.line) = true) (hxy : (x == y) = false) (h1 : noStar ea = true) (h2 : noStar eb = true) (h3 : [ea, eb].all (foldedForSure 8) = false) (h4 : [ea, eb].all (constantsAlone 8) = false) (ha : PA X [ea, eb] (tL X G CA cf W [a, b])) :
    PS X (.Assign [.Tuple [.Name x px, .Name y py] kt pt] (.Tuple [ea, eb] k2 pt2) pos) (tS X G CA cf W L (.par i j a b)) :=
  s_par B.cx.calm B.cx.nd (by rw [B.cx.N]; exact hi) (by rw [B.cx.N]; exact hj) hij (B.so.loc x hx) (B.so.loc y hy) ha (sw_par hk (B.so.loc x hx) (B.so.loc y hy) hl hxy h1 h2 h3 h4)
end
end Vy

namespace Vy
open PySem PySem.Spec
open PyProof.Rows hiding St
open L2
section
variable {X : Cx}
theorem minOf_S : ∀ (ns : List Cs) (n : Cs), PySem.W.minOf (mkS n) (ns.map mkS) = mkS (minS n ns)
  | [], n => rfl
  | m :: ns, n => by
    show PySem.W.minOf (if PySem.W.DatumOrd.lt (mkS m) (mkS n) = true then mkS m else mkS n) (ns.map mkS) = _
    have : PySem.W.DatumOrd.lt (mkS m) (mkS n) = decide (m < n) := by
      show decide ((mkS m).cps.toList < (mkS n).cps.toList) = _
      rw [mkS_tl, mkS_tl]
    rw [this, minS]
    by_cases h : m < n
    · simp only [h, decide_true, if_true]; exact minOf_S ns m
    · simp only [h, decide_false, Bool.false_eq_true, if_false]; exact minOf_S ns n
/-- the least of texts -/
theorem cr_minS {k : Nat} (hc : X.calm = true) (hr : Room k X.A) : CallR X (.builtin "min") (fun vs H Q => ∃ (a : Addr) (n : Cs) (ns : List Cs), vs = [V.ref a] ∧ (SqL X.K H a ((n :: ns).map fun s => V.str (mkS s)) ∨ SqT X.K H a ((n :: ns).map fun s => V.str (mkS s))) ∧ Q (.str (mkS (minS n ns))) H) := by
  intro pins s σ H vs us Q I r ⟨a, n, ns, e, h, q⟩
  subst e
  rw [Vals.ref1 r]
  have hu : X.A.units + 1 + 0 < cLine := by have := hr.un; omega
  have hm : ((n :: ns).map fun s => V.str (mkS s)) = (mkS n :: ns.map mkS).map V.str := by simp [Function.comp_def]
  have fin : ∀ (v : Value) (h' : Heap) (tk : Nat), PySem.W.Holds h' v (PySem.W.minOf (mkS n) (ns.map mkS)) → (∀ b o, s.heap.get? b = some o → h'.get? b = some o) → EP X pins σ Q v { s with heap := h', toks := tk } := fun v h' tk hv hk => by
    rw [minOf_S] at hv
    obtain ⟨as, hv⟩ := hv
    have : ∃ t, v = .str (mkS (minS n ns)) t := by
      generalize hd : (PySem.W.Datum.toD (mkS (minS n ns)) : PyData) = d at hv
      cases hv <;> first | (cases hd; exact ⟨_, rfl⟩) | cases hd
    obtain ⟨t', rfl⟩ := this
    exact ⟨.str (mkS (minS n ns)), H, I.kept hk, ⟨t', rfl⟩, q⟩
  rcases h with h | h
  · obtain ⟨its, rv, hl, _⟩ := I.list h
    rw [hm] at rv
    exact PySem.W.min_list_datum (α := Str) (I.ok.hd hc) hl.isList (hold_strs rv) hu fun i v h' tk _ hv hk => fin v h' tk hv hk
  · obtain ⟨its, rv, hl, _⟩ := I.tuple h
    rw [hm] at rv
    exact PySem.W.min_tuple_datum (α := Str) (I.ok.hd hc) hl (hold_strs rv) hu fun i v h' tk _ hv hk => fin v h' tk hv hk
end
section
variable {X : Cx} {nm : Nm} {G : Glo} {CA : Nat → Addr} {cf : Runs} {W : WX}
theorem x_min {sc : Scope} {np : Nat → Option Nat} {bl : List Str} {cs : List C} {e : Expr} {es : List Expr} {p pos : Pos} (B : En sc X nm G CA cf np bl W) (hb : bl.contains ("min" : Str) = true) (h : gloB sc "min" = true) (hs : (e :: es).all noStar = true) (ha : PA X (e :: es) (tL X G CA cf W cs)) :
    PE X (.Call (.Name "min" p) (e :: es) [] pos) (tE X G CA cf W (.bif .min cs)) := by
  obtain ⟨k, hr, _⟩ := B.cx.lev
  refine ⟨fun pins s σ H Q I ⟨S, sr, h'⟩ => ?_⟩
  have hm := B.cx.blt ("min" : Str) (by simpa using hb)
  have hr := c_min (X := X) (CA := CA) (W := W) (σ0 := σ) B.cx.calm (cr_minS B.cx.calm hr)
  rw [List.all_cons, Bool.and_eq_true] at hs
  rw [ev] at h'
  have key : tCB (rC X CA W σ .min) (tL X G CA cf W cs) σ H Q := ⟨S, sr, DenL.seq (Same.refl H) h' fun ps vs H2 O Z e1 s2 pv hd => ⟨H, _, ps, O, Z, s2, pv, hd⟩⟩
  exact (pe_callB hr (B.gl h) hm (by decide +kernel) ha (by decide) (by decide) (star_cons hs.1) (back_any hs.2)).run pins s σ H Q I key
end
end Vy

namespace Vy
open PySem PySem.Spec
open PyProof.Rows hiding St
open L2
section
variable {X : Cx} {nm : Nm} {G : Glo} {CA : Nat → Addr} {cf : Runs} {W : WX}
theorem Reps.rev0 {K : PySem.W.Frag} {H : Hp} : ∀ {ds : List D} {vs : List V} {Z : List Addr}, Reps K CA H 0 ds vs [] Z → ∃ Z', Reps K CA H 0 ds.reverse vs.reverse [] Z' ∧ ∀ a ∈ Z', a ∈ Z
  | [], vs, Z, r => by cases r; exact ⟨[], .nil, by simp⟩
  | d :: ds, vs, Z, r => by
    obtain ⟨v, vs', Z1, Z2, rfl, r1, r2, rfl⟩ : ∃ v vs' Z1 Z2, vs = v :: vs' ∧ Rep K CA H 0 d v [] Z1 ∧ Reps K CA H 0 ds vs' [] Z2 ∧ Z = Z1 ++ Z2 := by
      generalize hO : ([] : List Addr) = O at r
      generalize hX : d :: ds = dd at r
      cases r with
      | nil => cases hX
      | cons r1 r2 =>
        cases hX
        obtain ⟨e1, e2⟩ := List.append_eq_nil_iff.mp hO.symm
        subst e1; subst e2
        exact ⟨_, _, _, _, rfl, r1, r2, rfl⟩
    obtain ⟨Z', r3, h3⟩ := Reps.rev0 r2
    have := r3.append (Reps.cons r1 .nil)
    rw [List.reverse_cons, List.reverse_cons]
    refine ⟨Z' ++ (Z1 ++ []), by simpa using this, fun a ha => ?_⟩
    simp at ha ⊢
    rcases ha with z | z
    · exact .inr (h3 a z)
    · exact .inl z
theorem e_rvl {c : C} {e : Expr} {k : Nat} {p1 p2 p3 pos : Pos} (he : PE X e (tE X G CA cf W c)) : PE X (.Subscript e (.Slice none none (some (.UnaryOp .USub (.Constant (.int 1) k p1) p2)) p3) pos) (tE X G CA cf W (.rvl c)) := by
  refine PE.weak (pe_revL he) fun σ H Q ⟨S, sr, h⟩ => ?_
  rw [ev] at h
  refine ⟨S, sr, Den.seq (Same.refl H) h fun p v H1 O Z e1 pv hd => ?_⟩
  obtain ⟨z, hz, hd⟩ := Den.ofv hd
  obtain ⟨d, n⟩ := p
  cases d <;> first | (cases hz; done) | skip
  · rename_i xs
    cases hz
    obtain ⟨a, vs, Z0, ea, h1, r, hz0⟩ := pv.lst_inv
    obtain ⟨Z', r2, h2⟩ := Reps.rev0 r
    refine ⟨a, vs, ea, .of h1, fun p hp => ?_⟩
    obtain ⟨O', Z'', pp⟩ := PVal.newList pv.same r2 (fun b hb => hz0 b (h2 b hb)) hp
    exact hd _ _ _ _ pp
  · rename_i ns
    cases hz
    obtain ⟨a, ea, h1, _⟩ := pv.rep.scr_inv
    refine ⟨a, _, ea, h1.l, fun p hp => ?_⟩
    have r : Reps X.K CA H1 0 (ns.map D.int) (ns.map V.int) [] [] := ints_reps ns
    obtain ⟨Z', r2, h2⟩ := Reps.rev0 r
    obtain ⟨O', Z'', pp⟩ := PVal.newList (M := Nod S (names (C.rvl c))) pv.same r2 (fun b hb => by have := h2 b hb; simp at this) hp
    exact hd _ _ _ _ pp
end
end Vy

namespace Vy
open PySem PySem.Spec
open PyProof.Rows hiding St
open L2
section
variable {X : Cx} {nm : Nm} {G : Glo} {CA : Nat → Addr} {cf : Runs} {W : WX}
/-- where a text stands among texts -/
theorem e_index {o c : C} {eo e : Expr} {apos pos : Pos} (ho : PE X eo (tE X G CA cf W o)) (he : PE X e (tE X G CA cf W c)) (hs : noStar e = true) (hb : noSup eo = true) (hl : (apos.endLine == pos.line) = true) : PE X (.Call (.Attribute eo "index" apos) [e] [] pos) (tE X G CA cf W (.mth .index o [c])) := by
  have hs1 : [e].all noStar = true := by simp [hs]
  refine PE.weak (pe_bm F.plainAttrs_list F.slot_list_index F.type_list_index mt_index ho (a_cons he a_nil (star_cons hs)) (base_ok hb) (back_few hs1 (by simp)) hl (star_cons hs) rfl) fun σ H Q ⟨S, sr, h⟩ => ?_
  rw [ev] at h
  refine ⟨S, sr, Den.seq (Same.refl H) h fun p x H1 O Z e1 pv hd => ?_⟩
  obtain ⟨hr, hd⟩ := hd.gd
  obtain ⟨d0, k⟩ := p
  obtain ⟨xs, rfl⟩ : ∃ xs, d0 = .lst xs := by cases d0 <;> first | exact ⟨_, rfl⟩ | cases hr
  obtain ⟨a, vs, Z0, rfl, h1, r, _⟩ := pv.lst_inv
  refine ⟨.inl ⟨rfl, vs, .of h1⟩, S, sr.same pv.same, DenL.seq pv.same hd fun ps us H2 O' Z' e2 s2 pw hd2 => ?_⟩
  obtain ⟨z, hz, hd3⟩ := Den.ofv hd2
  have hp : ∃ q, ps = [q] := by
    simp only [evs] at e2
    obtain ⟨q, _, e2⟩ := Out.bind_eq_ok e2
    obtain ⟨l, e3, e2⟩ := Out.bind_eq_ok e2
    cases e3; cases e2
    exact ⟨q, rfl⟩
  obtain ⟨⟨d, n⟩, rfl⟩ := hp
  obtain ⟨v, rfl, p1⟩ := pw.one_inv
  obtain ⟨s, rfl⟩ : ∃ s, d = .str s := by cases d <;> first | exact ⟨_, rfl⟩ | cases hz
  simp only [methD] at hz
  obtain ⟨ss, hss, hz⟩ := Option.bind_eq_some_iff.mp hz
  obtain ⟨k', hk', rfl⟩ := Option.map_eq_some_iff.mp hz
  obtain ⟨j, hj, hk⟩ := Option.bind_eq_some_iff.mp hk'
  cases hk
  obtain ⟨ev1, _⟩ := str_list r hss
  obtain ⟨ev2, _⟩ := p1.rep.str_inv
  subst ev1; subst ev2
  obtain ⟨hj1, hj2, hj3⟩ := List.findIdx?_eq_some_iff_getElem.mp hj
  refine ⟨a, _, _, j, .str (mkS ss[j]), rfl, rfl, .of (s2 _ _ h1), rfl, by simp [flatV], by rw [List.getElem?_map, List.getElem?_eq_getElem hj1]; rfl, ?_, fun m z' hm hz' => ?_, hd3.val (pv.same.trans s2) (.int _)⟩
  · have : ss[j] = s := by simpa using hj2
    rw [this]
    show (mkS s == mkS s) = true
    simp
  · rw [List.getElem?_map] at hz'
    obtain ⟨t, ht, rfl⟩ := Option.map_eq_some_iff.mp hz'
    have hml : m < ss.length := by omega
    rw [List.getElem?_eq_getElem hml] at ht
    cases ht
    have := hj3 m hm
    show (mkS ss[m] == mkS s) = false
    rw [beq_eq_false_iff_ne]
    exact fun e => by
      have e := mkS_inj e
      rw [e] at this
      simp at this
end
end Vy

namespace Vy
open PySem PySem.Spec
open PyProof.Rows hiding St
open L2
/-! ## parts of a slot's thing -/
section
variable {K : PySem.W.Frag} {CA : Nat → Addr} {H H3 : Hp} {n m : Nat} {d d' x : D} {v w : V} {O Z : List Addr}
/-- one step into a thing, in the heap -/
inductive VA1 (H : Hp) : V → Rtp → V → Prop
  | fld {a C dx fvs f w} : H a = some (.ins C dx fvs) → fvs.lookup (mkS f) = some w → VA1 H (.ref a) (.fld f) w
  | lst {a vs i j w} : H a = some (.lst vs) → ix vs.length i = some j → vs[j]? = some w → VA1 H (.ref a) (.at (.int i)) w
  | dct {a kvs k κ w} : H a = some (.dK kvs) → vKey k = some κ → valV kvs κ = some w → VA1 H (.ref a) (.at k) w
theorem VA1.det {v w u : V} {q : Rtp} (h : VA1 H v q w) (k : VA1 H v q u) : w = u := by
  cases h with
  | fld h1 h2 => cases k with
    | fld k1 k2 => rw [h1] at k1; cases k1; rw [h2] at k2; cases k2; rfl
  | lst h1 h2 h3 => cases k with
    | lst k1 k2 k3 => rw [h1] at k1; cases k1; rw [h2] at k2; cases k2; rw [h3] at k3; cases k3; rfl
    | dct k1 k2 k3 => rw [h1] at k1; cases k1
  | dct h1 h2 h3 => cases k with
    | lst k1 k2 k3 => rw [h1] at k1; cases k1
    | dct k1 k2 k3 => rw [h1] at k1; cases k1; rw [h2] at k2; cases k2; rw [h3] at k3; cases k3; rfl
theorem VA1.keep {q : Rtp} {F : List Addr} {a : Addr} (h : VA1 H (.ref a) q w) (k : Keep F H H3) (n : a ∉ F) : VA1 H3 (.ref a) q w := by
  cases h with
  | fld h1 h2 => exact .fld (k _ _ h1 n) h2
  | lst h1 h2 h3 => exact .lst (k _ _ h1 n) h2 h3
  | dct h1 h2 h3 => exact .dct (k _ _ h1 n) h2 h3
inductive VAt (H : Hp) : V → List Rtp → V → Prop
  | nil {y : V} : VAt H y [] y
  | cons {y : V} {q : Rtp} {z : V} {rs : List Rtp} {u : V} : VA1 H y q z → VAt H z rs u → VAt H y (q :: rs) u
theorem VAt.det {u : V} : ∀ {rs : List Rtp} {v w : V}, VAt H v rs w → VAt H v rs u → w = u
  | [], _, _, .nil, .nil => rfl
  | _ :: _, _, _, .cons h1 h2, .cons k1 k2 => by
    have e := h1.det k1
    subst e
    exact h2.det k2
theorem Reps.set {ds : List D} {vs : List V} {j : Nat} {v : V} {A B A' B' O2 Z2 : List Addr} {d' : D} (hj : j < ds.length) (h0 : vs[j]? = some v) (h1 : Reps K CA H n (ds.take j) (vs.take j) A A') (h2 : Reps K CA H n (ds.drop (j + 1)) (vs.drop (j + 1)) B B') (h : Rep K CA H n d' v O2 Z2) :
    Reps K CA H n (ds.set j d') vs (A ++ O2 ++ B) (A' ++ Z2 ++ B') := by
  have e1 : ds.set j d' = ds.take j ++ d' :: ds.drop (j + 1) := List.set_eq_take_append_cons_drop.trans (if_pos hj)
  have hv : j < vs.length := (List.getElem?_eq_some_iff.mp h0).1
  have e2 : vs = vs.take j ++ v :: vs.drop (j + 1) := by
    have : v = vs[j] := by rw [List.getElem?_eq_getElem hv] at h0; exact (Option.some.inj h0).symm
    rw [this, ← List.drop_eq_getElem_cons hv, List.take_append_drop]
  rw [e1, e2]
  have := h1.append (.cons h h2)
  simpa [List.append_assoc] using this
theorem findIdx_lookup {f : Cs} : ∀ {fs : List Cs} {fvs : List (Str × V)} {j : Nat} {v : V}, fs.map mkS = fvs.map (·.1) → fs.findIdx? (· == f) = some j → (fvs.map (·.2))[j]? = some v → fvs.lookup (mkS f) = some v
  | [], [], j, v, _, h, _ => by simp at h
  | g :: fs, (x, w) :: fvs, j, v, hm, h, hv => by
    simp only [List.map_cons, List.cons.injEq] at hm
    obtain ⟨h1, h2⟩ := hm
    rw [List.findIdx?_cons] at h
    by_cases e : g = f
    · subst e
      simp at h; subst h
      simp at hv
      rw [List.lookup_cons, h1]; simp [hv]
    · have e' : (g == f) = false := by simpa using e
      rw [e'] at h
      simp at h
      obtain ⟨k, hk, rfl⟩ := h
      have := findIdx_lookup (v := v) h2 hk (by simpa using hv)
      rw [List.lookup_cons]
      have ne : (mkS f == x) = false := by
        rw [← h1, mkS_beq]
        simp; exact fun z => e z.symm
      rw [ne]; exact this
  | [], _ :: _, j, v, hm, h, _ => by simp at hm
  | _ :: _, [], j, v, hm, h, _ => by simp at hm
theorem findIdx_key {k : D} {κ : L2.Key} (hk : vKey k = some κ) : ∀ {ks : List D} {kvs : List (L2.Key × V)} {j : Nat} {v : V}, ks.map vKey = kvs.map (fun p => some p.1) → ks.findIdx? (fun x => pyEq x k) = some j → (kvs.map (·.2))[j]? = some v → valV kvs κ = some v
  | [], [], j, v, _, h, _ => by simp at h
  | g :: ks, (x, w) :: kvs, j, v, hm, h, hv => by
    simp only [List.map_cons, List.cons.injEq] at hm
    obtain ⟨h1, h2⟩ := hm
    have eq : pyEq g k = decide (x = κ) := by
      have hg : vKey g = some x := h1
      rw [Bool.eq_iff_iff, decide_eq_true_eq]
      cases g <;> first | (cases hg; done) | skip
      all_goals (cases k <;> first | (cases hk; done) | skip)
      all_goals (cases hg; cases hk; simp [pyEq])
      constructor
      · intro e; rw [e]
      · exact mkS_inj
    rw [List.findIdx?_cons] at h
    unfold valV
    by_cases e : x = κ
    · rw [eq, decide_eq_true e] at h
      simp at h; subst h
      simp at hv
      simp [e, hv]
    · rw [eq, decide_eq_false e] at h
      simp at h
      obtain ⟨i, hi, rfl⟩ := h
      have := findIdx_key hk (v := v) h2 hi (by simpa using hv)
      rw [List.find?_cons, show decide (x = κ) = false from decide_eq_false e]
      exact this
  | [], _ :: _, j, v, hm, h, _ => by simp at hm
  | _ :: _, [], j, v, hm, h, _ => by simp at hm
/-- a child of one's own thing, and the thing with another child there -/
theorem Rep.kid {q : Rtp} {j : Nat} (r : Rep K CA H (n + 1) d v O Z) (hp : posP d q = some j) (hk : (kids d)[j]? = some d') : ∃ a A O1 B A' Z1 B' v1, v = .ref a ∧ O = a :: (A ++ O1 ++ B) ∧ Z = A' ++ Z1 ++ B' ∧ Rep K CA H n d' v1 O1 Z1 ∧ VA1 H v q v1 ∧
    ∀ d'' O2 Z2, Rep K CA H n d'' v1 O2 Z2 → Rep K CA H (n + 1) (setK d j d'') v (a :: (A ++ O2 ++ B)) (A' ++ Z2 ++ B') := by
  have hlt := (List.getElem?_eq_some_iff.mp hk).1
  cases d <;> first | (cases hk; done) | skip
  · rename_i xs
    cases q with
    | fld f => cases hp
    | «at» k =>
    cases k <;> first | (cases hp; done) | skip
    rename_i i
    cases r with
    | lstO e r =>
      obtain ⟨v1, A, B, A', B', O1, Z1, e1, q1, h1, h2, q2, q3⟩ := r.get j d' hk
      refine ⟨_, A, O1, B, A', Z1, B', v1, rfl, by rw [h1], h2, q1, .lst e (by rw [← r.length]; exact hp) e1, fun d'' O2 Z2 r2 => ?_⟩
      exact .lstO e (Reps.set hlt e1 q2 q3 r2)
  · rename_i ks xs
    cases q with
    | fld f => cases hp
    | «at» k =>
    obtain ⟨hs, hp⟩ := go_some (show go _ _ = some j from hp)
    obtain ⟨κ, hκ⟩ := Option.isSome_iff_exists.mp hs
    cases r with
    | dctO e ko r =>
      obtain ⟨v1, A, B, A', B', O1, Z1, e1, q1, h1, h2, q2, q3⟩ := r.get j d' hk
      refine ⟨_, A, O1, B, A', Z1, B', v1, rfl, by rw [h1], h2, q1, .dct e hκ (findIdx_key hκ ko.1 hp e1), fun d'' O2 Z2 r2 => ?_⟩
      exact .dctO e ko (Reps.set hlt e1 q2 q3 r2)
  · rename_i c fs xs
    cases q with
    | «at» k => cases hp
    | fld f =>
    obtain ⟨hs, hp⟩ := go_some (show go _ _ = some j from hp)
    cases r with
    | insO e ko r =>
      obtain ⟨v1, A, B, A', B', O1, Z1, e1, q1, h1, h2, q2, q3⟩ := r.get j d' hk
      refine ⟨_, A, O1, B, A', Z1, B', v1, rfl, by rw [h1], h2, q1, .fld e (findIdx_lookup ko hp e1), fun d'' O2 Z2 r2 => ?_⟩
      exact .insO e ko (Reps.set hlt e1 q2 q3 r2)
theorem getP_cons {p : D × Nat} {q : Rtp} {rs : List Rtp} {u : D × Nat} (h : getP p (q :: rs) = some u) : ∃ k j d', p.2 = k + 1 ∧ posP p.1 q = some j ∧ (kids p.1)[j]? = some d' ∧ getP (d', k) rs = some u := by
  obtain ⟨d, n⟩ := p
  cases n with
  | zero => cases h
  | succ k =>
    rw [getP] at h
    obtain ⟨j, h1, h⟩ := Option.bind_eq_some_iff.mp h
    obtain ⟨d', h2, h⟩ := Option.bind_eq_some_iff.mp h
    exact ⟨k, j, d', rfl, h1, h2, h⟩
theorem putP_cons {q : Rtp} {rs : List Rtp} {j : Nat} (h1 : posP d q = some j) (h2 : (kids d)[j]? = some d') : putP d (q :: rs) x = setK d j (putP d' rs x) := by
  rw [putP, h1]; simp only; rw [h2]
theorem posP_set {q : Rtp} {j k : Nat} (h : posP d q = some k) : posP (setK d j x) q = some k := by
  cases d <;> cases q <;> first | exact h | skip
  rename_i y
  cases y <;> first | exact h | skip
  show ix _ _ = _
  rw [List.length_set]; exact h
theorem kids_set {j : Nat} (h : (kids d)[j]? = some d') : (kids (setK d j x))[j]? = some x := by
  have hlt := (List.getElem?_eq_some_iff.mp h).1
  cases d <;> first | (cases h; done) | skip
  all_goals (show (List.set _ _ _)[j]? = _; exact List.getElem?_set_self hlt)
theorem getP_put {rs : List Rtp} : ∀ {d : D} {n : Nat} {u : D × Nat}, getP (d, n) rs = some u → getP (putP d rs x, n) rs = some (x, u.2) := by
  induction rs with
  | nil => intro d n u h; cases h; rfl
  | cons q rs ih =>
    intro d n u h
    obtain ⟨k, j, d', hn, h1, h2, h3⟩ := getP_cons h
    have hn : n = k + 1 := hn
    subst hn
    rw [putP_cons h1 h2, getP, posP_set h1]
    simp only [Option.bind_some]
    rw [kids_set h2]
    simp only [Option.bind_some]
    exact ih h3
/-- a part is taken out: a hole stays -/
theorem Rep.hole {rs : List Rtp} : ∀ {n : Nat} {d : D} {v : V} {O Z : List Addr} {u : D × Nat}, Rep K CA H n d v O Z → getP (d, n) rs = some u → ∃ v' O' Z' R Y, Rep K CA H n (putP d rs .hol) v R Y ∧ Rep K CA H u.2 u.1 v' O' Z' ∧ VAt H v rs v' ∧ O.Perm (R ++ O') ∧ (∀ a, a ∈ Z ↔ a ∈ Y ∨ a ∈ Z') := by
  induction rs with
  | nil =>
    intro n d v O Z u r h
    cases h
    exact ⟨v, O, Z, [], [], .hol, r, .nil, by simp, by simp⟩
  | cons q rs ih =>
    intro n d v O Z u r h
    obtain ⟨k, j, d', hn, h1, h2, h3⟩ := getP_cons h
    have hn : n = k + 1 := hn
    subst hn
    obtain ⟨a, A, O1, B, A', Z1, B', v1, rfl, rfl, rfl, r1, va, bk⟩ := r.kid h1 h2
    obtain ⟨v', O', Z', R, Y, r2, r3, at', pm, zz⟩ := ih r1 h3
    refine ⟨v', O', Z', a :: (A ++ R ++ B), A' ++ Y ++ B', ?_, r3, .cons va at', ?_, fun c => ?_⟩
    · rw [putP_cons h1 h2]; exact bk _ _ _ r2
    · refine List.Perm.cons a ?_
      have h5 : (A ++ O1 ++ B).Perm (A ++ (R ++ O') ++ B) := (pm.append_left A).append_right B
      refine h5.trans ?_
      have : (O' ++ B).Perm (B ++ O') := List.perm_append_comm
      have := (this.append_left R).append_left A
      simpa [List.append_assoc] using this
    · have := zz c
      simp only [List.mem_append, this]
      constructor
      · rintro ((h | h | h) | h) <;> simp [h]
      · rintro (((h | h) | h) | h) <;> simp [h]
theorem VAt.keepR {rs : List Rtp} : ∀ {n : Nat} {d : D} {v : V} {R Y : List Addr} {u : D × Nat} {w : V} {F : List Addr}, Rep K CA H n d v R Y → getP (d, n) rs = some u → VAt H v rs w → Keep F H H3 → (∀ a ∈ R, a ∉ F) → VAt H3 v rs w := by
  induction rs with
  | nil => intro n d v R Y u w F r h at' k hF; cases at'; exact .nil
  | cons q rs ih =>
    intro n d v R Y u w F r h at' k hF
    obtain ⟨i, j, d', hn, h1, h2, h3⟩ := getP_cons h
    have hn : n = i + 1 := hn
    subst hn
    obtain ⟨a, A, O1, B, A', Z1, B', v1, rfl, rfl, rfl, r1, va, bk⟩ := r.kid h1 h2
    cases at' with
    | cons a1 a2 =>
      have e := va.det a1
      subst e
      exact .cons (va.keep k (hF a (by simp))) (ih r1 h3 a2 k fun b hb => hF b (by simp [hb]))
/-- a hole is filled -/
theorem Rep.fill {rs : List Rtp} {v' : V} {O2 Z2 : List Addr} {m : Nat} : ∀ {n : Nat} {d : D} {v : V} {R Y : List Addr}, Rep K CA H n d v R Y → getP (d, n) rs = some (.hol, m) → VAt H v rs v' → Rep K CA H m x v' O2 Z2 → ∃ O Z, Rep K CA H n (putP d rs x) v O Z ∧ O.Perm (R ++ O2) ∧ (∀ a, a ∈ Z ↔ a ∈ Y ∨ a ∈ Z2) := by
  induction rs with
  | nil =>
    intro n d v R Y r h at' r2
    cases h; cases at'
    cases r
    exact ⟨O2, Z2, r2, by simp, by simp⟩
  | cons q rs ih =>
    intro n d v R Y r h at' r2
    obtain ⟨k, j, d', hn, h1, h2, h3⟩ := getP_cons h
    have hn : n = k + 1 := hn
    subst hn
    obtain ⟨a, A, O1, B, A', Z1, B', v1, rfl, rfl, rfl, r1, va, bk⟩ := r.kid h1 h2
    cases at' with
    | cons a1 a2 =>
      have e := va.det a1
      subst e
      obtain ⟨O, Z, r3, pm, zz⟩ := ih r1 h3 a2 r2
      refine ⟨a :: (A ++ O ++ B), A' ++ Z ++ B', ?_, ?_, fun c => ?_⟩
      · rw [putP_cons h1 h2]; exact bk _ _ _ r3
      · refine List.Perm.cons a ?_
        have h5 : (A ++ O ++ B).Perm (A ++ (O1 ++ O2) ++ B) := (pm.append_left A).append_right B
        refine h5.trans ?_
        have : (O2 ++ B).Perm (B ++ O2) := List.perm_append_comm
        have := (this.append_left O1).append_left A
        simpa [List.append_assoc] using this
      · have := zz c
        simp only [List.mem_append, this]
        constructor
        · rintro ((h | h | h) | h) <;> simp [h]
        · rintro (((h | h) | h) | h) <;> simp [h]
end
end Vy

namespace Vy
open PySem PySem.Spec
open PyProof.Rows hiding St
open L2
section
variable {K : PySem.W.Frag} {CA : Nat → Addr} {H H2 H3 : Hp} {d d' x : D} {v w : V} {O Z : List Addr}
theorem getP_append {rs rs' : List Rtp} : ∀ {p u : D × Nat}, getP p (rs ++ rs') = some u → ∃ q, getP p rs = some q ∧ getP q rs' = some u := by
  induction rs with
  | nil => intro p u h; exact ⟨p, rfl, h⟩
  | cons r rs ih =>
    intro p u h
    obtain ⟨k, j, d', h1, h2, h3, h4⟩ := getP_cons h
    obtain ⟨q, q1, q2⟩ := ih h4
    refine ⟨q, ?_, q2⟩
    obtain ⟨d, n⟩ := p
    have h1 : n = k + 1 := h1
    subst h1
    rw [getP, h2]; simp only [Option.bind_some]; rw [h3]; exact q1
theorem VAt.append {rs rs' : List Rtp} : ∀ {v w u : V}, VAt H v rs w → VAt H w rs' u → VAt H v (rs ++ rs') u := by
  induction rs with
  | nil => intro v w u h k; cases h; exact k
  | cons r rs ih => intro v w u h k; cases h with | cons h1 h2 => exact .cons h1 (ih h2 k)
theorem VA1.same {q : Rtp} (h : VA1 H v q w) (k : Same H H2) : VA1 H2 v q w := by
  cases h with
  | fld h1 h2 => exact .fld (k _ _ h1) h2
  | lst h1 h2 h3 => exact .lst (k _ _ h1) h2 h3
  | dct h1 h2 h3 => exact .dct (k _ _ h1) h2 h3
theorem VAt.same' {rs : List Rtp} (k : Same H H2) : ∀ {v w : V}, VAt H v rs w → VAt H2 v rs w := by
  induction rs with
  | nil => intro v w h; cases h; exact .nil
  | cons r rs ih => intro v w h; cases h with | cons h1 h2 => exact .cons (h1.same k) (ih h2)
theorem VAt.same {rs : List Rtp} {v w : V} (h : VAt H v rs w) (k : Same H H2) : VAt H2 v rs w := VAt.same' k h
theorem getP_level {rs : List Rtp} : ∀ {d : D} {n : Nat} {u : D × Nat}, getP (d, n) rs = some u → n = u.2 + rs.length ∧ ∀ m, getP (d, m + rs.length) rs = some (u.1, m) := by
  induction rs with
  | nil => intro d n u h; cases h; exact ⟨rfl, fun m => rfl⟩
  | cons r rs ih =>
    intro d n u h
    obtain ⟨k, j, d', h1, h2, h3, h4⟩ := getP_cons h
    have h1 : n = k + 1 := h1
    obtain ⟨q1, q2⟩ := ih h4
    refine ⟨by rw [h1, q1, List.length_cons]; omega, fun m => ?_⟩
    rw [List.length_cons, show m + (rs.length + 1) = (m + rs.length) + 1 by omega, getP]
    have h2 : posP d r = some j := h2
    rw [h2]; simp only [Option.bind_some]
    have h3 : (kids d)[j]? = some d' := h3
    rw [h3]; exact q2 m
theorem setK_setK {j : Nat} {y : D} : setK (setK d j y) j x = setK d j x := by
  cases d <;> simp [setK]
theorem putP_putP {rs : List Rtp} {y : D} : ∀ {d : D} {n : Nat} {u : D × Nat}, getP (d, n) rs = some u → putP (putP d rs y) rs x = putP d rs x := by
  induction rs with
  | nil => intro d n u h; rfl
  | cons r rs ih =>
    intro d n u h
    obtain ⟨k, j, d', h1, h2, h3, h4⟩ := getP_cons h
    have h2 : posP d r = some j := h2
    have h3 : (kids d)[j]? = some d' := h3
    rw [putP_cons h2 h3, putP_cons (posP_set h2) (kids_set h3), putP_cons h2 h3, setK_setK, ih h4]
/-- a part's own things are among the whole's -/
theorem Rep.part {rs : List Rtp} {n : Nat} {u : D × Nat} (r : Rep K CA H n d v O Z) (hg : getP (d, n) rs = some u) (at' : VAt H v rs w) : ∃ O' Z', Rep K CA H u.2 u.1 w O' Z' ∧ (∀ a ∈ O', a ∈ O) ∧ ∀ a ∈ Z', a ∈ Z := by
  obtain ⟨v', O', Z', R, Y, r1, r2, a2, pm, zz⟩ := r.hole hg
  have e := at'.det a2
  subst e
  exact ⟨O', Z', r2, fun a h => pm.symm.subset (List.mem_append_right _ h), fun a h => (zz a).mpr (.inr h)⟩
theorem Rep.at {rs : List Rtp} {n : Nat} {u : D × Nat} (r : Rep K CA H n d v O Z) (hg : getP (d, n) rs = some u) : ∃ w, VAt H v rs w := by
  obtain ⟨v', O', Z', R, Y, r1, r2, a2, pm, zz⟩ := r.hole hg
  exact ⟨v', a2⟩
end
section
variable {K : PySem.W.Frag} {CA : Nat → Addr} {S0 S1 : Slots} {σ : St} {H H2 : Hp} {J L : List Nat}
/-- the thing at a part of a slot's own is changed -/
theorem node_ok {i : Nat} {r : Root} {rs : List Rtp} {u : D × Nat} {a : Addr} (sr : SRep K CA S1 σ H) (f : Fr S1) (st : Step J L S0 H S1 H) (hi : S1[i]? = some (some r)) (hL : i ∉ L) (hg : getP (r.d, r.n) rs = some u) (sm : Same H H2) (at' : VAt H2 r.v rs (.ref a)) :
    ∃ On Zn, Rep K CA H2 u.2 u.1 (.ref a) On Zn ∧ (∀ x ∈ On, x ∈ r.O) ∧ (∀ x ∈ Zn, x ∈ r.Z) ∧ On.Nodup ∧ (∀ x ∈ Zn, x ∉ On) ∧ (∀ x ∈ On, H x ≠ none) ∧ (∀ x ∈ Zn, H x ≠ none) ∧
      ∀ H3 d'' k O'' Z'', Keep [a] H2 H3 → (∀ x, H2 x ≠ none → H3 x ≠ none) → a ∈ On → Rep K CA H3 k d'' (.ref a) O'' Z'' → k ≤ u.2 → O''.Nodup → (∀ z ∈ Z'', z ∉ O'') → (∀ x ∈ O'', x ∈ On ∨ H x = none) → (∀ x ∈ Z'', x ∈ On ∨ x ∈ Zn ∨ H x = none ∨ (¬ Own S1 x ∧ Any S0 x)) →
        ∃ S', SRep K CA S' σ H3 ∧ Fr S' ∧ Step J L S0 H S' H3 ∧ envOf S' = setV (envOf S1) i (putP r.d rs d'', min r.n (k + rs.length)) ∧ (∀ x, Any S' x → Any S1 x ∨ x ∈ O'' ∨ x ∈ Z'') ∧ (∀ j, j ≠ i → S'[j]? = S1[j]?) ∧ (∀ x, x ∈ On → x ∉ O'' → x ∉ Z'' → ¬ Any S' x) := by
  have rr := (sr.rep i r hi).2
  have own0 : ∀ x ∈ r.O, OwnAt S1 i x := fun x hx => ⟨r, hi, hx⟩
  have rr2 := rr.same sm
  obtain ⟨v', On, Zn, R, Y, r1, r2, a2, pm, zz⟩ := rr2.hole hg
  have e := at'.det a2
  subst e
  have hRO : ∀ x ∈ R, x ∈ r.O := fun x h => pm.symm.subset (List.mem_append_left _ h)
  have hOO : ∀ x ∈ On, x ∈ r.O := fun x h => pm.symm.subset (List.mem_append_right _ h)
  have hYZ : ∀ x ∈ Y, x ∈ r.Z := fun x h => (zz x).mpr (.inl h)
  have hZZ : ∀ x ∈ Zn, x ∈ r.Z := fun x h => (zz x).mpr (.inr h)
  have nd0 := pm.nodup_iff.mp (f.nd i r hi)
  obtain ⟨ndR, ndO, dj⟩ := List.nodup_append.mp nd0
  have zo0 : ∀ x ∈ r.Z, x ∉ r.O := fun x hx w => f.zo i x (own0 x w) i r hi hx
  have thO : ∀ x ∈ r.O, H x ≠ none := fun x h => sr.own ⟨i, own0 x h⟩
  have thZ : ∀ x ∈ r.Z, H x ≠ none := fun x h => sr.any ⟨i, r, hi, by simp [h]⟩
  refine ⟨On, Zn, r2, hOO, hZZ, ndO, fun x hx w => zo0 x (hZZ x hx) (hOO x w), fun x h => thO x (hOO x h), fun x h => thZ x (hZZ x h), ?_⟩
  intro H3 d'' k O'' Z'' kp th ha rep hk nd zo ho hz
  have haO := hOO a ha
  have naR : a ∉ R := fun w => dj a w a ha rfl
  have naY : a ∉ Y := fun w => zo0 a (hYZ a w) haO
  have fx2 : Fix [a] H2 := fun y hy => by simp at hy; subst hy; exact r2.own_mut _ ha
  have fx : Fix [a] H := fun y hy => by simp at hy; subst hy; exact rr.own_mut _ haO
  have r3 := r1.keep kp fx2 fun b hb z => by
    simp at z; subst z
    rcases List.mem_append.mp hb with q | q
    · exact naR q
    · exact naY q
  have at3 := at'.keepR (R := R) (Y := Y) r1 (getP_put hg) kp fun b hb z => by simp at z; subst z; exact naR hb
  obtain ⟨e1, lv⟩ := getP_level hg
  have en : min r.n (k + rs.length) = k + rs.length := by omega
  obtain ⟨R', Y', r4, lw⟩ := r3.low (m := k + rs.length) (by omega)
  have g4 : getP (putP r.d rs .hol, k + rs.length) rs = some (.hol, k) := by
    have := (getP_level (getP_put (x := .hol) hg)).2 k
    exact this
  obtain ⟨Of, Zf, r5, pf, zf⟩ := r4.fill g4 at3 rep
  rw [putP_putP hg] at r5
  have hR'R : ∀ x ∈ R', x ∈ R := lw.own
  have hY' : ∀ x ∈ Y', x ∈ R ∨ x ∈ Y := lw.all
  have inOf : ∀ x, x ∈ Of ↔ x ∈ R' ∨ x ∈ O'' := fun x => by rw [pf.mem_iff, List.mem_append]
  have ndf : Of.Nodup := by
    refine pf.nodup_iff.mpr (List.nodup_append.mpr ⟨lw.nd ndR, nd, fun x hx y hy e => ?_⟩)
    subst e
    rcases ho x hy with z | z
    · exact dj x (hR'R x hx) x z rfl
    · exact thO x (hRO x (hR'R x hx)) z
  have zof : ∀ x ∈ Zf, x ∉ Of := fun x hx w => by
    rcases (zf x).mp hx with q | q
    · rcases (inOf x).mp w with w | w
      · exact lw.zo ndR (fun y hy w => zo0 y (hYZ y hy) (hRO y w)) x q w
      · rcases ho x w with z | z
        · rcases hY' x q with q | q
          · exact dj x q x z rfl
          · exact zo0 x (hYZ x q) (hOO x z)
        · rcases hY' x q with q | q
          · exact thO x (hRO x q) z
          · exact thZ x (hYZ x q) z
    · rcases (inOf x).mp w with w | w
      · have wO := hRO x (hR'R x w)
        rcases hz x q with z | z | z | ⟨z, _⟩
        · exact dj x (hR'R x w) x z rfl
        · exact zo0 x (hZZ x z) wO
        · exact thO x wO z
        · exact z ⟨i, own0 x wO⟩
      · exact zo x q w
  obtain ⟨h1, h2, h3, h4⟩ := mut_okR (L := L) (J := J) (S0 := S0) (S1 := S1) (F := [a]) (H3 := H3) (d := putP r.d rs d'') (n := k + rs.length) sr f st hi hL (fun y hy => by simp at hy; subst hy; exact haO) (fun y o e hn => kp y o (sm y o e) hn) fx (fun y hy => th y (same_there sm hy)) r5 ndf zof
    (fun x hx => by
      rcases (inOf x).mp hx with q | q
      · exact .inl (hRO x (hR'R x q))
      · exact (ho x q).imp (hOO x) id)
    (fun x hx => by
      rcases (zf x).mp hx with q | q
      · rcases hY' x q with q | q
        · exact .inl (hRO x q)
        · exact .inr (.inl (hYZ x q))
      · rcases hz x q with z | z | z | z
        · exact .inl (hOO x z)
        · exact .inr (.inl (hZZ x z))
        · exact .inr (.inr (.inl z))
        · exact .inr (.inr (.inr z)))
  refine ⟨_, h1, h2, h3, by rw [h4, en], fun x hx => ?_, fun j hj => ?_, fun x hx n1 n2 ⟨j, r', e, q⟩ => ?_⟩
  · rcases setR_any hx with q | q
    · rcases List.mem_append.mp q with q | q
      · rcases (inOf x).mp q with q | q
        · exact .inl ⟨i, r, hi, by simp [hRO x (hR'R x q)]⟩
        · exact .inr (.inl q)
      · rcases (zf x).mp q with q | q
        · rcases hY' x q with q | q
          · exact .inl ⟨i, r, hi, by simp [hRO x q]⟩
          · exact .inl ⟨i, r, hi, by simp [hYZ x q]⟩
        · exact .inr (.inr q)
    · exact .inl q
  · unfold setR; rw [List.getElem?_set_ne (Ne.symm hj)]
  · rcases setR_some e with ⟨_, e1, e2⟩ | ⟨hj, e1⟩
    · rw [e1, e2] at q
      rcases List.mem_append.mp q with q | q
      · rcases (inOf x).mp q with q | q
        · exact dj x (hR'R x q) x hx rfl
        · exact n1 q
      · rcases (zf x).mp q with q | q
        · rcases hY' x q with q | q
          · exact dj x q x hx rfl
          · exact zo0 x (hYZ x q) (hOO x hx)
        · exact n2 q
    · rcases List.mem_append.mp q with q | q
      · exact hj (f.sep j i x ⟨r', e1, q⟩ (own0 x (hOO x hx)))
      · exact f.zo i x (own0 x (hOO x hx)) j r' e1 q
end
end Vy

namespace Vy
open PySem PySem.Spec
open PyProof.Rows hiding St
open L2
section
variable {X : Cx} {nm : Nm} {G : Glo} {CA : Nat → Addr} {cf : Runs} {W : WX} {L : List Nat}
/-! ## parts of slots, read -/
def DenP (K : PySem.W.Frag) (CA : Nat → Addr) (W : WX) (S : Slots) (i : Nat) (o : Out (List Rtp)) (σ : St) (H : Hp) (Q : VK) : Prop := match o with
  | .ok rs => ∃ (r : Root) (u : D × Nat), S[i]? = some (some r) ∧ getP (r.d, r.n) rs = some u ∧ ∀ v' H', Same H H' → VAt H' r.v rs v' → Q v' H'
  | .exc e => ∀ cls dd H', Same H H' → ExRep K CA e cls dd H' → W cls dd σ H'
  | .bad => False
def tP (X : Cx) (G : Glo) (CA : Nat → Addr) (cf : Runs) (W : WX) (p : Pth) : TE := fun σ H Q => ∃ S, SRep X.K CA S σ H ∧ DenP X.K CA W S p.i (rsv G cf (envOf S) p.st) σ H Q
theorem tP_mono {p : Pth} {σ : St} {H : Hp} {Q Q' : VK} (w : ∀ v H, Q v H → Q' v H) (h : tP X G CA cf W p σ H Q) : tP X G CA cf W p σ H Q' := by
  obtain ⟨S, sr, h⟩ := h
  refine ⟨S, sr, ?_⟩
  cases e : rsv G cf (envOf S) p.st with
  | ok rs => rw [e] at h; obtain ⟨r, u, h1, h2, h3⟩ := h; exact ⟨r, u, h1, h2, fun v' H' a b => w v' H' (h3 v' H' a b)⟩
  | exc x => rw [e] at h; exact h
  | bad => rw [e] at h; exact h
/-- what the text's classes are -/
structure ClsC (X : Cx) (CA : Nat → Addr) (fl : List Cs) : Prop where
  cl : ∀ c, c < 100 → Cls X.K (CA c)
  no : ∀ c, c < 100 → ∀ f ∈ fl, NoAttr X.K (CA c) (mkS f)
theorem p_var {i : Nat} {x : Str} {pos : Pos} (hN : X.N[i]? = some x) (hv : Vis X.env.scope x) (hd : (x == ("__debug__" : Str)) = false) (hcd : (x == ("__classdict__" : Str)) = false) : PE X (.Name x pos) (tP X G CA cf W ⟨i, []⟩) := by
  refine PE.weak (pe_var hN hv hd hcd) fun σ H Q ⟨S, sr, h⟩ => ?_
  obtain ⟨r, u, h1, h2, h3⟩ := (show DenP X.K CA W S i (.ok []) σ H Q from h)
  exact ⟨r.v, (sr.rep i r h1).1, h3 r.v H (Same.refl H) .nil⟩
theorem rsv_fld {ρ : Env} {f : Cs} : ∀ st : List Ptp, rsv G cf ρ (st ++ [.fld f]) = (rsv G cf ρ st).bind fun rs => .ok (rs ++ [.fld f])
  | [] => rfl
  | .fld g :: r => by
    show (rsv G cf ρ (r ++ [.fld f])).bind _ = ((rsv G cf ρ r).bind _).bind _
    rw [rsv_fld r, obind_assoc, obind_assoc]; rfl
  | .ix e :: r => by
    show ((noX (ev G cf ρ e)).bind fun x => (rsv G cf ρ (r ++ [.fld f])).bind _) = ((noX (ev G cf ρ e)).bind _).bind _
    rw [obind_assoc, rsv_fld r]
    congr 1; funext x
    rw [obind_assoc, obind_assoc]; rfl
theorem rsv_ix {ρ : Env} {c : C} : ∀ st : List Ptp, rsv G cf ρ (st ++ [.ix c]) = (rsv G cf ρ st).bind fun rs => (noX (ev G cf ρ c)).bind fun x => .ok (rs ++ [.at x.1])
  | [] => by
    show (noX (ev G cf ρ c)).bind _ = _
    simp [rsv]
  | .fld g :: r => by
    show (rsv G cf ρ (r ++ [.ix c])).bind _ = ((rsv G cf ρ r).bind _).bind _
    rw [rsv_ix r, obind_assoc, obind_assoc]
    congr 1; funext rs
    simp [obind_assoc]
  | .ix e :: r => by
    show ((noX (ev G cf ρ e)).bind fun x => (rsv G cf ρ (r ++ [.ix c])).bind _) = ((noX (ev G cf ρ e)).bind _).bind _
    rw [obind_assoc, rsv_ix r]
    congr 1; funext x
    rw [obind_assoc, obind_assoc]
    congr 1; funext rs
    simp [obind_assoc]
theorem p_fld {i : Nat} {st : List Ptp} {f : Cs} {fn : Str} {e : Expr} {fl : List Cs} {pos : Pos} (cc : ClsC X CA fl) (hf : f ∈ fl) (hn : fn = mkS f) (he : PE X e (tP X G CA cf W ⟨i, st⟩)) (hb : noSup e = true) : PE X (.Attribute e fn pos) (tP X G CA cf W ⟨i, st ++ [.fld f]⟩) := by
  subst hn
  refine PE.weak (pe_fld he (base_ok hb)) fun σ H Q ⟨S, sr, h⟩ => ?_
  have h : DenP X.K CA W S i (rsv G cf (envOf S) (st ++ [.fld f])) σ H Q := h
  rw [rsv_fld] at h
  refine ⟨S, sr, ?_⟩
  show DenP X.K CA W S i (rsv G cf (envOf S) st) σ H _
  cases e1 : rsv G cf (envOf S) st with
  | exc x => rw [e1] at h; exact h
  | bad => rw [e1] at h; exact h
  | ok rs =>
    rw [e1] at h
    obtain ⟨r, u, h1, h2, h3⟩ := h
    obtain ⟨q, q1, q2⟩ := getP_append h2
    refine ⟨r, q, h1, q1, fun v' H' sm at' => ?_⟩
    obtain ⟨O', Z', rq, _, _⟩ := ((sr.rep i r h1).2.same sm).part q1 at'
    obtain ⟨k, j, d', g1, g2, g3, g4⟩ := getP_cons q2
    obtain ⟨dq, nq⟩ := q
    have g1 : nq = k + 1 := g1
    subst g1
    cases dq <;> first | (cases g3; done) | skip
    · cases g2
    · cases g2
    rename_i c fs vs
    obtain ⟨hc, g2⟩ := go_some (show go _ _ = some j from g2)
    have rq : Rep X.K CA H' (k + 1) (.ins c fs vs) v' O' Z' := rq
    cases rq with
    | @insO _ a _ _ _ dx fvs _ _ e ko r0 =>
      obtain ⟨v1, Z1, y⟩ : ∃ v1 Z1, (fvs.map (·.2))[j]? = some v1 := by
        obtain ⟨v1, A, B, A', B', O1, Z1, y1, _⟩ := r0.get j d' g3
        exact ⟨v1, Z1, y1⟩
      have lk := findIdx_lookup ko g2 y
      exact ⟨a, CA c, dx, fvs, v1, rfl, e, cc.cl c hc, cc.no c hc f hf, lk, h3 v1 H' sm (at'.append (.cons (.fld e lk) .nil))⟩
theorem p_ix {i k : Nat} {st : List Ptp} {c : C} {e b : Expr} {pos : Pos} (hr : Room k X.A) (he : PE X e (tP X G CA cf W ⟨i, st⟩)) (hb : PE X b (tE X G CA cf W c)) (hs : PlainIx b) : PE X (.Subscript e b pos) (tP X G CA cf W ⟨i, st ++ [.ix c]⟩) := by
  refine PE.weak (pe_ix (ix_seq.or (ix_dict hr)) he hb hs) fun σ H Q ⟨S, sr, h⟩ => ?_
  have h : DenP X.K CA W S i (rsv G cf (envOf S) (st ++ [.ix c])) σ H Q := h
  rw [rsv_ix] at h
  refine ⟨S, sr, ?_⟩
  show DenP X.K CA W S i (rsv G cf (envOf S) st) σ H _
  cases e1 : rsv G cf (envOf S) st with
  | exc x => rw [e1] at h; exact h
  | bad => rw [e1] at h; exact h
  | ok rs =>
    rw [e1] at h
    simp only [Out.bind_ok] at h
    cases e2 : ev G cf (envOf S) c with
    | bad => rw [e2] at h; exact h.elim
    | exc x => rw [e2] at h; exact h.elim
    | ok y =>
      rw [e2] at h
      obtain ⟨r, u, h1, h2, h3⟩ := h
      obtain ⟨q, q1, q2⟩ := getP_append h2
      refine ⟨r, q, h1, q1, fun v' H' sm at' => ?_⟩
      refine ⟨S, sr.same sm, ?_⟩
      rw [e2]
      intro w H2 O2 Z2 pw
      obtain ⟨k1, j, d', g1, g2, g3, g4⟩ := getP_cons q2
      obtain ⟨dq, nq⟩ := q
      have g1 : nq = k1 + 1 := g1
      subst g1
      have at2 : VAt H2 r.v rs v' := at'.same pw.same
      obtain ⟨O', Z', rq, _, _⟩ := ((sr.rep i r h1).2.same (sm.trans pw.same)).part q1 at2
      obtain ⟨a, A, O1, B, A', Z1, B', v1, ev1, _, _, _, va, _⟩ := Rep.kid rq g2 g3
      have fin := h3 v1 H2 (sm.trans pw.same) (at2.append (.cons va .nil))
      subst ev1
      obtain ⟨dy, ny⟩ := y
      have va : VA1 H2 (.ref a) (.at dy) v1 := va
      have rw' : Rep X.K CA H2 ny dy w O2 Z2 := pw.rep
      generalize hq : Rtp.at dy = q at va
      cases va with
      | fld h4 h5 => cases hq
      | lst h4 h5 h6 =>
        cases hq
        obtain ⟨rfl, _⟩ := rw'.int_inv
        refine .inl (.inl ⟨a, _, _, v1, rfl, rfl, .of h4, ?_, fin⟩)
        show (ixN _ _).bind _ = _
        rw [← ix_eq, h5]; exact h6
      | dct h4 h5 h6 =>
        cases hq
        obtain ⟨e4, _⟩ := key_of rw' h5
        exact .inr ⟨a, v1, rfl, .inl ⟨_, _, .inl h4, e4, h6.symm⟩, fin⟩
end
end Vy

namespace Vy
open PySem PySem.Spec
open PyProof.Rows hiding St
open L2
/-! ## values beside slots that change -/
/-- a value beside the slots as they are now -/
structure XVal (K : PySem.W.Frag) (CA : Nat → Addr) (S : Slots) (is : List Nat) (H : Hp) (d : D) (n : Nat) (v : V) (O Z : List Addr) : Prop where
  rep : Rep K CA H n d v O Z
  nd : O.Nodup
  zo : ∀ a ∈ Z, a ∉ O
  no : ∀ a ∈ O, ¬ Any S a
  nz : ∀ a ∈ Z, Nod S is a ∨ ¬ Any S a
def DenX (K : PySem.W.Frag) (CA : Nat → Addr) (W : WX) (J L : List Nat) (S0 : Slots) (H0 : Hp) (is : List Nat) (o : OX) (σ : St) (Q : VK) : Prop := match o with
  | .ok p ρ => ∀ S v H O Z, SRep K CA S σ H → Fr S → Step J L S0 H0 S H → envOf S = ρ → XVal K CA S is H p.1 p.2 v O Z → (∀ a ∈ O, Ou S0 L a ∨ H0 a = none) → (∀ a ∈ Z, Any S0 a ∨ H0 a = none) → Q v H
  | .exc e ρ => ∀ S H cls dd, SRep K CA S σ H → Fr S → Step J L S0 H0 S H → envOf S = ρ → ExRep K CA e cls dd H → W cls dd σ H
  | .bad => False
def tX (X : Cx) (G : Glo) (CA : Nat → Addr) (cf : Runs) (W : WX) (L : List Nat) (x : Xp) : TE := fun σ H Q => ∃ S, SRep X.K CA S σ H ∧ Fr S ∧ DenX X.K CA W cf.io L S H (xnames x) (exX G cf L (envOf S) x) σ Q
section
variable {K : PySem.W.Frag} {CA : Nat → Addr} {W : WX} {S S0 S1 S' : Slots} {σ : St} {H H0 H1 H2 : Hp} {J L is : List Nat} {d : D} {n : Nat} {v : V} {O Z : List Addr} {Q : VK}
theorem Ou.any {a : Addr} (h : Ou S L a) : Any S a := let ⟨i, _, q⟩ := h; q.any
theorem PVal.x (pv : PVal K CA (Nod S is) H H1 d n v O Z) (sr : SRep K CA S σ H) : XVal K CA S is H1 d n v O Z :=
  ⟨pv.rep, pv.nd, pv.zo, fun a h w => sr.any w (pv.fresh a h), fun a h => (pv.zin a h).elim (fun z => .inr fun w => sr.any w z) .inl⟩
theorem DenX.step {o : OX} (s : Step J L S0 H0 S1 H1) (h : DenX K CA W J L S0 H0 is o σ Q) : DenX K CA W J L S1 H1 is o σ Q := by
  cases o with
  | ok p ρ => exact fun S v H O Z a b c d e f g => h S v H O Z a b (s.trans c) d e (fun a' q => (f a' q).elim s.ou fun z => .inr (s.none z)) (fun a' q => (g a' q).elim (s.any a') fun z => .inr (s.none z))
  | exc e ρ => exact fun S H cls dd a b c d => h S H cls dd a b (s.trans c) d
  | bad => exact h
theorem DenX.mono {o : OX} {Q' : VK} (w : ∀ v H, Q v H → Q' v H) (h : DenX K CA W J L S0 H0 is o σ Q) : DenX K CA W J L S0 H0 is o σ Q' := by
  cases o with
  | ok p ρ => exact fun S v H O Z a b c d e f g => w v H (h S v H O Z a b c d e f g)
  | exc e ρ => exact h
  | bad => exact h
/-- a slot takes a value -/
theorem bindX_ok {i : Nat} (sr : SRep K CA S σ H) (f : Fr S) (hi : i < S.length) (hJ : i ∉ J) (st : Step J L S0 H0 S H) (xv : XVal K CA S is H d n v O Z) (ho : ∀ a ∈ O, Ou S0 L a ∨ H0 a = none) (hz : ∀ a ∈ Z, Any S0 a ∨ H0 a = none) :
    ∃ S', SRep K CA S' (σ.set i (some v)) H ∧ Fr S' ∧ Step J L S0 H0 S' H ∧ envOf S' = bindV (envOf S) i (d, n) is := by
  have go : ∀ S1, SRep K CA S1 σ H → Fr S1 → S1.length = S.length → (∀ j a, OwnAt S1 j a → OwnAt S j a) → (∀ a, Any S1 a → Any S a) → (∀ a ∈ Z, ¬ Own S1 a) → envOf (setR S1 i d n v O Z) = bindV (envOf S) i (d, n) is → (∀ (j : Nat) (r' : Root), S1[j]? = some (some r') → ∃ r : Root, S[j]? = some (some r) ∧ r.v = r'.v) →
      ∃ S', SRep K CA S' (σ.set i (some v)) H ∧ Fr S' ∧ Step J L S0 H0 S' H ∧ envOf S' = bindV (envOf S) i (d, n) is := fun S1 sr1 f1 l1 ow an hzz he pin => by
    refine ⟨setR S1 i d n v O Z, sr1.setR xv.rep (by rw [l1]; exact hi), f1.setR xv.nd xv.zo (fun a ha j r _ e q => ?_) (fun a ha j _ w => hzz a ha w.own), ⟨st.keep, st.there, fun j a h => ?_, fun a h => ?_, fun j hj r' h => ?_⟩, he⟩
    · exact xv.no a ha (an a ⟨j, r, e, q⟩)
    · rcases setR_own h with ⟨_, z⟩ | ⟨_, z⟩
      · exact .inr (ho a z)
      · exact st.own j a (ow j a z)
    · rcases setR_any h with z | z
      · rcases List.mem_append.mp z with z | z
        · exact (ho a z).imp (fun q => q.any) id
        · exact hz a z
      · exact st.any a (an a z)
    · rcases setR_some h with ⟨e, _⟩ | ⟨_, z⟩
      · subst e; exact absurd hj hJ
      · obtain ⟨r, h1, h2⟩ := pin j r' z
        obtain ⟨r0, h3, h4⟩ := st.pin j hj r h1
        exact ⟨r0, h3, h4.trans h2⟩
  by_cases hf : full (d, n) = true
  · have hz0 : Z = [] := xv.rep.full (by simpa [full] using hf)
    refine go S sr f rfl (fun _ _ h => h) (fun _ h => h) (by rw [hz0]; simp) ?_ fun j r h => ⟨r, h, rfl⟩
    rw [envOf_setR]; unfold bindV; rw [if_pos hf]
  · obtain ⟨S1, sr1, f1, z⟩ := frz_ok is sr f
    refine go S1 sr1 f1 z.len z.own (fun a ⟨j, r, e, q⟩ => let ⟨r0, h1, h2⟩ := z.any j r e; ⟨j, r0, h1, h2 a q⟩) (fun a ha w => ?_) ?_ z.pin
    · rcases xv.nz a ha with q | q
      · exact z.free f q w
      · obtain ⟨j, w⟩ := w
        exact q (z.own j a w).any
    · rw [envOf_setR, z.env]; unfold bindV; rw [if_neg hf]
/-- an expression of a statement that changes things -/
theorem DenS.onX {o : OX} {f : D × Nat → Env → OS} {D : Ends} (h : DenS K CA W J L S0 H0 (onX o f) D) {Q : VK}
    (q : ∀ p ρ S v H O Z, o = .ok p ρ → SRep K CA S σ H → Fr S → Step J L S0 H0 S H → envOf S = ρ → XVal K CA S is H p.1 p.2 v O Z → (∀ a ∈ O, Ou S0 L a ∨ H0 a = none) → (∀ a ∈ Z, Any S0 a ∨ H0 a = none) → DenS K CA W J L S0 H0 (f p ρ) D → Q v H) : DenX K CA W J L S0 H0 is o σ Q := by
  cases o with
  | ok p ρ => exact fun S v H O Z a b c d e g i => q p ρ S v H O Z rfl a b c d e g i h
  | exc e ρ => exact fun S H cls dd a b c d x => h S σ H cls dd a b c d x
  | bad => exact h
end
section
variable {X : Cx} {nm : Nm} {G : Glo} {CA : Nat → Addr} {cf : Runs} {W : WX} {L : List Nat}
theorem x_pu {c : C} {e : Expr} (h : PE X e (tE X G CA cf W c)) : PE X e (tX X G CA cf W L (.pu c)) := PE.weak h fun σ H Q ⟨S, sr, fr, hd⟩ => by
  rw [exX] at hd
  refine ⟨S, sr, ?_⟩
  cases e1 : ev G cf (envOf S) c with
  | ok p =>
    rw [e1] at hd
    intro v H1 O Z pv
    exact hd S v H1 O Z (sr.same pv.same) fr (Step.same pv.same) rfl (pv.x sr) (fun a h => .inr (pv.fresh a h)) (fun a h => (pv.zin a h).elim .inr fun w => .inl w.any)
  | exc x => rw [e1] at hd; exact fun cls dd H' s r => hd S H' cls dd (sr.same s) fr (Step.same s) rfl r
  | bad => rw [e1] at hd; exact hd
theorem asgX_of {st : Stmt} {i : Nat} {x : Str} {c : Xp} (hi : X.N[i]? = some x) (h : PS X st (tAsg (tX X G CA cf W L c) (gName i))) : PS X st (tS X G CA cf W L (.asgX i c)) := ⟨fun pins s σ H D I ⟨S, sr, fr, hd⟩ => h.run pins s σ H D I (by
  rw [exS] at hd
  refine ⟨S, sr, fr, hd.onX fun p ρ S1 v H1 O Z e sr1 fr1 st1 he xv ho hz hd => ?_⟩
  obtain ⟨hJ, hd⟩ := hd.onJ
  have hil : i < S1.length := by rw [sr1.len, I.len]; exact (List.getElem?_eq_some_iff.mp hi).1
  obtain ⟨S', sr', fr', st', he'⟩ := bindX_ok sr1 fr1 hil (hJ i (by simp)) st1 xv ho hz
  exact hd S' _ H1 sr' fr' st' (by rw [he', he]))⟩
theorem s_asgX {sc : Scope} {i : Nat} {x : Str} {c : Xp} {e : Expr} {p pos : Pos} (sco : ScOk sc X) (hN : X.N.Nodup) (hi : X.N[i]? = some x) (h : sc.names.lookup x = some .local ∨ sc.names.lookup x = some .cell) (he : PE X e (tX X G CA cf W L c)) (hl : noLc e = true) :
    PS X (.Assign [.Name x p] e pos) (tS X G CA cf W L (.asgX i c)) := by
  refine asgX_of hi ?_
  rcases h with h | h
  · exact ps_set hN hi (.inl (sco.loc x h)) he (no_swap hl) (.inr (sco.loc x h))
  · obtain ⟨h1, h2⟩ := sco.cel x h
    exact ps_set hN hi (.inr h1) he (no_swap hl) (.inl h2)
theorem s_expX {c : Xp} {e : Expr} {pos : Pos} (he : PE X e (tX X G CA cf W L c)) (hl : noLc e = true) : PS X (.Expr e pos) (tS X G CA cf W L (.expX c)) := PS.weak (ps_expr he (no_swap hl)) fun D σ H ⟨S, sr, fr, h⟩ => by
  rw [exS] at h
  exact ⟨S, sr, fr, h.onX fun p ρ S1 v H1 O Z e sr1 fr1 st1 he xv ho hz hd => hd S1 σ H1 sr1 fr1 st1 he⟩
theorem s_retX {c : Xp} {e : Expr} {pos : Pos} (he : PE X e (tX X G CA cf W L c)) : PS X (.Return (some e) pos) (tS X G CA cf W L (.retX c)) := PS.weak (ps_ret he) fun D σ H ⟨S, sr, fr, h⟩ => by
  rw [exS] at h
  exact ⟨S, sr, fr, h.onX fun p ρ S1 v H1 O Z e sr1 fr1 st1 he xv ho hz hd => hd S1 σ v H1 O Z sr1 fr1 st1 he xv.rep xv.no (fun a q => (ho a q).imp (fun w => w.own) id) xv.nd hz xv.zo⟩
theorem s_asgXT {is : List Nat} {g : TG} {c : Xp} {tge e : Expr} {pos : Pos} (hg : TgOk X.K CA (.tup is) g) (hlen : ∀ i ∈ is, i < X.N.length) (he : PE X e (tX X G CA cf W L c)) (pg : PG X tge g) (hs : swapsWithSole [tge] e pos.line X.env = pure false) (hw : swappedStores [tge] e X.env = pure none)
    (h1 : (assignEach [tge] X.env).map (·.2) = [assign tge X.env]) : PS X (.Assign [tge] e pos) (tS X G CA cf W L (.asgXT is c)) := ⟨fun pins s σ H D I ⟨S, sr, fr, h⟩ => (ps_asg he pg hs hw h1).run pins s σ H D I (by
  rw [exS] at h
  refine ⟨S, sr, fr, h.onX fun p ρ S2 v H1 O Z e sr2 fr2 st2 hee xv ho hz hd => ?_⟩
  have hN : S2.length = X.N.length := by rw [sr2.len, I.len]
  obtain ⟨hJ, hd⟩ := hd.onJ
  obtain ⟨O1, Z1, p0, lw⟩ := xv.rep.low (Nat.zero_le _)
  have hO1 := p0.zero
  subst hO1
  subst hee
  have fin : ∀ S1, SRep X.K CA S1 σ H1 → Fr S1 → S1.length = S2.length → (∀ j a, OwnAt S1 j a → OwnAt S2 j a) → (∀ a, Any S1 a → Any S2 a) → (∀ a ∈ Z1, ¬ Own S1 a) → (∀ (j : Nat) (r' : Root), S1[j]? = some (some r') → ∃ r : Root, S2[j]? = some (some r) ∧ r.v = r'.v) → DenS X.K CA W cf.io L S H (putS (envOf S1) (.tup is) p.1 .nx) D → g v σ H1 D.nx := fun S1 sr1 f1 l1 ow an hzz pin hd => by
    cases hp : Tg.put (envOf S1) (.tup is) p.1 with
    | exc e => simp only [putS, hp] at hd; exact hd.elim
    | bad => simp only [putS, hp] at hd; exact hd.elim
    | ok ρ' =>
      simp only [putS, hp] at hd
      refine hg S1 σ H1 p.1 v Z1 ρ' _ sr1 p0 hp (fun j hj => by rw [l1, hN]; exact hlen j hj) fun S' σ' sr' hρ pu => ?_
      obtain ⟨f', ow', an'⟩ := f1.put pu hzz
      refine hd S' σ' H1 sr' f' ⟨st2.keep, st2.there, fun j a h => st2.own j a (ow j a (ow' j a h)), fun a h => ?_, fun j hj r' h => ?_⟩ hρ
      · rcases an' a h with z | z
        · exact st2.any a (an a z)
        · rcases lw.all a z with z | z
          · exact (ho a z).imp (fun q => q.any) id
          · exact hz a z
      · rw [(pu.oth j fun q => hJ j q hj).1] at h
        obtain ⟨r, h1, h2⟩ := pin j r' h
        obtain ⟨r0, h3, h4⟩ := st2.pin j hj r h1
        exact ⟨r0, h3, h4.trans h2⟩
  by_cases hf : full p = true
  · rw [if_pos hf] at hd
    have hz0 : Z = [] := xv.rep.full (by simpa [full] using hf)
    refine fin S2 sr2 fr2 rfl (fun _ _ h => h) (fun _ h => h) (fun a ha q => ?_) (fun j r h => ⟨r, h, rfl⟩) hd
    rcases lw.all a ha with z | z
    · obtain ⟨j, q⟩ := q
      exact xv.no a z q.any
    · rw [hz0] at z; simp at z
  · rw [if_neg hf] at hd
    obtain ⟨S1, sr1, f1, z⟩ := frz_ok (xnames c) sr2 fr2
    rw [← z.env] at hd
    refine fin S1 sr1 f1 z.len z.own (fun a ⟨j, r, e, q⟩ => let ⟨r0, h1, h2⟩ := z.any j r e; ⟨j, r0, h1, h2 a q⟩) (fun a ha q => ?_) z.pin hd
    obtain ⟨j, w⟩ := q
    rcases lw.all a ha with y | y
    · exact xv.no a y (z.own j a w).any
    · rcases xv.nz a y with y | y
      · exact z.free fr2 y ⟨j, w⟩
      · exact y (z.own j a w).any)⟩
/-- a test that changes things -/
def tXT (X : Cx) (G : Glo) (CA : Nat → Addr) (cf : Runs) (W : WX) (L : List Nat) (x : Xp) : TT := fun σ H Q => ∃ S, SRep X.K CA S σ H ∧ Fr S ∧ (match exX G cf L (envOf S) x with
  | .ok p ρ => ∃ b, truth p.1 = some b ∧ ∀ S' H', SRep X.K CA S' σ H' → Fr S' → Step cf.io L S H S' H' → envOf S' = ρ → Q b H'
  | .exc e ρ => ∀ S' H' cls dd, SRep X.K CA S' σ H' → Fr S' → Step cf.io L S H S' H' → envOf S' = ρ → ExRep X.K CA e cls dd H' → W cls dd σ H'
  | .bad => False)
theorem tt_val {c : Xp} {e : Expr} (h : PE X e (tX X G CA cf W L c)) (he : ∀ whole, isTrue e X.env whole = (do let v ← whole; standAt e.pos; holding [v] (truthy v))) : PT X e (tXT X G CA cf W L c) := by
  refine PT.weak (pt_truth h he) fun σ H Q ⟨S, sr, fr, hd⟩ => ⟨S, sr, fr, ?_⟩
  cases e1 : exX G cf L (envOf S) c with
  | ok p ρ =>
    rw [e1] at hd
    obtain ⟨b, hb, hd⟩ := hd
    exact fun S' v H' O Z a b' c' d xv _ _ => ⟨b, tru_of xv.rep hb, hd S' H' a b' c' d⟩
  | exc x ρ => rw [e1] at hd; exact hd
  | bad => rw [e1] at hd; exact hd
theorem s_ifX {c : Xp} {e : Expr} {a b : List Stmt} {sa sb : List S} {pos : Pos} (hc : PT X e (tXT X G CA cf W L c)) (ha : PSs X a (tB X G CA cf W L sa)) (hb : PSs X b (tB X G CA cf W L sb)) : PS X (.If e a b pos) (tS X G CA cf W L (.ifX c sa sb)) := PS.weak (ps_if hc ha hb) fun D σ H ⟨S, sr, fr, h⟩ => by
  rw [exS] at h
  refine ⟨S, sr, fr, ?_⟩
  cases e1 : exX G cf L (envOf S) c with
  | ok p ρ =>
    rw [e1] at h
    simp only [onX_ok] at h
    cases e2 : truth p.1 with
    | none => rw [e2] at h; exact h.elim
    | some t =>
      rw [e2] at h
      refine ⟨t, e2, fun S' H' sr' fr' st' he => ?_⟩
      subst he
      cases t with
      | true => exact ⟨S', sr', fr', DenS.step st' h⟩
      | false => exact ⟨S', sr', fr', DenS.step st' h⟩
  | exc x ρ => rw [e1] at h; exact fun S' H' cls dd a b c d x => h S' σ H' cls dd a b c d x
  | bad => rw [e1] at h; exact h
end
end Vy

namespace Vy
open PySem PySem.Spec
open PyProof.Rows hiding St
open L2
/-! ## things changed at a part of a slot -/
theorem nodeP_some {S : Slots} {i : Nat} {rs : List Rtp} {q : D × Nat} (h : nodeP (envOf S) i rs = some q) : ∃ r : Root, S[i]? = some (some r) ∧ getP (r.d, r.n) rs = some q := by
  unfold nodeP at h
  obtain ⟨p, hp, h⟩ := Option.bind_eq_some_iff.mp h
  obtain ⟨r, hr, e⟩ := slot_get hp
  exact ⟨r, hr, by rw [e]; exact h⟩
theorem nodeP_of {S : Slots} {i : Nat} {rs : List Rtp} {r : Root} (h : S[i]? = some (some r)) : nodeP (envOf S) i rs = getP (r.d, r.n) rs := by
  unfold nodeP
  rw [envOf_get, h]; rfl
section
variable {K : PySem.W.Frag} {CA : Nat → Addr} {W : WX} {S : Slots} {σ : St} {H H2 : Hp} {J L ns is : List Nat} {Q : VK}
theorem PVs.zfull {M : Addr → Prop} {ps : List (D × Nat)} {vs : List V} {O Z : List Addr} (pv : PVs K CA M H H2 ps vs O Z) (h : ps.all full = true) : Z = [] := by
  induction pv with
  | nil => rfl
  | cons q _ _ _ ih =>
    rw [List.all_cons, Bool.and_eq_true] at h
    rw [q.rep.full (by simpa [full] using h.1), ih h.2]; rfl
theorem mop_core {i : Nat} {rs : List Rtp} {r : Root} {q : D × Nat} {u : (D × Nat) × (D × Nat)} {f : D × Nat → Option ((D × Nat) × (D × Nat))} {ps : List (D × Nat)} {vs : List V} {O Z : List Addr} {a : Addr} (sr : SRep K CA S σ H) (fr : Fr S) (hi : S[i]? = some (some r)) (hg : getP (r.d, r.n) rs = some q)
    (pv : PVs K CA (Nod S ns) H H2 ps vs O Z) (sm : Same H H2) (at' : VAt H2 r.v rs (.ref a)) (hu : f q = some u) (hlev : u.1.2 ≤ q.2) (h : DenX K CA W J L S H is (mopX L (envOf S) i rs ns ps f) σ Q) :
    ∃ On Zn, Rep K CA H2 q.2 q.1 (.ref a) On Zn ∧ On.Nodup ∧ (∀ x ∈ Zn, x ∉ On) ∧ (∀ x ∈ On, x ∉ O) ∧ (∀ x ∈ Zn, x ∉ O) ∧ (∀ x ∈ On, x ∉ Z) ∧
      ∀ H3 O'' Z'' v Ov, Keep [a] H2 H3 → (∀ x, H2 x ≠ none → H3 x ≠ none) → a ∈ On → Rep K CA H3 u.1.2 u.1.1 (.ref a) O'' Z'' → O''.Nodup → (∀ z ∈ Z'', z ∉ O'') → (∀ x ∈ O'', x ∈ On ∨ x ∈ O) → (∀ x ∈ Z'', x ∈ On ∨ x ∈ Zn ∨ x ∈ O ∨ x ∈ Z) →
        Rep K CA H3 u.2.2 u.2.1 v Ov [] → Ov.Nodup → (∀ x ∈ Ov, x ∈ On ∧ x ∉ O'' ∧ x ∉ Z'') → Q v H3 := by
  unfold mopX at h
  by_cases hL : i ∈ L
  · rw [if_pos hL] at h; exact h.elim
  rw [if_neg hL, envOf_get, hi] at h
  simp only [Option.bind_some, id_eq, Option.map_some, hg, hu] at h
  have go : ∀ S1, SRep K CA S1 σ H → Fr S1 → Step J L S H S1 H → S1[i]? = some (some r) → (∀ x ∈ Z, ¬ Own S1 x ∧ Any S x ∨ H x = none) → (∀ x ∈ r.O, x ∉ Z) → DenX K CA W J L S H is (OX.of ((chgP (envOf S1) i rs u.1).map fun ρ' => OX.ok u.2 ρ')) σ Q →
      ∃ On Zn, Rep K CA H2 q.2 q.1 (.ref a) On Zn ∧ On.Nodup ∧ (∀ x ∈ Zn, x ∉ On) ∧ (∀ x ∈ On, x ∉ O) ∧ (∀ x ∈ Zn, x ∉ O) ∧ (∀ x ∈ On, x ∉ Z) ∧
      ∀ H3 O'' Z'' v Ov, Keep [a] H2 H3 → (∀ x, H2 x ≠ none → H3 x ≠ none) → a ∈ On → Rep K CA H3 u.1.2 u.1.1 (.ref a) O'' Z'' → O''.Nodup → (∀ z ∈ Z'', z ∉ O'') → (∀ x ∈ O'', x ∈ On ∨ x ∈ O) → (∀ x ∈ Z'', x ∈ On ∨ x ∈ Zn ∨ x ∈ O ∨ x ∈ Z) →
        Rep K CA H3 u.2.2 u.2.1 v Ov [] → Ov.Nodup → (∀ x ∈ Ov, x ∈ On ∧ x ∉ O'' ∧ x ∉ Z'') → Q v H3 := by
    intro S1 sr1 f1 st1 hi1 hz hrz h
    obtain ⟨On, Zn, r1, h1, h2, h3, h4, h5, h6, h7⟩ := node_ok (L := L) (J := J) (S0 := S) sr1 f1 st1 hi1 hL hg sm at'
    have chg : chgP (envOf S1) i rs u.1 = some (setV (envOf S1) i (putP r.d rs u.1.1, min r.n (u.1.2 + rs.length))) := by
      unfold chgP
      rw [envOf_get, hi1]
      simp [hg]
    rw [chg] at h
    refine ⟨On, Zn, r1, h3, h4, fun x hx w => h5 x hx (pv.fresh x w), fun x hx w => h6 x hx (pv.fresh x w), fun x hx => hrz x (h1 x hx), fun H3 O'' Z'' v Ov k th ha rep nd zo ho hz' rv ndv hov => ?_⟩
    obtain ⟨S', g1, g2, g3, g4, g5, g6, g7⟩ := h7 H3 u.1.1 u.1.2 O'' Z'' k th ha rep hlev nd zo (fun x hx => (ho x hx).imp id (pv.fresh x)) (fun x hx => by
      rcases hz' x hx with z | z | z | z
      · exact .inl z
      · exact .inr (.inl z)
      · exact .inr (.inr (.inl (pv.fresh x z)))
      · rcases hz x z with y | y
        · exact .inr (.inr (.inr y))
        · exact .inr (.inr (.inl y)))
    refine h S' v H3 Ov [] g1 g2 g3 g4 ⟨rv, ndv, by simp, fun x hx => g7 x (hov x hx).1 (hov x hx).2.1 (hov x hx).2.2, by simp⟩ (fun x hx => .inl ?_) (by simp)
    have := h1 x (hov x hx).1
    have ow : OwnAt S1 i x := ⟨r, hi1, this⟩
    exact ⟨i, hL, r, hi, this⟩
  by_cases hf : ps.all full = true
  · rw [if_pos hf] at h
    have hz := pv.zfull hf
    subst hz
    exact go S sr fr Step.refl hi (by simp) (by simp) h
  · rw [if_neg hf] at h
    by_cases hin : i ∈ ns
    · rw [if_pos hin] at h; exact h.elim
    rw [if_neg hin] at h
    obtain ⟨S1, sr1, f1, z⟩ := frz_ok ns sr fr
    rw [← z.env] at h
    refine go S1 sr1 f1 z.step (by rw [z.oth i hin]; exact hi) (fun x hx => ?_) (fun x hx w => ?_) h
    · rcases pv.zin x hx with y | y
      · exact .inr y
      · exact .inl ⟨z.free fr y, y.any⟩
    · rcases pv.zin x w with y | ⟨j, hj, r', e, y⟩
      · exact sr.own ⟨i, r, hi, hx⟩ y
      · rcases List.mem_append.mp y with y | y
        · have := fr.sep i j x ⟨r, hi, hx⟩ ⟨r', e, y⟩
          exact hin (this ▸ hj)
        · exact fr.zo i x ⟨r, hi, hx⟩ j r' e y
end
section
variable {X : Cx} {nm : Nm} {G : Glo} {CA : Nat → Addr} {cf : Runs} {W : WX} {L : List Nat}
/-- what an operation asks of the machine -/
def MopR (X : Cx) (CA : Nat → Addr) (m : MO) (T : V → Hp → Prop) (R : V → List V → Hp → VK → Prop) : Prop :=
  (∀ {q : D × Nat} {v : V} {O Z : List Addr} {H : Hp}, mTy m q = true → Rep X.K CA H q.2 q.1 v O Z → (∃ a, v = .ref a) ∧ T v H) ∧
  ∀ {q : D × Nat} {ps : List (D × Nat)} {u : (D × Nat) × (D × Nat)} {M : Addr → Prop} {H H2 : Hp} {vs : List V} {a : Addr} {On Zn O Z : List Addr} {Q : VK}, nodeOp m q ps = some u → mTy m q = true → Same H H2 → PVs X.K CA M H H2 ps vs O Z → Rep X.K CA H2 q.2 q.1 (.ref a) On Zn → On.Nodup → (∀ x ∈ Zn, x ∉ On) → (∀ x ∈ On, x ∉ O) → (∀ x ∈ Zn, x ∉ O) → (∀ x ∈ On, x ∉ Z) →
    (∀ H3 O'' Z'' v Ov, Keep [a] H2 H3 → (∀ x, H2 x ≠ none → H3 x ≠ none) → a ∈ On → Rep X.K CA H3 u.1.2 u.1.1 (.ref a) O'' Z'' → O''.Nodup → (∀ z ∈ Z'', z ∉ O'') → (∀ x ∈ O'', x ∈ On ∨ x ∈ O) → (∀ x ∈ Z'', x ∈ On ∨ x ∈ Zn ∨ x ∈ O ∨ x ∈ Z) →
        Rep X.K CA H3 u.2.2 u.2.1 v Ov [] → Ov.Nodup → (∀ x ∈ Ov, x ∈ On ∧ x ∉ O'' ∧ x ∉ Z'') → Q v H3) → R (.ref a) vs H2 Q
theorem lvIn_le {n : Nat} {p : D × Nat} : lvIn n p ≤ n := by unfold lvIn; split <;> omega
theorem nodeOp_lev {m : MO} {q : D × Nat} {ps : List (D × Nat)} {u : (D × Nat) × (D × Nat)} (h : nodeOp m q ps = some u) : u.1.2 ≤ q.2 := by
  cases m with
  | app =>
    replace h : opApp q ps = some u := h
    unfold opApp at h; split at h
    · obtain ⟨_, h⟩ := go_some h; cases h; exact lvIn_le
    · cases h
  | pop =>
    replace h : opPop q ps = some u := h
    unfold opPop at h; split at h
    · obtain ⟨x, _, h⟩ := Option.bind_eq_some_iff.mp h; obtain ⟨_, h⟩ := go_some h; cases h; exact Nat.le_refl _
    · cases h
  | popi =>
    replace h : opPopi q ps = some u := h
    unfold opPopi at h; split at h
    · obtain ⟨_, h⟩ := go_some h; obtain ⟨j, _, h⟩ := Option.bind_eq_some_iff.mp h; obtain ⟨x, _, h⟩ := Option.bind_eq_some_iff.mp h; obtain ⟨_, h⟩ := go_some h; cases h; exact Nat.le_refl _
    · cases h
  | popk =>
    replace h : opPopk q ps = some u := h
    unfold opPopk at h; split at h
    · obtain ⟨_, h⟩ := go_some h; obtain ⟨j, _, h⟩ := Option.bind_eq_some_iff.mp h; obtain ⟨x, _, h⟩ := Option.bind_eq_some_iff.mp h; obtain ⟨_, h⟩ := go_some h; cases h; exact Nat.le_refl _
    · cases h
  | clr =>
    replace h : opClr q ps = some u := h
    unfold opClr at h; split at h
    · cases h; exact Nat.le_refl _
    · cases h
  | clrk =>
    replace h : opClrk q ps = some u := h
    unfold opClrk at h; split at h
    · cases h; exact Nat.le_refl _
    · cases h
  | ins =>
    replace h : opIns q ps = some u := h
    unfold opIns at h; split at h
    · obtain ⟨_, h⟩ := go_some h; cases h; exact lvIn_le
    · cases h
  | rem =>
    replace h : opRem q ps = some u := h
    unfold opRem at h; split at h
    · obtain ⟨ss, _, h⟩ := Option.bind_eq_some_iff.mp h; obtain ⟨_, h⟩ := go_some h; cases h; exact Nat.le_refl _
    · cases h
  | rvr =>
    replace h : opRvr q ps = some u := h
    unfold opRvr at h; split at h
    · cases h; exact Nat.le_refl _
    · cases h
  | sda =>
    replace h : opSda q ps = some u := h
    unfold opSda at h; split at h
    · obtain ⟨_, h⟩ := go_some h
      split at h
      · obtain ⟨v, _, h⟩ := Option.bind_eq_some_iff.mp h
        split at h
        · obtain ⟨_, h⟩ := go_some h; cases h; exact Nat.le_refl _
        · cases h
      · cases h; exact Nat.le_refl _
    · cases h
/-- an operation's reading -/
theorem mop_read {p : Pth} {m : MO} {es : List C} {T : V → Hp → Prop} {R : V → List V → Hp → VK → Prop} (hr : MopR X CA m T R) {σ : St} {H : Hp} {Q : VK} (h : tX X G CA cf W L (.mop p m es) σ H Q) : tP X G CA cf W p σ H fun x H1 => T x H1 ∧ tL X G CA cf W es σ H1 fun vs H2 => R x vs H2 Q := by
  obtain ⟨S, sr, fr, h⟩ := h
  rw [exX] at h
  refine ⟨S, sr, ?_⟩
  cases e1 : rsv G cf (envOf S) p.st with
  | exc x => rw [e1] at h; exact fun cls dd H' s r => h S H' cls dd (sr.same s) fr (Step.same s) rfl r
  | bad => rw [e1] at h; exact h
  | ok rs =>
    rw [e1] at h
    simp only [onO_ok] at h
    cases e2 : nodeP (envOf S) p.i rs with
    | none => rw [e2] at h; exact h.elim
    | some q =>
      rw [e2] at h
      simp only [Option.map_some, OX.of_some] at h
      by_cases hm : mTy m q = true
      rotate_left
      · rw [if_neg hm] at h; exact h.elim
      rw [if_pos hm] at h
      obtain ⟨r, hi, hg⟩ := nodeP_some e2
      refine ⟨r, q, hi, hg, fun x H1 s1 at1 => ?_⟩
      obtain ⟨O1, Z1, r1, _, _⟩ := ((sr.rep _ r hi).2.same s1).part hg at1
      obtain ⟨⟨a, rfl⟩, ht⟩ := hr.1 hm r1
      refine ⟨ht, S, sr.same s1, ?_⟩
      cases e3 : evs G cf (envOf S) es with
      | exc x => rw [e3] at h; exact fun cls dd H' s r => h S H' cls dd (sr.same (s1.trans s)) fr (Step.same (s1.trans s)) rfl r
      | bad => rw [e3] at h; exact h.elim
      | ok ps =>
        rw [e3] at h
        intro vs H2 O Z s2 pv
        have sm := s1.trans s2
        cases e4 : nodeOp m q ps with
        | none =>
          simp only [onO_ok, mopX] at h
          by_cases hL : p.i ∈ L
          · rw [if_pos hL] at h; exact h.elim
          rw [if_neg hL, envOf_get, hi] at h
          simp only [Option.bind_some, id_eq, Option.map_some, hg, e4, Option.bind_none, OX.of_none] at h
          exact h.elim
        | some u =>
          obtain ⟨On, Zn, k1, k2, k3, k4, k5, k6, k7⟩ := mop_core sr fr hi hg (pv.ahead s1) sm (at1.same s2) e4 (nodeOp_lev e4) h
          exact hr.2 e4 hm sm (pv.ahead s1) k1 k2 k3 k4 k5 k6 k7
end
end Vy

namespace Vy
open PySem PySem.Spec
open PyProof.Rows hiding St
open L2
section
variable {K : PySem.W.Frag} {CA : Nat → Addr} {H H2 : Hp} {a : Addr} {k n : Nat} {ds : List D} {vs ws : List V} {O Z : List Addr} {o : HO}
theorem keepU : Keep [a] H2 (upd H2 a o) := fun y u e hn => by rw [upd_ne (by simpa using hn)]; exact e
theorem thereU : ∀ x, H2 x ≠ none → upd H2 a o x ≠ none := fun x h => by
  by_cases e : x = a
  · subst e; rw [upd_same]; simp
  · rw [upd_ne e]; exact h
theorem fixU (h : Mut (H2 a)) : Fix [a] H2 := fun y hy => by simp at hy; subst hy; exact h
theorem Reps.updU (r : Reps K CA H2 k ds vs O Z) (m : Mut (H2 a)) (n : a ∉ O ++ Z) : Reps K CA (upd H2 a o) k ds vs O Z := r.keep keepU (fixU m) fun b hb z => by simp at z; subst z; exact n hb
theorem Rep.updU {d : D} {v : V} (r : Rep K CA H2 k d v O Z) (m : Mut (H2 a)) (n : a ∉ O ++ Z) : Rep K CA (upd H2 a o) k d v O Z := r.keep keepU (fixU m) fun b hb z => by simp at z; subst z; exact n hb
/-- a list of one's own -/
theorem lst_own {m : Nat} {xs : List D} (r : Rep K CA H2 m (.lst xs) (.ref a) O Z) (h : 1 ≤ m) : ∃ k vs O', m = k + 1 ∧ H2 a = some (.lst vs) ∧ Reps K CA H2 k xs vs O' Z ∧ O = a :: O' := by
  obtain ⟨k, a', vs, O', e1, e2, e3, e4, e5⟩ := r.lst_own h
  cases e2
  exact ⟨k, vs, O', e1, e3, e4, e5⟩
theorem dct_own {m : Nat} {ks xs : List D} (r : Rep K CA H2 m (.dct ks xs) (.ref a) O Z) (h : 1 ≤ m) : ∃ k kvs O', m = k + 1 ∧ H2 a = some (.dK kvs) ∧ KeyOk ks kvs ∧ Reps K CA H2 k xs (kvs.map (·.2)) O' Z ∧ O = a :: O' := by
  cases r with
  | dctO e ko r => exact ⟨_, _, _, rfl, e, ko, r, rfl⟩
  | dctZ e ko r => omega
theorem getLast_at {α : Type} : ∀ (xs : List α) (x : α), xs.getLast? = some x → xs[xs.length - 1]? = some x := fun xs x h => by rw [← List.getLast?_eq_getElem?]; exact h
end
section
variable {X : Cx} {nm : Nm} {G : Glo} {CA : Nat → Addr} {cf : Runs} {W : WX} {L : List Nat}
def TL' (X : Cx) (v : V) (H : Hp) : Prop := tyV X.K "list" v H
theorem mTy_lst {m : MO} {q : D × Nat} (h : mTy m q = true) : 1 ≤ q.2 := by
  unfold mTy at h
  rw [Bool.and_eq_true] at h
  simpa using h.1
theorem ty_lst {q : D × Nat} {v : V} {O Z : List Addr} {H : Hp} {xs : List D} (e : q.1 = .lst xs) (r : Rep X.K CA H q.2 q.1 v O Z) : (∃ a, v = .ref a) ∧ TL' X v H := by
  rw [e] at r
  obtain ⟨a, vs, O', Z', m, rfl, h, _⟩ := r.lst_inv
  exact ⟨⟨a, rfl⟩, .inl ⟨rfl, vs, .of h⟩⟩
theorem ty_of {m : MO} (hm : m ≠ .popk ∧ m ≠ .sda ∧ m ≠ .clrk) {q : D × Nat} {v : V} {O Z : List Addr} {H : Hp} (h : mTy m q = true) (r : Rep X.K CA H q.2 q.1 v O Z) : (∃ a, v = .ref a) ∧ TL' X v H := by
  obtain ⟨d, n⟩ := q
  cases d with
  | lst xs => exact ty_lst rfl r
  | _ => exfalso; unfold mTy at h; cases m <;> simp_all
theorem m_app : MopR X CA .app (TL' X) rAppend := by
  refine ⟨fun h r => ty_of (by simp) h r, fun {q ps u M H H2 vs a On Zn O Z Q} hu hm sm pv r nd zo d1 d2 d3 k => ?_⟩
  replace hu : opApp q ps = some u := hu
  unfold opApp at hu
  split at hu <;> first | (cases hu; done) | skip
  case h_1 q1 q2 xs n p =>
    obtain ⟨hz, hu⟩ := go_some hu
    cases hu
    obtain ⟨k1, ws, O1, e1, h1, rs, rfl⟩ := lst_own r (by simp)
    have e1 : n = k1 := by simpa using e1
    subst e1
    obtain ⟨v, rfl, pv1⟩ := pv.one_inv
    have na := (List.nodup_cons.mp nd)
    have aO : a ∉ O := d1 a (by simp)
    have aZ : a ∉ Z := d3 a (by simp)
    have aZn : a ∉ Zn := fun w => zo a w (by simp)
    have mu : Mut (H2 a) := by rw [h1]; trivial
    refine ⟨a, ws, v, rfl, rfl, h1, by rw [SZ_eq, ← rs.length]; omega, ?_⟩
    have fin : ∀ (k0 : Nat) (Op Zp : List Addr), k0 ≤ n → Rep X.K CA H2 k0 p.1 v Op Zp → (∀ y ∈ Op, y ∈ O) → Op.Nodup → (∀ y ∈ Zp, y ∉ Op) → (∀ y ∈ Zp, y ∈ O ∨ y ∈ Z) → lvIn (n + 1) p = k0 + 1 → Q .non (upd H2 a (.lst (ws ++ [v]))) := by
      intro k0 Op Zp hk rp hOp ndp zop hZp hl
      obtain ⟨O2, Z2, r2, lw⟩ := rs.low hk
      have z2 : ∀ y ∈ Z2, y ≠ a ∧ y ∉ O := fun y hy => by
        rcases lw.all y hy with z | z
        · exact ⟨fun e => na.1 (e ▸ z), d1 y (by simp [z])⟩
        · exact ⟨fun e => aZn (e ▸ z), d2 y z⟩
      have rr : Reps X.K CA (upd H2 a (.lst (ws ++ [v]))) k0 (xs ++ [p.1]) (ws ++ [v]) (O2 ++ Op) (Z2 ++ Zp) := by
        have r2' := r2.updU (o := .lst (ws ++ [v])) mu fun w => by
          rcases List.mem_append.mp w with w | w
          · exact na.1 (lw.own a w)
          · exact (z2 a w).1 rfl
        have rp' := rp.updU (o := .lst (ws ++ [v])) mu fun w => by
          rcases List.mem_append.mp w with w | w
          · exact aO (hOp a w)
          · rcases hZp a w with w | w
            · exact aO w
            · exact aZ w
        have := r2'.append (.cons rp' .nil)
        simpa using this
      refine k _ (a :: (O2 ++ Op)) (Z2 ++ Zp) .non [] keepU thereU (by simp) (by rw [hl]; exact .lstO upd_same rr) ?_ ?_ ?_ ?_ .non (by simp) (by simp)
      · refine List.nodup_cons.mpr ⟨fun z => ?_, List.nodup_append.mpr ⟨lw.nd na.2, ndp, fun y hy w hw e => ?_⟩⟩
        · rcases List.mem_append.mp z with z | z
          · exact na.1 (lw.own a z)
          · exact aO (hOp a z)
        · subst e; exact d1 y (by simp [lw.own y hy]) (hOp y hw)
      · intro y hy z
        rcases List.mem_append.mp hy with q | q
        · rcases List.mem_cons.mp z with z | z
          · exact (z2 y q).1 z
          · rcases List.mem_append.mp z with z | z
            · exact lw.zo na.2 (fun y hy w => zo y hy (by simp [w])) y q z
            · exact (z2 y q).2 (hOp y z)
        · rcases List.mem_cons.mp z with z | z
          · subst z
            rcases hZp y q with w | w
            · exact aO w
            · exact aZ w
          · rcases List.mem_append.mp z with z | z
            · have := lw.own y z
              rcases hZp y q with w | w
              · exact d1 y (by simp [this]) w
              · exact d3 y (by simp [this]) w
            · exact zop y q z
      · intro y hy
        rcases List.mem_cons.mp hy with q | q
        · exact .inl (by simp [q])
        · rcases List.mem_append.mp q with q | q
          · exact .inl (by simp [lw.own y q])
          · exact .inr (hOp y q)
      · intro y hy
        rcases List.mem_append.mp hy with q | q
        · rcases lw.all y q with q | q
          · exact .inl (by simp [q])
          · exact .inr (.inl q)
        · exact (hZp y q).elim (fun z => .inr (.inr (.inl z))) fun z => .inr (.inr (.inr z))
    by_cases h0 : p.1.mdep = 0
    · obtain ⟨_, _, rp⟩ := pv1.rep.imm (m := n) h0
      exact fin n [] [] (Nat.le_refl _) rp (by simp) (by simp) (by simp) (by simp) (by unfold lvIn; rw [if_pos h0])
    · obtain ⟨Op, Zp, rp, lp⟩ := pv1.rep.low (Nat.min_le_right n p.2)
      exact fin _ Op Zp (Nat.min_le_left _ _) rp lp.own (lp.nd pv1.nd) (lp.zo pv1.nd pv1.zo) lp.all (by unfold lvIn; rw [if_neg h0]; omega)
/-- one taken out of a list of one's own -/
theorem take_out {H2 : Hp} {a : Addr} {n j : Nat} {xs : List D} {x : D} {ws : List V} {O1 Zn : List Addr} (h1 : H2 a = some (.lst ws)) (rs : Reps X.K CA H2 n xs ws O1 Zn) (nd : (a :: O1).Nodup) (zo : ∀ y ∈ Zn, y ∉ a :: O1) (hx : xs[j]? = some x) (hm : x.mdep ≤ n) :
    ∃ v Ov Or Zr, ws[j]? = some v ∧ Rep X.K CA (upd H2 a (.lst (ws.eraseIdx j))) n x v Ov [] ∧ Rep X.K CA (upd H2 a (.lst (ws.eraseIdx j))) (n + 1) (.lst (xs.eraseIdx j)) (.ref a) (a :: Or) Zr ∧ (a :: Or).Nodup ∧ (∀ z ∈ Zr, z ∉ a :: Or) ∧ (∀ y ∈ a :: Or, y ∈ a :: O1) ∧ (∀ y ∈ Zr, y ∈ Zn) ∧ Ov.Nodup ∧ ∀ y ∈ Ov, y ∈ a :: O1 ∧ y ∉ a :: Or ∧ y ∉ Zr := by
  obtain ⟨v, A, B, A', B', Ov, Zv, e1, rv, rfl, rfl, ra, rb⟩ := rs.get j x hx
  have := rv.full hm
  subst this
  have na := List.nodup_cons.mp nd
  obtain ⟨n1, n2, n3⟩ := List.nodup_append.mp na.2
  obtain ⟨n4, n5, n6⟩ := List.nodup_append.mp n1
  have mu : Mut (H2 a) := by rw [h1]; trivial
  have aZ : ∀ {y}, y ∈ A' ++ B' → y ∈ A' ++ [] ++ B' := fun h => by simpa using h
  have rr := (ra.append rb).updU (o := .lst (ws.eraseIdx j)) (a := a) mu fun w => by
    rcases List.mem_append.mp w with w | w
    · exact na.1 (by rcases List.mem_append.mp w with w | w <;> simp [w])
    · exact zo a (aZ w) (by simp)
  rw [← List.eraseIdx_eq_take_drop_succ, ← List.eraseIdx_eq_take_drop_succ] at rr
  refine ⟨v, Ov, A ++ B, A' ++ B', e1, rv.updU mu fun w => na.1 (by simp at w; simp [w]), .lstO upd_same rr, ?_, ?_, ?_, fun y hy => aZ hy, n5, ?_⟩
  · refine List.nodup_cons.mpr ⟨fun w => na.1 (by rcases List.mem_append.mp w with w | w <;> simp [w]), List.nodup_append.mpr ⟨n4, n2, fun y hy z hz e => n3 y (by simp [hy]) z hz e⟩⟩
  · intro z hz w
    refine zo z (aZ hz) ?_
    rcases List.mem_cons.mp w with w | w
    · simp [w]
    · rcases List.mem_append.mp w with w | w <;> simp [w]
  · intro y hy
    rcases List.mem_cons.mp hy with w | w
    · simp [w]
    · rcases List.mem_append.mp w with w | w <;> simp [w]
  · intro y hy
    refine ⟨by simp [hy], fun w => ?_, fun w => zo y (aZ w) (by simp [hy])⟩
    rcases List.mem_cons.mp w with w | w
    · subst w; exact na.1 (by simp [hy])
    · rcases List.mem_append.mp w with w | w
      · exact n6 y w y hy rfl
      · exact n3 y (by simp [hy]) y w rfl
theorem m_pop : MopR X CA .pop (TL' X) rPop := by
  refine ⟨fun h r => ty_of (by simp) h r, fun {q ps u M H H2 vs a On Zn O Z Q} hu hm sm pv r nd zo d1 d2 d3 k => ?_⟩
  replace hu : opPop q ps = some u := hu
  unfold opPop at hu
  split at hu <;> first | (cases hu; done) | skip
  case h_1 q1 q2 xs n =>
    obtain ⟨x, hx, hu⟩ := Option.bind_eq_some_iff.mp hu
    obtain ⟨hz, hu⟩ := go_some hu
    cases hu
    obtain ⟨k1, ws, O1, e1, h1, rs, rfl⟩ := lst_own r (by simp)
    have e1 : n = k1 := by simpa using e1
    subst e1
    cases pv
    obtain ⟨v, Ov, Or, Zr, g1, g2, g3, g4, g5, g6, g7, g8, g9⟩ := take_out h1 rs nd zo (getLast_at _ _ hx) hz
    rw [rs.length] at g1
    have e2 : ws.dropLast = ws.eraseIdx (xs.length - 1) := by rw [rs.length, ← List.eraseIdx_length_sub_one]
    have e3 : xs.dropLast = xs.eraseIdx (xs.length - 1) := by rw [← List.eraseIdx_length_sub_one]
    refine ⟨a, ws, v, rfl, rfl, h1, g1, ?_⟩
    rw [e2]
    exact k _ (a :: Or) Zr v Ov keepU thereU (by simp) (by rw [e3]; exact g3) g4 g5 (fun y hy => .inl (g6 y hy)) (fun y hy => .inr (.inl (g7 y hy))) g2 g8 g9
theorem m_popi : MopR X CA .popi (TL' X) rPopAt := by
  refine ⟨fun h r => ty_of (by simp) h r, fun {q ps u M H H2 vs a On Zn O Z Q} hu hm sm pv r nd zo d1 d2 d3 k => ?_⟩
  replace hu : opPopi q ps = some u := hu
  unfold opPopi at hu
  split at hu <;> first | (cases hu; done) | skip
  case h_1 q1 q2 xs n i m =>
    obtain ⟨hb, hu⟩ := go_some hu
    obtain ⟨j, hj, hu⟩ := Option.bind_eq_some_iff.mp hu
    obtain ⟨x, hx, hu⟩ := Option.bind_eq_some_iff.mp hu
    obtain ⟨hz, hu⟩ := go_some hu
    cases hu
    obtain ⟨k1, ws, O1, e1, h1, rs, rfl⟩ := lst_own r (by simp)
    have e1 : n = k1 := by simpa using e1
    subst e1
    obtain ⟨w, rfl, pv1⟩ := pv.one_inv
    obtain ⟨rfl, _⟩ := pv1.rep.int_inv
    obtain ⟨v, Ov, Or, Zr, g1, g2, g3, g4, g5, g6, g7, g8, g9⟩ := take_out h1 rs nd zo hx hz
    refine ⟨a, ws, i, j, v, rfl, rfl, h1, by omega, by omega, by rw [← rs.length]; exact (ixN_seq (by rw [← ix_eq]; exact hj)).1, g1, ?_⟩
    exact k _ (a :: Or) Zr v Ov keepU thereU (by simp) g3 g4 g5 (fun y hy => .inl (g6 y hy)) (fun y hy => .inr (.inl (g7 y hy))) g2 g8 g9
theorem m_clr : MopR X CA .clr (TL' X) rClear := by
  refine ⟨fun h r => ty_of (by simp) h r, fun {q ps u M H H2 vs a On Zn O Z Q} hu hm sm pv r nd zo d1 d2 d3 k => ?_⟩
  replace hu : opClr q ps = some u := hu
  unfold opClr at hu
  split at hu <;> first | (cases hu; done) | skip
  case h_1 q1 q2 xs n =>
    cases hu
    cases pv
    obtain ⟨k1, ws, O1, e1, h1, rs, rfl⟩ := lst_own r (by simp)
    refine ⟨a, ws, rfl, rfl, h1, ?_⟩
    exact k _ [a] [] .non [] keepU thereU (by simp) (.lstO upd_same .nil) (by simp) (by simp) (by simp) (by simp) .non (by simp) (by simp)
theorem m_clrk : MopR X CA .clrk (tyV X.K "dict") (fun x vs H Q => ∃ a kvs, x = .ref a ∧ vs = [] ∧ H a = some (.dK kvs) ∧ Q .non (upd H a (.dK []))) := by
  refine ⟨fun {q v O Z H} h r => ?_, fun {q ps u M H H2 vs a On Zn O Z Q} hu hm sm pv r nd zo d1 d2 d3 k => ?_⟩
  · obtain ⟨d, n⟩ := q
    have h1 := mTy_lst h
    cases d with
    | dct ks xs =>
      obtain ⟨a, rfl⟩ := r.ref (by simp [D.mdep])
      obtain ⟨k, kvs, O', _, e, _⟩ := dct_own r h1
      exact ⟨⟨a, rfl⟩, .inr (.inr (.inl ⟨rfl, .inl ⟨kvs, e⟩⟩))⟩
    | _ => exfalso; unfold mTy at h; simp_all
  · replace hu : opClrk q ps = some u := hu
    unfold opClrk at hu
    split at hu <;> first | (cases hu; done) | skip
    case h_1 q1 q2 ks xs n =>
      cases hu
      cases pv
      obtain ⟨k1, kvs, O1, e1, h1, ko, rs, rfl⟩ := dct_own r (by simp)
      refine ⟨a, kvs, rfl, rfl, h1, ?_⟩
      exact k _ [a] [] .non [] keepU thereU (by simp) (.dctO upd_same ⟨rfl, by simp, by simp⟩ .nil) (by simp) (by simp) (by simp) (by simp) .non (by simp) (by simp)
end
/-! ### keys -/
section
theorem key_eq {g k : D} {x κ : L2.Key} (hg : vKey g = some x) (hk : vKey k = some κ) : pyEq g k = decide (x = κ) := by
  rw [Bool.eq_iff_iff, decide_eq_true_eq]
  cases g <;> first | (cases hg; done) | skip
  all_goals (cases k <;> first | (cases hk; done) | skip)
  all_goals (cases hg; cases hk; simp [pyEq])
  constructor
  · intro e; rw [e]
  · exact mkS_inj
theorem key_at {k : D} {κ : L2.Key} (hk : vKey k = some κ) : ∀ {ks : List D} {kvs : List (L2.Key × V)} {j : Nat}, ks.map vKey = kvs.map (fun p => some p.1) → (kvs.map (·.1)).Nodup → ks.findIdx? (fun x => pyEq x k) = some j →
    ∃ v0, kvs[j]? = some (κ, v0) ∧ valV kvs κ = some v0 ∧ dropK kvs κ = kvs.eraseIdx j ∧ ∀ v, putK kvs κ v = kvs.set j (κ, v)
  | [], [], j, _, _, h => by simp at h
  | g :: ks, (x, w) :: kvs, j, hm, nd, h => by
    simp only [List.map_cons, List.cons.injEq] at hm
    obtain ⟨h1, h2⟩ := hm
    rw [List.map_cons, List.nodup_cons] at nd
    have eq := key_eq h1 hk
    rw [List.findIdx?_cons] at h
    by_cases e : x = κ
    · subst e
      rw [eq] at h; simp at h; subst h
      have nf : ∀ p ∈ kvs, ¬ p.1 = x := fun p hp z => nd.1 (List.mem_map.mpr ⟨p, hp, z⟩)
      refine ⟨w, rfl, by simp [valV], ?_, fun v => ?_⟩
      · unfold dropK
        rw [List.filter_cons_of_neg (by simp)]
        exact List.filter_eq_self.mpr fun p hp => by simpa using nf p hp
      · unfold putK
        rw [if_pos (by simp)]
        rw [List.map_cons]
        simp only [if_true, List.set_cons_zero, List.cons.injEq, true_and]
        conv => rhs; rw [← List.map_id kvs]
        exact List.map_congr_left fun p hp => by rw [if_neg (nf p hp)]; rfl
    · rw [eq, decide_eq_false e] at h
      simp at h
      obtain ⟨i, hi, rfl⟩ := h
      obtain ⟨v0, q1, q2, q3, q4⟩ := key_at hk h2 nd.2 hi
      refine ⟨v0, by simpa using q1, ?_, ?_, fun v => ?_⟩
      · rw [valV_neg e]; exact q2
      · unfold dropK
        rw [List.filter_cons_of_pos (by simpa using e)]
        rw [List.eraseIdx_cons_succ]
        congr 1
      · have := q4 v
        have ha : (kvs.any fun kv => decide (kv.1 = κ)) = true := by rw [valV_any]; rw [q2]; rfl
        unfold putK at this ⊢
        rw [if_pos ha] at this
        rw [if_pos (by rw [List.any_cons, ha]; simp), List.map_cons, if_neg e, this, List.set_cons_succ]
  | [], _ :: _, _, hm, _, _ => by simp at hm
  | _ :: _, [], _, hm, _, _ => by simp at hm
theorem key_no {k : D} {κ : L2.Key} (hk : vKey k = some κ) : ∀ {ks : List D} {kvs : List (L2.Key × V)}, ks.map vKey = kvs.map (fun p => some p.1) → ks.findIdx? (fun x => pyEq x k) = none →
    valV kvs κ = none ∧ κ ∉ kvs.map (·.1) ∧ ∀ v, putK kvs κ v = kvs ++ [(κ, v)] := by
  intro ks kvs hm h
  have hn : κ ∉ kvs.map (·.1) := fun w => by
    obtain ⟨p, hp, e⟩ := List.mem_map.mp w
    have : some κ ∈ ks.map vKey := by rw [hm]; exact List.mem_map.mpr ⟨p, hp, by rw [e]⟩
    obtain ⟨g, hg, e2⟩ := List.mem_map.mp this
    have := List.findIdx?_eq_none_iff.mp h g hg
    rw [key_eq e2 hk] at this
    simp at this
  have hv : valV kvs κ = none := by
    unfold valV
    rw [Option.map_eq_none_iff, List.find?_eq_none]
    intro p hp e
    exact hn (List.mem_map.mpr ⟨p, hp, by simpa using e⟩)
  exact ⟨hv, hn, fun v => putK_new v hv⟩
theorem map_eraseIdx {α β : Type} (f : α → β) : ∀ (l : List α) (j : Nat), (l.eraseIdx j).map f = (l.map f).eraseIdx j
  | [], _ => rfl
  | _ :: _, 0 => rfl
  | a :: l, j + 1 => by simp [map_eraseIdx f l j]
theorem findIdx_ex {α : Type} {p : α → Bool} : ∀ {l : List α} {j : Nat}, l.findIdx? p = some j → ∃ x, l[j]? = some x ∧ p x = true
  | [], j, h => by simp at h
  | a :: l, j, h => by
    rw [List.findIdx?_cons] at h
    by_cases e : p a = true
    · rw [if_pos e] at h; cases h; exact ⟨a, rfl, e⟩
    · rw [if_neg e] at h
      simp at h
      obtain ⟨i, hi, rfl⟩ := h
      obtain ⟨x, h1, h2⟩ := findIdx_ex hi
      exact ⟨x, by simpa using h1, h2⟩
end
section
variable {X : Cx} {nm : Nm} {G : Glo} {CA : Nat → Addr} {cf : Runs} {W : WX} {L : List Nat}
theorem m_popk : MopR X CA .popk (fun v H => ∃ a, v = .ref a ∧ IsD H a) (fun x vs H Q => ∃ y a kvs κ w, vs = [y] ∧ x = .ref a ∧ H a = some (.dK kvs) ∧ y = kV κ ∧ valV kvs κ = some w ∧ Q w (upd H a (.dK (dropK kvs κ)))) := by
  refine ⟨fun {q v O Z H} h r => ?_, fun {q ps u M H H2 vs a On Zn O Z Q} hu hm sm pv r nd zo d1 d2 d3 k => ?_⟩
  · obtain ⟨d, n⟩ := q
    have h1 := mTy_lst h
    cases d with
    | dct ks xs =>
      obtain ⟨a, rfl⟩ := r.ref (by simp [D.mdep])
      obtain ⟨k, kvs, O', _, e, _⟩ := dct_own r h1
      exact ⟨⟨a, rfl⟩, a, rfl, .inl ⟨kvs, .inl e⟩⟩
    | _ => exfalso; unfold mTy at h; simp_all
  · replace hu : opPopk q ps = some u := hu
    unfold opPopk at hu
    split at hu <;> first | (cases hu; done) | skip
    case h_1 q1 q2 ks xs n kd km =>
      obtain ⟨hs, hu⟩ := go_some hu
      obtain ⟨j, hj, hu⟩ := Option.bind_eq_some_iff.mp hu
      obtain ⟨x, hx, hu⟩ := Option.bind_eq_some_iff.mp hu
      obtain ⟨hz, hu⟩ := go_some hu
      cases hu
      obtain ⟨κ, hκ⟩ := Option.isSome_iff_exists.mp hs
      obtain ⟨k1, kvs, O1, e1, h1, ko, rs, rfl⟩ := dct_own r (by simp)
      have e1 : n = k1 := by simpa using e1
      subst e1
      obtain ⟨y, rfl, pv1⟩ := pv.one_inv
      obtain ⟨ey, _⟩ := key_of pv1.rep hκ
      obtain ⟨w0, g1, g2, g3, _⟩ := key_at hκ ko.1 ko.2.1 hj
      obtain ⟨v, A, B, A', B', Ov, Zv, e1, rv, rfl, rfl, ra, rb⟩ := rs.get j x hx
      have := rv.full hz
      subst this
      have ew : v = w0 := by rw [List.getElem?_map, g1] at e1; cases e1; rfl
      subst ew
      have na := List.nodup_cons.mp nd
      obtain ⟨n1, n2, n3⟩ := List.nodup_append.mp na.2
      obtain ⟨n4, n5, n6⟩ := List.nodup_append.mp n1
      have mu : Mut (H2 a) := by rw [h1]; trivial
      have aZ : ∀ {y}, y ∈ A' ++ B' → y ∈ A' ++ [] ++ B' := fun h => by simpa using h
      have rr := (ra.append rb).updU (o := .dK (kvs.eraseIdx j)) (a := a) mu fun w => by
        rcases List.mem_append.mp w with w | w
        · exact na.1 (by rcases List.mem_append.mp w with w | w <;> simp [w])
        · exact zo a (aZ w) (by simp)
      rw [← List.eraseIdx_eq_take_drop_succ, ← List.eraseIdx_eq_take_drop_succ, ← map_eraseIdx] at rr
      refine ⟨y, a, kvs, κ, v, rfl, rfl, h1, ey, g2, ?_⟩
      rw [g3]
      refine k _ (a :: (A ++ B)) (A' ++ B') v Ov keepU thereU (by simp) (.dctO upd_same ⟨?_, ?_, fun s hs => ko.2.2 s (List.mem_of_mem_eraseIdx hs)⟩ rr) ?_ ?_ ?_ (fun y hy => .inr (.inl (aZ hy))) (rv.updU mu fun w => na.1 (by simp at w; simp [w])) n5 ?_
      · rw [map_eraseIdx, map_eraseIdx, ko.1]
      · rw [map_eraseIdx]; exact ko.2.1.sublist (List.eraseIdx_sublist _ _)
      · refine List.nodup_cons.mpr ⟨fun w => na.1 (by rcases List.mem_append.mp w with w | w <;> simp [w]), List.nodup_append.mpr ⟨n4, n2, fun y hy z hz e => n3 y (by simp [hy]) z hz e⟩⟩
      · intro z hz w
        refine zo z (aZ hz) ?_
        rcases List.mem_cons.mp w with w | w
        · simp [w]
        · rcases List.mem_append.mp w with w | w <;> simp [w]
      · intro y hy
        rcases List.mem_cons.mp hy with w | w
        · exact .inl (by simp [w])
        · rcases List.mem_append.mp w with w | w <;> exact .inl (by simp [w])
      · intro y hy
        refine ⟨by simp [hy], fun w => ?_, fun w => zo y (aZ w) (by simp [hy])⟩
        rcases List.mem_cons.mp w with w | w
        · subst w; exact na.1 (by simp [hy])
        · rcases List.mem_append.mp w with w | w
          · exact n6 y w y hy rfl
          · exact n3 y (by simp [hy]) y w rfl
end
end Vy

namespace Vy
open PySem PySem.Spec
open PyProof.Rows hiding St
open L2
section
variable {K : PySem.W.Frag} {CA : Nat → Addr} {M : Addr → Prop} {H H2 : Hp} {a : Addr} {n : Nat} {l r : List D} {wl wr : List V} {A A' B B' O Z : List Addr} {p : D × Nat} {v : V}
/-- a thing is laid between others in one's own -/
theorem put_mid {o : HO} (ra : Reps K CA H2 n l wl A A') (rb : Reps K CA H2 n r wr B B') (nd : (a :: (A ++ B)).Nodup) (zo : ∀ y ∈ A' ++ B', y ∉ a :: (A ++ B)) (mu : Mut (H2 a)) (pv : PVal K CA M H H2 p.1 p.2 v O Z) (aO : a ∉ O) (aZ : a ∉ Z) (d1 : ∀ x ∈ A ++ B, x ∉ O) (d2 : ∀ x ∈ A' ++ B', x ∉ O) (d3 : ∀ x ∈ A ++ B, x ∉ Z) :
    ∃ k0 O'' Z'', k0 ≤ n ∧ lvIn (n + 1) p = k0 + 1 ∧ Reps K CA (upd H2 a o) k0 (l ++ [p.1] ++ r) (wl ++ [v] ++ wr) O'' Z'' ∧ (a :: O'').Nodup ∧ (∀ z ∈ Z'', z ∉ a :: O'') ∧ (∀ y ∈ O'', y ∈ A ++ B ∨ y ∈ O) ∧ (∀ y ∈ Z'', y ∈ A ++ B ∨ y ∈ A' ++ B' ∨ y ∈ O ∨ y ∈ Z) := by
  have na := List.nodup_cons.mp nd
  have fin : ∀ (k0 : Nat) (Op Zp : List Addr), k0 ≤ n → Rep K CA H2 k0 p.1 v Op Zp → (∀ y ∈ Op, y ∈ O) → Op.Nodup → (∀ y ∈ Zp, y ∉ Op) → (∀ y ∈ Zp, y ∈ O ∨ y ∈ Z) → lvIn (n + 1) p = k0 + 1 → ∃ k0 O'' Z'', k0 ≤ n ∧ lvIn (n + 1) p = k0 + 1 ∧ Reps K CA (upd H2 a o) k0 (l ++ [p.1] ++ r) (wl ++ [v] ++ wr) O'' Z'' ∧ (a :: O'').Nodup ∧ (∀ z ∈ Z'', z ∉ a :: O'') ∧ (∀ y ∈ O'', y ∈ A ++ B ∨ y ∈ O) ∧ (∀ y ∈ Z'', y ∈ A ++ B ∨ y ∈ A' ++ B' ∨ y ∈ O ∨ y ∈ Z) := by
    intro k0 Op Zp hk rp hOp ndp zop hZp hl
    obtain ⟨Oc, Zc, rc, lw⟩ := (ra.append rb).low hk
    -- the two parts, lowered together
    obtain ⟨A2, A2', ra2, la⟩ := ra.low hk
    obtain ⟨B2, B2', rb2, lb⟩ := rb.low hk
    have lab := la.append lb
    have ab : ∀ y ∈ A2 ++ B2, y ∈ A ++ B := lab.own
    have abz : ∀ y ∈ A2' ++ B2', y ∈ A ++ B ∨ y ∈ A' ++ B' := lab.all
    have ndab := lab.nd na.2
    have zab : ∀ y ∈ A2' ++ B2', y ∉ A2 ++ B2 := lab.zo na.2 fun y hy w => zo y hy (by simp only [List.mem_cons]; exact .inr w)
    have ra3 := ra2.updU (o := o) (a := a) mu fun w => by
      rcases List.mem_append.mp w with w | w
      · exact na.1 (ab a (by simp [w]))
      · rcases abz a (by simp [w]) with w | w
        · exact na.1 w
        · exact zo a w (by simp)
    have rb3 := rb2.updU (o := o) (a := a) mu fun w => by
      rcases List.mem_append.mp w with w | w
      · exact na.1 (ab a (by simp [w]))
      · rcases abz a (by simp [w]) with w | w
        · exact na.1 w
        · exact zo a w (by simp)
    have rp3 := rp.updU (o := o) (a := a) mu fun w => by
      rcases List.mem_append.mp w with w | w
      · exact aO (hOp a w)
      · rcases hZp a w with w | w
        · exact aO w
        · exact aZ w
    obtain ⟨nA, nB, nAB⟩ := List.nodup_append.mp ndab
    refine ⟨k0, A2 ++ Op ++ B2, A2' ++ Zp ++ B2', hk, hl, ?_, ?_, ?_, ?_, ?_⟩
    · have := (ra3.append (.cons rp3 .nil)).append rb3
      simpa using this
    · refine List.nodup_cons.mpr ⟨fun w => ?_, List.nodup_append.mpr ⟨List.nodup_append.mpr ⟨nA, ndp, fun y hy z hz e => ?_⟩, nB, fun y hy z hz e => ?_⟩⟩
      · simp only [List.mem_append] at w
        rcases w with (w | w) | w
        · exact na.1 (ab a (by simp [w]))
        · exact aO (hOp a w)
        · exact na.1 (ab a (by simp [w]))
      · subst e; exact d1 y (ab y (by simp [hy])) (hOp y hz)
      · subst e
        rcases List.mem_append.mp hy with hy | hy
        · exact nAB y hy y hz rfl
        · exact d1 y (ab y (by simp [hz])) (hOp y hy)
    · intro z hz w
      have hz' : z ∈ A2' ++ B2' ∨ z ∈ Zp := by simp only [List.mem_append] at hz ⊢; rcases hz with (h | h) | h <;> simp [h]
      rcases List.mem_cons.mp w with w | w
      · subst w
        rcases hz' with h | h
        · rcases abz z h with h | h
          · exact na.1 h
          · exact zo z h (by simp)
        · rcases hZp z h with h | h
          · exact aO h
          · exact aZ h
      · have w' : z ∈ A2 ++ B2 ∨ z ∈ Op := by simp only [List.mem_append] at w ⊢; rcases w with (h | h) | h <;> simp [h]
        rcases hz' with h | h <;> rcases w' with w | w
        · exact zab z h w
        · rcases abz z h with h | h
          · exact d1 z h (hOp z w)
          · exact d2 z h (hOp z w)
        · rcases hZp z h with h | h
          · exact d1 z (ab z w) h
          · exact d3 z (ab z w) h
        · exact zop z h w
    · intro y hy
      simp only [List.mem_append] at hy
      rcases hy with (h | h) | h
      · exact .inl (ab y (by simp [h]))
      · exact .inr (hOp y h)
      · exact .inl (ab y (by simp [h]))
    · intro y hy
      simp only [List.mem_append] at hy
      rcases hy with (h | h) | h
      · exact (abz y (by simp [h])).imp id .inl
      · exact .inr (.inr (hZp y h))
      · exact (abz y (by simp [h])).imp id .inl
  by_cases h0 : p.1.mdep = 0
  · obtain ⟨_, _, rp⟩ := pv.rep.imm (m := n) h0
    exact fin n [] [] (Nat.le_refl _) rp (by simp) (by simp) (by simp) (by simp) (by unfold lvIn; rw [if_pos h0])
  · obtain ⟨Op, Zp, rp, lp⟩ := pv.rep.low (Nat.min_le_right n p.2)
    exact fin _ Op Zp (Nat.min_le_left _ _) rp lp.own (lp.nd pv.nd) (lp.zo pv.nd pv.zo) lp.all (by unfold lvIn; rw [if_neg h0]; omega)
theorem Reps.cut : ∀ (t : Nat) {n : Nat} {xs : List D} {ws : List V} {O1 Z1 : List Addr}, Reps K CA H2 n xs ws O1 Z1 → ∃ A A' B B', O1 = A ++ B ∧ Z1 = A' ++ B' ∧ Reps K CA H2 n (xs.take t) (ws.take t) A A' ∧ Reps K CA H2 n (xs.drop t) (ws.drop t) B B'
  | 0, n, xs, ws, O1, Z1, r => ⟨[], [], O1, Z1, rfl, rfl, .nil, r⟩
  | t + 1, n, _, _, _, _, .nil => ⟨[], [], [], [], rfl, rfl, .nil, .nil⟩
  | t + 1, n, _, _, _, _, .cons (O := Oa) (Z := Za) h r => by
    obtain ⟨A, A', B, B', rfl, rfl, g1, g2⟩ := Reps.cut t r
    exact ⟨Oa ++ A, Za ++ A', B, B', by simp, by simp, .cons h g1, g2⟩
/-- .. in the place of another one -/
theorem put_at {o : HO} {xs : List D} {ws : List V} {O1 Zn : List Addr} {j : Nat} (rs : Reps K CA H2 n xs ws O1 Zn) (hj : j < xs.length) (nd : (a :: O1).Nodup) (zo : ∀ y ∈ Zn, y ∉ a :: O1) (mu : Mut (H2 a)) (pv : PVal K CA M H H2 p.1 p.2 v O Z) (aO : a ∉ O) (aZ : a ∉ Z) (d1 : ∀ x ∈ O1, x ∉ O) (d2 : ∀ x ∈ Zn, x ∉ O) (d3 : ∀ x ∈ O1, x ∉ Z) :
    ∃ k0 O'' Z'', k0 ≤ n ∧ lvIn (n + 1) p = k0 + 1 ∧ Reps K CA (upd H2 a o) k0 (xs.set j p.1) (ws.set j v) O'' Z'' ∧ (a :: O'').Nodup ∧ (∀ z ∈ Z'', z ∉ a :: O'') ∧ (∀ y ∈ O'', y ∈ O1 ∨ y ∈ O) ∧ (∀ y ∈ Z'', y ∈ O1 ∨ y ∈ Zn ∨ y ∈ O ∨ y ∈ Z) := by
  obtain ⟨v0, A, B, A', B', Ov, Zv, e1, rv, rfl, rfl, ra, rb⟩ := rs.get j xs[j] (List.getElem?_eq_getElem hj)
  have sub : ∀ y ∈ A ++ B, y ∈ A ++ Ov ++ B := fun y h => by rcases List.mem_append.mp h with h | h <;> simp [h]
  have subz : ∀ y ∈ A' ++ B', y ∈ A' ++ Zv ++ B' := fun y h => by rcases List.mem_append.mp h with h | h <;> simp [h]
  have na := List.nodup_cons.mp nd
  have nd' : (a :: (A ++ B)).Nodup := by
    obtain ⟨n1, n2, n3⟩ := List.nodup_append.mp na.2
    obtain ⟨n4, n5, n6⟩ := List.nodup_append.mp n1
    exact List.nodup_cons.mpr ⟨fun w => na.1 (sub a w), List.nodup_append.mpr ⟨n4, n2, fun y hy z hz e => n3 y (by simp [hy]) z hz e⟩⟩
  obtain ⟨k0, O'', Z'', h1, h2, h3, h4, h5, h6, h7⟩ := put_mid (o := o) ra rb nd' (fun y hy w => zo y (subz y hy) ((List.mem_cons.mp w).elim (fun w => by simp [w]) fun w => List.mem_cons_of_mem _ (sub y w))) mu pv aO aZ (fun x hx => d1 x (sub x hx)) (fun x hx => d2 x (subz x hx)) (fun x hx => d3 x (sub x hx))
  have hw : j < ws.length := by rw [← rs.length]; exact hj
  refine ⟨k0, O'', Z'', h1, h2, ?_, h4, h5, fun y hy => (h6 y hy).imp (sub y) id, fun y hy => (h7 y hy).imp (sub y) (Or.imp (subz y) id)⟩
  have e2 : xs.set j p.1 = xs.take j ++ [p.1] ++ xs.drop (j + 1) := by rw [List.set_eq_take_append_cons_drop, if_pos hj]; simp
  have e3 : ws.set j v = ws.take j ++ [v] ++ ws.drop (j + 1) := by rw [List.set_eq_take_append_cons_drop, if_pos hw]; simp
  rw [e2, e3]; exact h3
end
section
variable {X : Cx} {nm : Nm} {G : Glo} {CA : Nat → Addr} {cf : Runs} {W : WX} {L : List Nat}
theorem m_ins : MopR X CA .ins (TL' X) (fun x vs H Q => ∃ (l : Addr) (xs : List V) (i : Int) (y : V), x = .ref l ∧ vs = [.int i, y] ∧ H l = some (.lst xs) ∧ xs.length < sizeLine ∧ 0 ≤ i ∧ i < 2 ^ 63 ∧ Q .non (upd H l (.lst (xs.take i.toNat ++ [y] ++ xs.drop i.toNat)))) := by
  refine ⟨fun h r => ty_of (by simp) h r, fun {q ps u M H H2 vs a On Zn O Z Q} hu hm sm pv r nd zo d1 d2 d3 k => ?_⟩
  replace hu : opIns q ps = some u := hu
  unfold opIns at hu
  split at hu <;> first | (cases hu; done) | skip
  case h_1 q1 q2 xs n i m p =>
    obtain ⟨⟨hz, hi0, hi1⟩, hu⟩ := go_some hu
    cases hu
    obtain ⟨k1, ws, O1, e1, h1, rs, rfl⟩ := lst_own r (by simp)
    have e1 : n = k1 := by simpa using e1
    subst e1
    cases pv with
    | @cons _ v1 Oi Zi _ vs1 Or Zr pvi pvr c1 c2 =>
    obtain ⟨v, rfl, pv1⟩ := pvr.one_inv
    obtain ⟨rfl, rfl, rfl⟩ := pvi.rep.int_inv
    have mu : Mut (H2 a) := by rw [h1]; trivial
    obtain ⟨A, A', B, B', rfl, rfl, ra, rb⟩ := Reps.cut i.toNat rs
    simp only [List.nil_append] at d1 d2 d3 k
    obtain ⟨k0, O'', Z'', g1, g2, g3, g4, g5, g6, g7⟩ := put_mid (o := .lst (ws.take i.toNat ++ [v] ++ ws.drop i.toNat)) ra rb nd zo mu pv1 (d1 a (by simp)) (d3 a (by simp)) (fun x hx => d1 x (by simp only [List.mem_cons]; exact .inr hx)) d2 (fun x hx => d3 x (by simp only [List.mem_cons]; exact .inr hx))
    refine ⟨a, ws, i, v, rfl, rfl, h1, by rw [SZ_eq, ← rs.length]; omega, hi0, by omega, ?_⟩
    refine k _ (a :: O'') Z'' .non [] keepU thereU (by simp) (by rw [g2]; exact .lstO upd_same g3) g4 g5 (fun y hy => ?_) (fun y hy => ?_) .non (by simp) (by simp)
    · rcases List.mem_cons.mp hy with h | h
      · exact .inl (by simp [h])
      · exact (g6 y h).imp (fun h => by simp only [List.mem_cons]; exact .inr h) id
    · exact (g7 y hy).imp (fun h => by simp only [List.mem_cons]; exact .inr h) id
theorem DenL.nil_inv {K : PySem.W.Frag} {M : Addr → Prop} {σ : St} {H : Hp} {Q : List V → Hp → Prop} (h : DenL K CA W M (.ok []) σ H Q) : Q [] H := h [] H [] [] (Same.refl H) .nil
theorem tL_nil {σ : St} {H : Hp} {Q : List V → Hp → Prop} (h : tL X G CA cf W [] σ H Q) : Q [] H := by
  obtain ⟨S, sr, h⟩ := h
  rw [evs] at h
  exact DenL.nil_inv h
theorem tL_one {c : C} {σ : St} {H : Hp} {Q : List V → Hp → Prop} (h : tL X G CA cf W [c] σ H Q) : tE X G CA cf W c σ H fun v H2 => Q [v] H2 := (dl_cons h).mono fun v H1 h1 => tL_nil h1
/-! ### methods -/
theorem x_mapp {p : Pth} {c : C} {o e : Expr} {apos cpos : Pos} (ho : PE X o (tP X G CA cf W p)) (he : PE X e (tE X G CA cf W c)) (hb : noSup o = true) (hs : noStar e = true) (hl : (apos.endLine == cpos.line) = true) : PE X (.Call (.Attribute o "append" apos) [e] [] cpos) (tX X G CA cf W L (.mop p .app [c])) := by
  have hs1 : [e].all noStar = true := by simp [hs]
  exact PE.weak (pe_bm F.plainAttrs_list F.slot_list_append F.type_list_append mt_append ho (a_cons he a_nil (star_cons hs)) (base_ok hb) (back_few hs1 (by simp)) hl (star_cons hs) rfl) fun σ H Q h => mop_read m_app h
theorem x_mpop {p : Pth} {o : Expr} {apos cpos : Pos} (ho : PE X o (tP X G CA cf W p)) (hb : noSup o = true) (hl : (apos.endLine == cpos.line) = true) : PE X (.Call (.Attribute o "pop" apos) [] [] cpos) (tX X G CA cf W L (.mop p .pop [])) :=
  PE.weak (pe_bm0 F.plainAttrs_list F.slot_list_pop F.type_list_pop mt_pop ho (base_ok hb) hl) fun σ H Q h => tP_mono (fun v H1 ⟨h1, h2⟩ => ⟨h1, tL_nil h2⟩) (mop_read m_pop h)
theorem x_mpopi {p : Pth} {c : C} {o e : Expr} {apos cpos : Pos} (ho : PE X o (tP X G CA cf W p)) (he : PE X e (tE X G CA cf W c)) (hb : noSup o = true) (hs : noStar e = true) (hl : (apos.endLine == cpos.line) = true) : PE X (.Call (.Attribute o "pop" apos) [e] [] cpos) (tX X G CA cf W L (.mop p .popi [c])) := by
  have hs1 : [e].all noStar = true := by simp [hs]
  exact PE.weak (pe_bm F.plainAttrs_list F.slot_list_pop F.type_list_pop mt_popAt ho (a_cons he a_nil (star_cons hs)) (base_ok hb) (back_few hs1 (by simp)) hl (star_cons hs) rfl) fun σ H Q h => mop_read m_popi h
theorem x_mclr {p : Pth} {o : Expr} {apos cpos : Pos} (ho : PE X o (tP X G CA cf W p)) (hb : noSup o = true) (hl : (apos.endLine == cpos.line) = true) : PE X (.Call (.Attribute o "clear" apos) [] [] cpos) (tX X G CA cf W L (.mop p .clr [])) :=
  PE.weak (pe_bm0 F.plainAttrs_list F.slot_list_clear F.type_list_clear mt_clear ho (base_ok hb) hl) fun σ H Q h => tP_mono (fun v H1 ⟨h1, h2⟩ => ⟨h1, tL_nil h2⟩) (mop_read m_clr h)
theorem x_mclrk {p : Pth} {o : Expr} {apos cpos : Pos} (ho : PE X o (tP X G CA cf W p)) (hb : noSup o = true) (hl : (apos.endLine == cpos.line) = true) : PE X (.Call (.Attribute o "clear" apos) [] [] cpos) (tX X G CA cf W L (.mop p .clrk [])) :=
  PE.weak (pe_dclear ho (base_ok hb) hl) fun σ H Q h => tP_mono (fun v H1 ⟨h1, h2⟩ => ⟨h1, tL_nil h2⟩) (mop_read m_clrk h)
theorem x_mins {p : Pth} {c c2 : C} {o e e2 : Expr} {apos cpos : Pos} (ho : PE X o (tP X G CA cf W p)) (he : PE X e (tE X G CA cf W c)) (he2 : PE X e2 (tE X G CA cf W c2)) (hb : noSup o = true) (hs : noStar e = true) (hs2 : noStar e2 = true) (hl : (apos.endLine == cpos.line) = true) : PE X (.Call (.Attribute o "insert" apos) [e, e2] [] cpos) (tX X G CA cf W L (.mop p .ins [c, c2])) := by
  have hs1 : [e, e2].all noStar = true := by simp [hs, hs2]
  exact PE.weak (pe_bm F.plainAttrs_list F.slot_list_insert F.type_list_insert mt_insert ho (a_cons he (a_cons he2 a_nil (star_cons hs2)) (star_cons hs)) (base_ok hb) (back_few hs1 (by simp)) hl (star_cons hs) (back_any (by simp [hs2]))) fun σ H Q h => mop_read m_ins h
theorem x_mpopk {p : Pth} {c : C} {o e : Expr} {apos cpos : Pos} (ho : PE X o (tP X G CA cf W p)) (he : PE X e (tE X G CA cf W c)) (hb : noSup o = true) (hs : noStar e = true) (hl : (apos.endLine == cpos.line) = true) : PE X (.Call (.Attribute o "pop" apos) [e] [] cpos) (tX X G CA cf W L (.mop p .popk [c])) := by
  have hs1 : [e].all noStar = true := by simp [hs]
  refine PE.weak (pe_dpop1 ho he ⟨base_ok hb, back_few hs1 (by simp), hl, back_one hs⟩) fun σ H Q h => tP_mono (fun v H1 ⟨⟨a, e1, h1⟩, h2⟩ => ⟨a, e1, h1, (tL_one h2).mono fun y H2 h3 => ?_⟩) (mop_read m_popk h)
  obtain ⟨y', a', kvs, κ, w, e2, e3, e4, e5, e6, e7⟩ := h3
  rw [e1] at e3
  cases e3
  cases e2
  exact ⟨kvs, κ, w, e4, e5, e6, e7⟩
end
end Vy

namespace Vy
open PySem PySem.Spec
open PyProof.Rows hiding St
open L2
section
variable {X : Cx} {nm : Nm} {G : Glo} {CA : Nat → Addr} {cf : Runs} {W : WX} {L : List Nat}
def rSetD : V → V → V → Hp → (Hp → Prop) → Prop := fun o i v H Q => ∃ a H', o = .ref a ∧ DPut H a i v H' ∧ Q H'
theorem set_any {k : Nat} (hr : Room k X.A) : PSet X (fun o i v H Q => rSetL o i v H Q ∨ rSetD o i v H Q) := by
  intro pins s σ H o i v ov iv u Q I ro ri rv h
  rcases h with h | ⟨a, H', rfl, g, q⟩
  · exact set_list pins s σ H o i v ov iv u Q I ro ri rv h
  · obtain rfl : ov = Value.ref a := ro
    exact d_setItem (hu_of hr) I g ri rv fun s' I' => ⟨H', I', q⟩
theorem mopX_some {S : Slots} {i : Nat} {rs : List Rtp} {ns : List Nat} {ps : List (D × Nat)} {f : D × Nat → Option ((D × Nat) × (D × Nat))} (h : mopX L (envOf S) i rs ns ps f ≠ .bad) : ∃ (r : Root) (q : D × Nat) (u : (D × Nat) × (D × Nat)), S[i]? = some (some r) ∧ getP (r.d, r.n) rs = some q ∧ f q = some u := by
  unfold mopX at h
  by_cases hL : i ∈ L
  · rw [if_pos hL] at h; exact absurd rfl h
  rw [if_neg hL] at h
  cases e : ((envOf S)[i]?).bind id with
  | none => rw [e] at h; exact absurd rfl h
  | some p =>
    obtain ⟨r, hr, rfl⟩ := slot_get e
    rw [e] at h
    simp only [Option.bind_some] at h
    cases e2 : getP (r.d, r.n) rs with
    | none => rw [e2] at h; exact absurd rfl h
    | some q =>
      rw [e2] at h
      simp only [Option.bind_some] at h
      cases e3 : f q with
      | none => rw [e3] at h; exact absurd rfl h
      | some u => exact ⟨r, q, u, hr, e2, e3⟩
theorem stOp_lev {q y p r : D × Nat} (h : stOp q y p = some r) : r.2 ≤ q.2 := by
  unfold stOp at h
  split at h
  · obtain ⟨j, _, e⟩ := Option.map_eq_some_iff.mp h; cases e; exact lvIn_le
  · obtain ⟨_, h⟩ := go_some h; cases h; exact lvIn_le
  · cases h
/-- o[k] = p, at a node -/
theorem st_node {M M2 : Addr → Prop} {H H0 H2 : Hp} {q y p u : D × Nat} {v w : V} {a : Addr} {On Zn O Z Ok Zk : List Addr} {Q : Hp → Prop} (hu : stOp q y p = some u) (pv : PVal X.K CA M H H2 p.1 p.2 v O Z) (pk : PVal X.K CA M2 H0 H2 y.1 y.2 w Ok Zk) (r : Rep X.K CA H2 q.2 q.1 (.ref a) On Zn) (nd : On.Nodup) (zo : ∀ x ∈ Zn, x ∉ On) (d1 : ∀ x ∈ On, x ∉ O) (d2 : ∀ x ∈ Zn, x ∉ O) (d3 : ∀ x ∈ On, x ∉ Z)
    (k : ∀ H3 O'' Z'', Keep [a] H2 H3 → (∀ x, H2 x ≠ none → H3 x ≠ none) → a ∈ On → Rep X.K CA H3 u.2 u.1 (.ref a) O'' Z'' → O''.Nodup → (∀ z ∈ Z'', z ∉ O'') → (∀ x ∈ O'', x ∈ On ∨ x ∈ O) → (∀ x ∈ Z'', x ∈ On ∨ x ∈ Zn ∨ x ∈ O ∨ x ∈ Z) → Q H3) :
    rSetL (.ref a) w v H2 Q ∨ rSetD (.ref a) w v H2 Q := by
  unfold stOp at hu
  split at hu <;> first | (cases hu; done) | skip
  case h_1 q1 q2 q3 xs n i m =>
    obtain ⟨j, hj, e⟩ := Option.map_eq_some_iff.mp hu
    cases e
    obtain ⟨k1, ws, O1, e1, h1, rs, rfl⟩ := lst_own r (by simp)
    have e1 : n = k1 := by simpa using e1
    subst e1
    obtain ⟨rfl, _⟩ := pk.rep.int_inv
    have hjl : j < xs.length := by
      have := (ixN_seq (by rw [← ix_eq]; exact hj : ixN xs.length i = some j)).2.1
      exact this
    have mu : Mut (H2 a) := by rw [h1]; trivial
    obtain ⟨k0, O'', Z'', g1, g2, g3, g4, g5, g6, g7⟩ := put_at (o := .lst (ws.set j v)) rs hjl nd zo mu pv (d1 a (by simp)) (d3 a (by simp)) (fun x hx => d1 x (List.mem_cons_of_mem _ hx)) d2 (fun x hx => d3 x (List.mem_cons_of_mem _ hx))
    refine .inl ⟨a, ws, i, j, rfl, rfl, h1, by rw [← ix_eq, ← rs.length]; exact hj, ?_⟩
    refine k _ (a :: O'') Z'' keepU thereU (by simp) (by rw [g2]; exact .lstO upd_same g3) g4 g5 (fun y hy => ?_) fun y hy => ?_
    · rcases List.mem_cons.mp hy with h | h
      · exact .inl (by simp [h])
      · exact (g6 y h).imp (List.mem_cons_of_mem _) id
    · exact (g7 y hy).imp (List.mem_cons_of_mem _) id
  case h_2 q1 q2 q3 ks xs n kd km =>
    obtain ⟨⟨hs, hz⟩, hu⟩ := go_some hu
    cases hu
    obtain ⟨κ, hκ⟩ := Option.isSome_iff_exists.mp hs
    obtain ⟨k1, kvs, O1, e1, h1, ko, rs, rfl⟩ := dct_own r (by simp)
    have e1 : n = k1 := by simpa using e1
    subst e1
    obtain ⟨ew, _, _, hbd⟩ := key_of pk.rep hκ
    have hl : kvs.length < sizeLine := by
      have := rs.length
      have e2 := congrArg List.length ko.1
      simp at this e2
      rw [SZ_eq]; omega
    have mu : Mut (H2 a) := by rw [h1]; trivial
    have D1 : ∀ x ∈ O1, x ∉ O := fun x hx => d1 x (List.mem_cons_of_mem _ hx)
    have D3 : ∀ x ∈ O1, x ∉ Z := fun x hx => d3 x (List.mem_cons_of_mem _ hx)
    refine .inr ⟨a, _, rfl, by rw [ew]; exact DPut.k h1 hl, ?_⟩
    cases hj : ks.findIdx? (fun x => pyEq x kd) with
    | some j =>
      obtain ⟨v0, g1, g2, _, g4⟩ := key_at hκ ko.1 ko.2.1 hj
      have hkv : j < kvs.length := (List.getElem?_eq_some_iff.mp g1).1
      have hjl : j < xs.length := by have := rs.length; simp at this; omega
      obtain ⟨k0, O'', Z'', g1', g2', g3, g4', g5, g6, g7⟩ := put_at (o := .dK (kvs.set j (κ, v))) rs hjl nd zo mu pv (d1 a (by simp)) (d3 a (by simp)) D1 d2 D3
      have hmap : (kvs.map (·.2)).set j v = (kvs.set j (κ, v)).map (·.2) := by rw [List.map_set]
      have hkey : (kvs.set j (κ, v)).map (·.1) = kvs.map (·.1) := by
        rw [List.map_set]
        refine List.ext_getElem? fun i => ?_
        by_cases e : j = i
        · subst e; rw [List.getElem?_set_self (by simpa using hkv), List.getElem?_map, g1]; rfl
        · rw [List.getElem?_set_ne e]
      rw [hmap] at g3
      rw [g4]
      have key : KeyOk ks (kvs.set j (κ, v)) := by
        refine ⟨?_, by rw [hkey]; exact ko.2.1, ko.2.2⟩
        have e3 : ∀ l : List (L2.Key × V), l.map (fun p => some p.1) = (l.map (·.1)).map some := fun l => by rw [List.map_map]; rfl
        rw [ko.1, e3, e3, hkey]
      refine k _ (a :: O'') Z'' keepU thereU (by simp) ?_ g4' g5 (fun y hy => ?_) fun y hy => ?_
      · show Rep X.K CA _ (lvIn (n + 1) p) (.dct (putKD ks xs kd p.1).1 (putKD ks xs kd p.1).2) _ _ _
        rw [g2']
        have : putKD ks xs kd p.1 = (ks, xs.set j p.1) := by unfold putKD; rw [hj]
        rw [this]
        exact .dctO upd_same key g3
      · rcases List.mem_cons.mp hy with h | h
        · exact .inl (by simp [h])
        · exact (g6 y h).imp (List.mem_cons_of_mem _) id
      · exact (g7 y hy).imp (List.mem_cons_of_mem _) id
    | none =>
      obtain ⟨g1, g2, g4⟩ := key_no hκ ko.1 hj
      obtain ⟨k0, O'', Z'', g1', g2', g3, g4', g5, g6, g7⟩ := put_mid (o := .dK (kvs ++ [(κ, v)])) (A := O1) (A' := Zn) (B := []) (B' := []) rs .nil (by simpa using nd) (by simpa using zo) mu pv (d1 a (by simp)) (d3 a (by simp)) (by simpa using D1) (by simpa using d2) (by simpa using D3)
      rw [g4]
      have hmap : kvs.map (·.2) ++ [v] ++ [] = (kvs ++ [(κ, v)]).map (·.2) := by simp
      rw [hmap] at g3
      have key : KeyOk (ks ++ [kd]) (kvs ++ [(κ, v)]) := by
        refine ⟨by rw [List.map_append, List.map_append, ko.1]; simp [hκ], ?_, fun s hs => ?_⟩
        · rw [List.map_append]
          exact List.nodup_append.mpr ⟨ko.2.1, by simp, fun x hx y hy e => by simp at hy; subst hy; subst e; exact g2 hx⟩
        · rcases List.mem_append.mp hs with z | z
          · exact ko.2.2 s z
          · simp at z; exact hbd s z.symm
      refine k _ (a :: O'') Z'' keepU thereU (by simp) ?_ g4' g5 (fun y hy => ?_) fun y hy => ?_
      · show Rep X.K CA _ (lvIn (n + 1) p) (.dct (putKD ks xs kd p.1).1 (putKD ks xs kd p.1).2) _ _ _
        rw [g2']
        have : putKD ks xs kd p.1 = (ks ++ [kd], xs ++ [p.1]) := by unfold putKD; rw [hj]
        rw [this]
        exact .dctO upd_same key (by simpa using g3)
      · rcases List.mem_cons.mp hy with h | h
        · exact .inl (by simp [h])
        · have := g6 y h
          simp only [List.append_nil] at this
          exact this.imp (List.mem_cons_of_mem _) id
      · have := g7 y hy
        simp only [List.append_nil] at this
        exact this.imp (List.mem_cons_of_mem _) id
theorem PVal.one {M : Addr → Prop} {H H2 : Hp} {p : D × Nat} {v : V} {O Z : List Addr} (pv : PVal X.K CA M H H2 p.1 p.2 v O Z) : PVs X.K CA M H H2 [p] [v] O Z := by
  have := PVs.cons pv .nil (by simp) (by simp)
  simpa using this
theorem st_read {p : Pth} {ck c : C} {D : Ends} {σ : St} {H : Hp} (h : tS X G CA cf W L (.st p ck c) D σ H) : tAsg (tE X G CA cf W c) (gSub (tP X G CA cf W p) (tE X G CA cf W ck) (fun o i v H Q => rSetL o i v H Q ∨ rSetD o i v H Q)) D σ H := by
  obtain ⟨S, sr, fr, h⟩ := h
  rw [exS] at h
  refine ⟨S, sr, h.onE sr fr fun q v H1 O Z e1 pv hd => ?_⟩
  refine ⟨S, sr.same pv.same, ?_⟩
  cases e2 : rsv G cf (envOf S) p.st with
  | exc x => rw [e2] at hd; exact fun cls dd H' s r => hd S σ H' cls dd (sr.same (pv.same.trans s)) fr (Step.same (pv.same.trans s)) rfl r
  | bad => rw [e2] at hd; exact hd.elim
  | ok rs =>
    rw [e2] at hd
    simp only [onE_ok] at hd
    cases e3 : ev G cf (envOf S) ck with
    | exc x => rw [e3] at hd; exact hd.elim
    | bad => rw [e3] at hd; exact hd.elim
    | ok y =>
      rw [e3] at hd
      simp only [noX_ok, onE_ok] at hd
      obtain ⟨r, q', u, hi, hg, hu⟩ := mopX_some (L := L) (fun z => by rw [z] at hd; exact hd.elim)
      refine ⟨r, q', hi, hg, fun x H2 s2 at2 => ⟨S, sr.same (pv.same.trans s2), ?_⟩⟩
      rw [e3]
      intro w H3 Ok Zk pk
      have sm := (pv.same.trans s2).trans pk.same
      have dx : DenX X.K CA W cf.io L S H [] (mopX L (envOf S) p.i rs (names c) [q] fun u => (stOp u y q).map (·, (.non, 9))) σ fun _ H4 => D.nx σ H4 := hd.onX fun p' ρ' S1 v1 H4 O1 Z1 e4 sr1 fr1 st1 he1 xv ho hz hd => hd S1 σ H4 sr1 fr1 st1 he1
      obtain ⟨st', hst, rfl⟩ := Option.map_eq_some_iff.mp hu
      have hx : ∃ a, x = .ref a := by
        obtain ⟨O1, Z1, r1, _, _⟩ := ((sr.rep _ r hi).2.same (pv.same.trans s2)).part hg at2
        refine r1.ref ?_
        unfold stOp at hst
        split at hst
        · simp [Vy.D.mdep]
        · simp [Vy.D.mdep]
        · cases hst
      obtain ⟨a, rfl⟩ := hx
      obtain ⟨On, Zn, k1, k2, k3, k4, k5, k6, k7⟩ := mop_core sr fr hi hg ((pv.later (s2.trans pk.same)).one) sm (at2.same pk.same) hu (stOp_lev hst) dx
      exact st_node hst (pv.later (s2.trans pk.same)) pk k1 k2 k3 k4 k5 k6 fun H4 O'' Z'' a1 a2 a3 a4 a5 a6 a7 a8 => k7 H4 O'' Z'' .non [] a1 a2 a3 a4 a5 a6 a7 a8 .non (by simp) (by simp)
theorem s_st {k : Nat} {p : Pth} {ck c : C} {o ek e : Expr} {spos pos : Pos} (hr : Room k X.A) (ho : PE X o (tP X G CA cf W p)) (hk : PE X ek (tE X G CA cf W ck)) (he : PE X e (tE X G CA cf W c)) (hl : noLc e = true)
    (ha : ∀ v, assign (.Subscript o ek spos) X.env v = (do
      let ov ← holding [v] (eval o X.env)
      let iv ← holding [v, ov] (eval ek X.env)
      standAt spos
      holding [v, ov, iv] (setItem ov iv v)
      release [v, ov, iv] [])) (hs : swapsWithSole [.Subscript o ek spos] e pos.line X.env = pure false) :
    PS X (.Assign [.Subscript o ek spos] e pos) (tS X G CA cf W L (.st p ck c)) := PS.weak (ps_asg he (pg_sub ho hk (set_any hr) ha) hs rfl rfl) fun D σ H h => st_read h
theorem putF_at {f : Cs} {v : V} : ∀ {fs : List Cs} {fvs : List (Str × V)} {j : Nat}, fs.map mkS = fvs.map (·.1) → fs.findIdx? (· == f) = some j → putF (mkS f) v fvs = fvs.set j (mkS f, v)
  | [], [], j, _, h => by simp at h
  | g :: fs, (x, w) :: fvs, j, hm, h => by
    simp only [List.map_cons, List.cons.injEq] at hm
    obtain ⟨h1, h2⟩ := hm
    rw [List.findIdx?_cons] at h
    by_cases e : g = f
    · subst e
      simp at h; subst h
      rw [putF, if_pos h1.symm]; simp [h1]
    · have e' : (g == f) = false := by simpa using e
      rw [e'] at h
      simp at h
      obtain ⟨k, hk, rfl⟩ := h
      have ne : ¬ x = mkS f := fun z => e (mkS_inj (h1.trans z))
      rw [putF, if_neg ne, putF_at h2 hk]; rfl
  | [], _ :: _, j, hm, h => by simp at hm
  | _ :: _, [], j, hm, h => by simp at hm
theorem putF_no {f : Cs} {v : V} : ∀ {fs : List Cs} {fvs : List (Str × V)}, fs.map mkS = fvs.map (·.1) → fs.findIdx? (· == f) = none → putF (mkS f) v fvs = fvs ++ [(mkS f, v)]
  | [], [], _, _ => rfl
  | g :: fs, (x, w) :: fvs, hm, h => by
    simp only [List.map_cons, List.cons.injEq] at hm
    obtain ⟨h1, h2⟩ := hm
    have hall := List.findIdx?_eq_none_iff.mp h
    have e : ¬ g = f := by simpa using hall g (by simp)
    have ne : ¬ x = mkS f := fun z => e (mkS_inj (h1.trans z))
    rw [putF, if_neg ne, putF_no h2 (List.findIdx?_eq_none_iff.mpr fun y hy => hall y (by simp [hy]))]; rfl
  | [], _ :: _, hm, h => by simp at hm
  | _ :: _, [], hm, h => by simp at hm
theorem stfOp_lev {q p r : D × Nat} {f : Cs} (h : stfOp q f p = some r) : r.2 ≤ q.2 := by
  unfold stfOp at h
  split at h
  · obtain ⟨_, h⟩ := go_some h
    split at h <;> (cases h; exact lvIn_le)
  · cases h
/-- o.f = e -/
theorem s_stf {p : Pth} {f : Cs} {fn : Str} {c : C} {o e : Expr} {fl : List Cs} {apos pos : Pos} (cc : ClsC X CA fl) (hf : f ∈ fl) (hn : fn = mkS f) (ho : PE X o (tP X G CA cf W p)) (he : PE X e (tE X G CA cf W c)) (hl : noLc e = true) :
    PS X (.Assign [.Attribute o fn apos] e pos) (tS X G CA cf W L (.stf p f c)) := by
  subst hn
  refine PS.weak (ps_fld ho he (no_swap hl)) fun D σ H ⟨S, sr, fr, h⟩ => ?_
  rw [exS] at h
  refine ⟨S, sr, h.onE sr fr fun q v H1 O Z e1 pv hd => ?_⟩
  refine ⟨S, sr.same pv.same, ?_⟩
  cases e2 : rsv G cf (envOf S) p.st with
  | exc x => rw [e2] at hd; exact fun cls dd H' s r => hd S σ H' cls dd (sr.same (pv.same.trans s)) fr (Step.same (pv.same.trans s)) rfl r
  | bad => rw [e2] at hd; exact hd.elim
  | ok rs =>
    rw [e2] at hd
    simp only [onE_ok] at hd
    obtain ⟨r, q', u, hi, hg, hu⟩ := mopX_some (L := L) (fun z => by rw [z] at hd; exact hd.elim)
    refine ⟨r, q', hi, hg, fun x H2 s2 at2 => ?_⟩
    have sm := pv.same.trans s2
    have dx : DenX X.K CA W cf.io L S H [] (mopX L (envOf S) p.i rs (names c) [q] fun u => (stfOp u f q).map (·, (.non, 9))) σ fun _ H4 => D.nx σ H4 := hd.onX fun p' ρ' S1 v1 H4 O1 Z1 e4 sr1 fr1 st1 he1 xv ho hz hd => hd S1 σ H4 sr1 fr1 st1 he1
    obtain ⟨st', hst, rfl⟩ := Option.map_eq_some_iff.mp hu
    obtain ⟨O1, Z1, r1, _, _⟩ := ((sr.rep _ r hi).2.same sm).part hg at2
    have hst0 := hst
    unfold stfOp at hst
    split at hst <;> first | (cases hst; done) | skip
    rename_i q1 q2 q3 c0 fs vs n
    obtain ⟨⟨hc, hlen⟩, hst⟩ := go_some hst
    obtain ⟨a, rfl⟩ := r1.ref (by simp [Vy.D.mdep])
    obtain ⟨On, Zn, k1, k2, k3, k4, k5, k6, k7⟩ := mop_core sr fr hi hg ((pv.later s2).one) sm at2 hu (stfOp_lev hst0) dx
    have k1 : Rep X.K CA H2 (n + 1) (.ins c0 fs vs) (.ref a) On Zn := k1
    cases k1 with
    | @insO _ _ _ _ _ dx0 fvs O2 _ e3 ko rs2 =>
    have mu : Mut (H2 a) := by rw [e3]; trivial
    have hfl : fvs.length < 1000 := by have := congrArg List.length ko; simp at this; omega
    have D1 : ∀ x ∈ O2, x ∉ O := fun x hx => k4 x (List.mem_cons_of_mem _ hx)
    have D3 : ∀ x ∈ O2, x ∉ Z := fun x hx => k6 x (List.mem_cons_of_mem _ hx)
    refine ⟨a, CA c0, dx0, fvs, rfl, e3, cc.cl c0 hc, cc.no c0 hc _ hf, hfl, ?_⟩
    cases hj : fs.findIdx? (· == f) with
    | some j =>
      rw [hj] at hst
      cases hst
      obtain ⟨xf, hx1, hx2⟩ := findIdx_ex hj
      have hxf : xf = f := by simpa using hx2
      have hjf : j < fvs.length := by
        have := (List.getElem?_eq_some_iff.mp hx1).1
        have e4 := congrArg List.length ko
        simp at e4; omega
      have hjl : j < vs.length := by have := rs2.length; simp at this; omega
      obtain ⟨k0, O'', Z'', g1, g2, g3, g4, g5, g6, g7⟩ := put_at (o := .ins (CA c0) dx0 (fvs.set j (mkS f, v))) rs2 hjl k2 k3 mu (pv.later s2) (k4 a (by simp)) (k6 a (by simp)) D1 k5 D3
      rw [putF_at ko hj]
      refine k7 _ (a :: O'') Z'' .non [] keepU thereU (by simp) ?_ g4 g5 (fun y hy => ?_) (fun y hy => ?_) .non (by simp) (by simp)
      · show Rep X.K CA _ (lvIn (n + 1) q) _ _ _ _
        rw [g2]
        refine .insO upd_same ?_ (by rw [List.map_set]; exact g3)
        rw [List.map_set, ko]
        refine List.ext_getElem? fun i => ?_
        by_cases e : j = i
        · subst e
          rw [List.getElem?_set_self (by simpa using hjf), ← ko, List.getElem?_map, hx1, hxf]; rfl
        · rw [List.getElem?_set_ne e]
      · rcases List.mem_cons.mp hy with h | h
        · exact .inl (by simp [h])
        · exact (g6 y h).imp (List.mem_cons_of_mem _) id
      · exact (g7 y hy).imp (List.mem_cons_of_mem _) id
    | none =>
      rw [hj] at hst
      cases hst
      obtain ⟨k0, O'', Z'', g1, g2, g3, g4, g5, g6, g7⟩ := put_mid (o := .ins (CA c0) dx0 (fvs ++ [(mkS f, v)])) (A := O2) (A' := Zn) (B := []) (B' := []) rs2 .nil (by simpa using k2) (by simpa using k3) mu (pv.later s2) (k4 a (by simp)) (k6 a (by simp)) (by simpa using D1) (by simpa using k5) (by simpa using D3)
      rw [putF_no ko hj]
      refine k7 _ (a :: O'') Z'' .non [] keepU thereU (by simp) ?_ g4 g5 (fun y hy => ?_) (fun y hy => ?_) .non (by simp) (by simp)
      · show Rep X.K CA _ (lvIn (n + 1) q) _ _ _ _
        rw [g2]
        exact .insO upd_same (by simp [ko]) (by simpa using g3)
      · rcases List.mem_cons.mp hy with h | h
        · exact .inl (by simp [h])
        · have := g6 y h
          simp only [List.append_nil] at this
          exact this.imp (List.mem_cons_of_mem _) id
      · have := g7 y hy
        simp only [List.append_nil] at this
        exact this.imp (List.mem_cons_of_mem _) id
end
end Vy

namespace Vy
open PySem PySem.Spec
open PyProof.Rows hiding St
open L2
/-! ## sorted, get, dict(d), count -/
section
variable {X : Cx}
theorem dataLe_cs : (PySem.W.dataLe false fun b : Cs => PyData.str (mkS b)) = leS := by
  rw [PySem.W.dataLe_str mkS]
  funext a b
  rw [mkS_tl, mkS_tl]
  show decide (a ≤ b) = !decide (b < a)
  by_cases h : b < a
  · have : ¬ a ≤ b := fun z => z h
    simp [h]
  · have : a ≤ b := h
    simp [h, this]
theorem each_strs {h : Heap} : ∀ {ns : List Cs} {its : List Value}, Vals (ns.map fun s => V.str (mkS s)) its → PySem.W.EachIs (fun v b => ∃ t, v = Value.str (mkS b) t) its ns
  | [], its, r => by cases r; exact .nil
  | n :: ns, its, r => by
    rw [List.map_cons] at r
    cases r with
    | cons p q =>
      obtain ⟨t, rfl⟩ := p
      exact .cons ⟨t, rfl⟩ (each_strs (h := h) q)
theorem strs_each : ∀ {ns : List Cs} {its : List Value}, PySem.W.EachIs (fun v b => ∃ t, v = Value.str (mkS b) t) its ns → Vals (ns.map fun s => V.str (mkS s)) its
  | _, _, .nil => .nil
  | _, _, .cons ⟨t, e⟩ q => .cons ⟨t, e⟩ (strs_each q)
theorem each_reads {h : Heap} {its : List Value} {ns : List Cs} (e : PySem.W.EachIs (fun v b => ∃ t, v = Value.str (mkS b) t) its ns) : PySem.W.EachIs (fun v b => ∃ as, Reads h v (PyData.str (mkS b)) as) its ns :=
  e.mono fun v b ⟨t, ev⟩ => by subst ev; exact ⟨[], .str _ _⟩
theorem cs_alike (ns : List Cs) : PySem.W.AllAlike (ns.map fun b => PyData.str (mkS b)) := PySem.W.AllAlike.of fun b b' => by simp [PySem.W.alike]
theorem cs_sortable (ns : List Cs) : PySem.W.Sortable (ns.map fun b => PyData.str (mkS b)) := PySem.W.Sortable.others fun b => ⟨by simp, fun xs => by simp⟩
theorem cr_sortedC {k : Nat} (hr : Room k X.A) : CallR X (.builtin "sorted") (fun vs H Q => ∃ (a : Addr) (ns : List Cs), vs = [V.ref a] ∧ SqL X.K H a (ns.map fun s => V.str (mkS s)) ∧ ∀ p, H p = none → Q (.ref p) (upd H p (.lst ((ns.mergeSort leS).map fun s => V.str (mkS s))))) := by
  intro pins s σ H vs us Q I r ⟨a, ns, e, hs, q⟩
  subst e
  obtain ⟨its, rv, hl, hz⟩ := I.list hs
  rw [Vals.ref1 r]
  have ei := each_strs (h := s.heap) rv
  have hz' : ns.length ≤ sizeLine := by simpa using hz
  refine PySem.W.sorted_data (enc := fun b : Cs => PyData.str (mkS b)) hl.isList ei (each_reads ei) (cs_alike ns) (cs_sortable ns) hz' (fun b _ => by have := hr.units; show X.A.units + 2 + 0 < cLine; omega) fun out h1 h2 => ?_
  rw [dataLe_cs] at h2
  obtain ⟨ep, he'⟩ := PyProof.Rows.sortedAll_at s.heap its out.toArray
  have hlen : ((ns.mergeSort leS).map fun s => V.str (mkS s)).length ≤ sizeLine := by rw [List.length_map, List.length_mergeSort]; exact hz'
  exact ⟨.ref _, upd H (s.heap.objs.size + 1) (.lst ((ns.mergeSort leS).map fun s => V.str (mkS s))), I.laid (t' := s.toks) (fun _ _ => PyProof.Rows.sortedAll_old) (Nat.le_succ _) ⟨hlen, out, ep, strs_each h2, he'⟩, rfl, q _ (I.hok.fresh (Nat.le_succ _))⟩
theorem cr_sortedD {k : Nat} (hcalm : X.calm = true) (hr : Room k X.A) : CallR X (.builtin "sorted") (fun xs H Q => ∃ (a : Addr) (kvs : List (Key × V)) (ks : List Cs), xs = [.ref a] ∧ Rd H a (.dK kvs) ∧ kvs.map (·.1) = ks.map (fun s => Sum.inr (mkS s)) ∧
    ∀ p, H p = none → Q (.ref p) (upd H p (.lst ((ks.mergeSort leS).map fun s => V.str (mkS s))))) := by
  intro pins s σ H xs us Q I r q
  obtain ⟨a, kvs, ks, ex, hd, hks, q⟩ := q
  subst ex
  obtain ⟨u, eu, rx⟩ := vals1 r
  subst eu
  cases rx
  obtain ⟨z, lo, vs, rel, dd⟩ := dk_rd I.hok hd
  obtain ⟨ep, hat⟩ := dd.dictAt
  have hkeys : vs.map (·.1) = ks.map (fun s => Sum.inr (mkS s)) := rel.keys.symm.trans hks
  have hl : vs.length = ks.length := by
    have e := congrArg List.length hkeys
    rw [List.length_map, List.length_map] at e
    exact e
  have hkl : kvs.length = ks.length := by
    have e := congrArg List.length hks
    rw [List.length_map, List.length_map] at e
    exact e
  have h16 : vs.length ≤ sizeLine := by rw [hl, ← hkl]; exact z
  refine Calls.call_function_entry PyProof.Rows.kind_sorted PyProof.Rows.plain_sorted PyProof.Rows.entry_sorted (PyProof.Rows.args_sorted1 _) ?_
  unfold Builtin.«sorted»
  refine wpAny_bind (m := checkCount "sorted" 1 1 _) (wpAny_pure ?_)
  refine wpAny_bind (PySem.W.kdu_collect (A := X.A.in1) (PySem.W.kdl_dict (knd := mixKind X.prog X.w) (kvs := vs) (ep := ep) lo) (I.ok.hd hcalm) hat h16 fun h' tk acc hk hacc => ?_)
  have hal : acc.toList.length = ks.length := by rw [Array.length_toList, hacc.1, hl]
  have ei : PySem.W.EachIs (fun v b => ∃ t, v = Value.str (mkS b) t) acc.toList ks := by
    refine PySem.W.EachIs.of_zip hal fun p hp => ?_
    obtain ⟨j, hj⟩ := List.getElem?_of_mem hp
    rw [List.getElem?_zip_eq_some] at hj
    obtain ⟨e1, e2⟩ := hj
    obtain ⟨k', x, g1, g2⟩ := hacc.2 j p.1 (by rw [← Array.getElem?_toList]; exact e1)
    have e3 : (vs.map (·.1))[j]? = some k' := by rw [List.getElem?_map, g1]; rfl
    rw [hkeys, List.getElem?_map, e2] at e3
    have e5 : Sum.inr (mkS p.2) = k' := Option.some.inj e3
    subst e5
    obtain ⟨t, ev⟩ := Value.isStrOf_shape (x := mkS p.2) (v := p.1) g2
    exact ⟨t, ev⟩
  have I1 : Inv X pins σ H { s with heap := h', toks := tk } := I.kept hk
  refine wpAny_bind (wpAny_newList ?_ (by rw [hal, ← hl]; exact h16))
  have hoL : (h'.push (seqObj "list" acc.toList.toArray 0)).get? h'.objs.size = some (seqObj "list" acc.toList.toArray 0) := Heap.get?_push_size _ rfl
  show wpAny _ _ _ _ _ { s with heap := h'.push (seqObj "list" acc.toList.toArray 0), toks := tk }
  have er := each_reads (h := PySem.W.sortingHeap (h'.push (seqObj "list" acc.toList.toArray 0)) h'.objs.size acc.toList) ei
  have hu : ∀ b : Cs, b ∈ ks → X.A.in1.in1.units + (PyData.str (mkS b)).depth < cLine := fun b _ => by
    have := hr.units
    show X.A.units + 2 + 0 < cLine
    omega
  refine wpAny_bind (wpAny_holding (wpAny_call_entry PyProof.Rows.slot_list_sort ⟨_, hoL, rfl⟩ PyProof.Rows.entry_list_sort
    (PySem.W.list_sort_vals (s := { s with heap := h'.push (seqObj "list" acc.toList.toArray 0), toks := tk }) (n := 0) hoL
      (PySem.W.SortsAt.data (s := { s with heap := PySem.W.sortingHeap (h'.push (seqObj "list" acc.toList.toArray 0)) h'.objs.size acc.toList, toks := tk }) (PySem.W.each_map (R := fun v d => ∃ as, Reads (PySem.W.sortingHeap (h'.push (seqObj "list" acc.toList.toArray 0)) h'.objs.size acc.toList) v d as) (fun b : Cs => PyData.str (mkS b)) er) (cs_alike ks) (cs_sortable ks) (PySem.W.bound_map hu)) (by rw [hal, ← hl]; exact h16) ⟨_, rfl, ?_⟩)
    (PyProof.Rows.args_list_sort _)))
  have h2 := PySem.W.sortVals_data (enc := fun b : Cs => PyData.str (mkS b)) (h' := PySem.W.sortingHeap (h'.push (seqObj "list" acc.toList.toArray 0)) h'.objs.size acc.toList) false ei er (cs_alike ks)
  rw [dataLe_cs] at h2
  obtain ⟨e', he'⟩ := PyProof.Rows.sortedHeap_at (vs := acc.toList) (out := (PySem.W.sortVals (PySem.W.dataKind (PySem.W.sortingHeap (h'.push (seqObj "list" acc.toList.toArray 0)) h'.objs.size acc.toList) (ks.map fun b => PyData.str (mkS b))) false acc.toList acc.toList).toArray) hoL
  have hlen : ((ks.mergeSort leS).map fun s => V.str (mkS s)).length ≤ sizeLine := by
    rw [List.length_map, List.length_mergeSort, ← hl]; exact h16
  refine wpAny_pure ⟨_, rfl, .ref h'.objs.size, upd H h'.objs.size (.lst ((ks.mergeSort leS).map fun s => V.str (mkS s))), I1.laid (t' := tk) (fun b u e => ?_) (Nat.le_refl _)
    (show ObjOk X.prog X.w _ _ _ (.lst _) from ⟨hlen, _, e', strs_each h2, he'⟩), rfl, q _ (I1.hok.fresh (Nat.le_refl _))⟩
  have hb : b < h'.objs.size := Heap.lt_size e
  rw [PyProof.Rows.sortedHeap_old (Nat.ne_of_lt hb) (by rw [size_push']; exact Nat.lt_succ_of_lt hb)]
  exact Heap.get?_push_of_some _ e
end
end Vy

namespace Vy
/-! ## data, for the mathematics -/
theorem SZ_ge : 1000000 ≤ SZ := by decide
@[simp] theorem putT3 (ρ : Env) (i j l : Nat) (a b c : Cs) : Tg.put ρ (.tup [i, j, l]) (.tup [.str a, .str b, .str c]) = .ok (((ρ.set i (some (.str a, 9))).set j (some (.str b, 9))).set l (some (.str c, 9))) := by
  simp [Tg.put, gd, setV]
@[simp] theorem fullT3 (a b c : Cs) (n : Nat) : full (.tup [.str a, .str b, .str c], n) = true := by simp [full, D.mdep, mdepL]
theorem par_len : ∀ (S l acc a b : Cs), TL.par S acc l = some (a, b) → a.length ≤ acc.length + l.length ∧ b.length ≤ l.length
  | S, [], acc, a, b, h => by cases h
  | S, c :: r, acc, a, b, h => by
    by_cases hc : TL.pre S (c :: r) = true
    · rw [TL.par_hit hc] at h
      cases h
      simp
    · rw [TL.par_miss (by simpa using hc)] at h
      have := par_len S r _ a b h
      simp at this ⊢; omega
theorem par_sum : ∀ (S l acc a b : Cs), TL.par S acc l = some (a, b) → acc.length + l.length = a.length + b.length + S.length
  | S, [], acc, a, b, h => by cases h
  | S, c :: r, acc, a, b, h => by
    by_cases hc : TL.pre S (c :: r) = true
    · rw [TL.par_hit hc] at h
      have hl : S.length ≤ (c :: r).length := by
        have e : (c :: r).take S.length = S := by simpa [TL.pre] using hc
        have := congrArg List.length e
        rw [List.length_take] at this
        omega
      cases h
      simp at hl ⊢; omega
    · rw [TL.par_miss (by simpa using hc)] at h
      have := par_sum S r _ a b h
      simp at this ⊢; omega
def noTx : D → Bool
  | .str _ => false
  | .ins _ _ _ => false
  | .cls _ => false
  | .scr _ => false
  | .fz _ => false
  | .hol => false
  | _ => true
theorem mdepL_zero {xs : List D} (h : ∀ d ∈ xs, d.mdep = 0) : mdepL xs = 0 := Nat.le_zero.mp (mdepL_le fun d hd => Nat.le_of_eq (h d hd))
theorem in_tups (s : Cs) (l : List Cs) : cmpD .isin (.str s) (.tup (l.map D.str)) = some (l.contains s) := by
  simp only [cmpD, inD]
  rw [go_pos ⟨rfl, eqOkL_strs l, by rw [show (D.str s).dep = 0 from rfl]; omega⟩, any_strs]
theorem slc_tail' (x : D) (xs : List D) : slcD (.tup (x :: xs)) (some 1) none = some (.tup xs, lvt xs) := by
  have e1 : sx (x :: xs).length 0 (some 1) = 1 := by simp [sx]
  have e2 : sx (x :: xs).length (x :: xs).length none = xs.length + 1 := by simp [sx]
  have e3 : cut (x :: xs) (some 1) none = xs := by unfold cut; rw [e1, e2]; simp
  simp only [slcD, e3]
theorem slc_tail (x : D) (xs : List D) (h : mdepL (x :: xs) = 0) : slcD (.tup (x :: xs)) (some 1) none = some (.tup xs, 9) := by
  have : mdepL xs = 0 := by simp at h; omega
  rw [slc_tail']
  unfold lvt
  rw [if_pos this]
theorem norm_im {d : D} (h : d.mdep = 0) (n : Nat) : norm (d, n) = (d, 9) := by simp [norm, h]
theorem put_any (ρ : Env) (i : Nat) (d : D) : Tg.put ρ (.one i) d = .ok (setV ρ i (d, 0)) := id rfl
theorem intsOf_map (l : List Int) : intsOf (l.map D.int) = some l := by
  induction l with
  | nil => rfl
  | cons s r ih => rw [List.map_cons, intsOf, ih]; rfl
theorem maxI_nat : ∀ (l : List Nat) (n : Nat), maxI (n : Int) (l.map fun m => ((m : Nat) : Int)) = ((max n (l.foldr max 0) : Nat) : Int)
  | [], n => by simp [maxI]
  | m :: l, n => by
    rw [List.map_cons, maxI]
    by_cases h : (n : Int) < (m : Int)
    · rw [if_pos h, maxI_nat l m, List.foldr_cons]; congr 1; omega
    · rw [if_neg h, maxI_nat l n, List.foldr_cons]; congr 1; omega
theorem maxd_nat (l : List Nat) (n : Nat) : bifD .maxd [(.lst (l.map fun m => D.int ((m : Nat) : Int)), n)] = some (.int ((l.foldr max 0 : Nat) : Int), 9) := by
  have e : intsOf (l.map fun m => D.int ((m : Nat) : Int)) = some (l.map fun m => ((m : Nat) : Int)) := by
    have := intsOf_map (l.map fun m => ((m : Nat) : Int))
    rwa [List.map_map] at this
  simp only [bifD, e]
  cases l with
  | nil => rfl
  | cons m l => simp only [List.map_cons]; rw [maxI_nat]; rfl
theorem sum_nat (l : List Nat) (n : Nat) : bifD .sum [(.lst (l.map fun m => D.int ((m : Nat) : Int)), n)] = some (.int ((l.sum : Nat) : Int), 9) := by
  have e : intsOf (l.map fun m => D.int ((m : Nat) : Int)) = some (l.map fun m => ((m : Nat) : Int)) := by
    have := intsOf_map (l.map fun m => ((m : Nat) : Int))
    rwa [List.map_map] at this
  simp only [bifD, e, Option.map_some]
  congr 3
  induction l with
  | nil => rfl
  | cons m l ih =>
    simp only [List.map_cons, List.sum_cons]
    have := ih (by
      have := intsOf_map (l.map fun m => ((m : Nat) : Int))
      rwa [List.map_map] at this)
    omega
theorem le_foldr {l : List Nat} {n : Nat} (h : n ∈ l) : n ≤ l.foldr max 0 := by
  induction l with
  | nil => cases h
  | cons m l ih =>
    rw [List.foldr_cons]
    rcases List.mem_cons.mp h with rfl | h
    · omega
    · have := ih h; omega
theorem any_mp {α : Type} (p : α → Bool) (l : List α) (n : Nat) : bifD .any [(.lst (l.map fun a => D.bl (p a)), n)] = some (.bl (l.any p), 9) := by
  have : boolsOf (l.map fun a => D.bl (p a)) = some (l.map p) := by
    have := boolsOf_map (l.map p)
    rwa [List.map_map] at this
  simp only [bifD, this]
  simp
theorem max_nat {α : Type} (f : α → Nat) (l : List α) (n : Nat) (h : l ≠ []) : bifD .max [(.lst (l.map fun m => D.int ((f m : Nat) : Int)), n)] = some (.int (((l.map f).foldr max 0 : Nat) : Int), 9) := by
  have e : intsOf (l.map fun m => D.int ((f m : Nat) : Int)) = some ((l.map f).map fun m => ((m : Nat) : Int)) := by
    have := intsOf_map ((l.map f).map fun m => ((m : Nat) : Int))
    rw [List.map_map, List.map_map] at this
    exact this
  simp only [bifD, e]
  cases l with
  | nil => exact absurd rfl h
  | cons m l => simp only [List.map_cons]; rw [maxI_nat]; rfl
theorem sum_natf {α : Type} (f : α → Nat) (l : List α) (n : Nat) : bifD .sum [(.lst (l.map fun m => D.int ((f m : Nat) : Int)), n)] = some (.int (((l.map f).sum : Nat) : Int), 9) := by
  have := sum_nat (l.map f) n
  rw [List.map_map] at this
  exact this
theorem add_lst {xs ys : List D} {m n : Nat} (h : xs.length + ys.length ≤ SZ) (hm : mdepL (xs ++ ys) = 0) : binD .add (.lst xs, m) (.lst ys, n) = some (.lst (xs ++ ys), 9) := by
  have e : lv1 (xs ++ ys) = 9 := by unfold lv1; rw [if_pos hm]
  show go _ _ = _
  rw [go_pos h, e]
theorem tuple_lst {xs : List D} {n : Nat} (hm : mdepL xs = 0) : bifD .tuple [(.lst xs, n)] = some (.tup xs, 9) := go_pos hm
theorem lst_from {xs : List D} {i : Int} (h : 0 ≤ i) (hm : mdepL xs = 0) : slcD (.lst xs) (some i) none = some (.lst (xs.drop i.toNat), 9) := by
  have e : sx xs.length 0 (some i) = min i.toNat xs.length := by simp [sx, h]
  have e2 : sx xs.length xs.length none = xs.length := rfl
  have e3 : cut xs (some i) none = xs.drop i.toNat := by
    unfold cut
    rw [e, e2]
    by_cases hh : i.toNat ≤ xs.length
    · rw [Nat.min_eq_left hh, List.take_of_length_le (by rw [List.length_drop]; omega)]
    · rw [Nat.min_eq_right (by omega), List.drop_length, List.drop_of_length_le (by omega)]; simp
  simp only [slcD, e3]
  unfold lv1
  rw [if_pos hm]
theorem lst_to {xs : List D} {i : Int} (h : 0 ≤ i) (hm : mdepL xs = 0) : slcD (.lst xs) none (some i) = some (.lst (xs.take i.toNat), 9) := by
  have e : sx xs.length xs.length (some i) = min i.toNat xs.length := by simp [sx, h]
  have e3 : cut xs none (some i) = xs.take i.toNat := by
    unfold cut
    rw [e, show sx xs.length 0 none = 0 from rfl]
    simp [List.take_eq_take_iff]
  simp only [slcD, e3]
  unfold lv1
  rw [if_pos hm]
theorem lst_last {xs : List D} {i : Nat} (h0 : 0 < i) (hm : mdepL xs = 0) : slcD (.lst xs) (some (-(i : Int))) none = some (.lst (xs.drop (xs.length - i)), 9) := by
  have e : sx xs.length 0 (some (-(i : Int))) = xs.length - i := by
    unfold sx
    simp only
    rw [if_neg (by omega)]
    omega
  have e3 : cut xs (some (-(i : Int))) none = xs.drop (xs.length - i) := by
    unfold cut
    rw [e, show sx xs.length xs.length none = xs.length from rfl, List.take_of_length_le (by rw [List.length_drop]; omega)]
  simp only [slcD, e3]
  unfold lv1
  rw [if_pos hm]
theorem tup_from {xs : List D} {i : Int} (h : 0 ≤ i) (hm : mdepL xs = 0) : slcD (.tup xs) (some i) none = some (.tup (xs.drop i.toNat), 9) := by
  have := lst_from h hm
  simp only [slcD, Option.some.injEq, Prod.mk.injEq, D.lst.injEq] at this
  have hz : mdepL (xs.drop i.toNat) = 0 := Nat.le_zero.mp (hm ▸ mdepL_le fun d hd => mdepL_mem (List.mem_of_mem_drop hd))
  simp only [slcD, this.1]
  unfold lvt
  rw [if_pos hz]
theorem tup_to {xs : List D} {i : Int} (h : 0 ≤ i) (hm : mdepL xs = 0) : slcD (.tup xs) none (some i) = some (.tup (xs.take i.toNat), 9) := by
  have := lst_to h hm
  simp only [slcD, Option.some.injEq, Prod.mk.injEq, D.lst.injEq] at this
  have hz : mdepL (xs.take i.toNat) = 0 := Nat.le_zero.mp (hm ▸ mdepL_le fun d hd => mdepL_mem (List.mem_of_mem_take hd))
  simp only [slcD, this.1]
  unfold lvt
  rw [if_pos hz]
theorem add_tup {xs ys : List D} {m n : Nat} (h0 : xs ≠ []) (h : xs.length + ys.length ≤ SZ) : binD .add (.tup xs, m) (.tup ys, n) = some (.tup (xs ++ ys), lvt (xs ++ ys)) := go_pos ⟨h0, h⟩
theorem sub_last {xs : List D} {d : D} (h : xs.getLast? = some d) : subD (.lst xs) (.int (-1)) = some (d, 0) := by
  have h0 : xs ≠ [] := fun z => by subst z; cases h
  have hl : 0 < xs.length := List.length_pos_iff.mpr h0
  have e1 : ix xs.length (-1) = some (xs.length - 1) := by
    unfold ix
    rw [if_neg (by omega), if_pos (by omega)]
    congr 1; omega
  rw [List.getLast?_eq_getElem?] at h
  simp only [subD, at?, e1, Option.bind_some, h, Option.map_some]
theorem mdepL_enum {xs : List D} (h : mdepL xs = 0) : mdepL (enumD xs) = 0 := mdepL_zero fun d hd => by
  unfold enumD at hd
  obtain ⟨p, hp, rfl⟩ := List.mem_map.mp hd
  have : p.1 ∈ xs := by
    obtain ⟨i, hi⟩ := List.mem_iff_getElem?.mp hp
    rw [List.getElem?_zipIdx] at hi
    obtain ⟨d, hd, e⟩ := Option.map_eq_some_iff.mp hi
    rw [← e]
    exact List.mem_of_getElem? hd
  have := mdepL_mem this
  simp; omega
theorem enum_ints {cs : List Int} {d : D} (h : d ∈ enumD (cs.map D.int)) : ∃ (i : Nat) (c : Int), d = .tup [.int (i : Nat), .int c] := by
  unfold enumD at h
  obtain ⟨p, hp, rfl⟩ := List.mem_map.mp h
  obtain ⟨i, hi⟩ := List.mem_iff_getElem?.mp hp
  rw [List.getElem?_zipIdx, List.getElem?_map] at hi
  obtain ⟨d, hd, e⟩ := Option.map_eq_some_iff.mp hi
  obtain ⟨c, _, hc⟩ := Option.map_eq_some_iff.mp hd
  subst hc
  refine ⟨p.2, c, ?_⟩
  rw [← e]
@[simp] theorem putT2 (ρ : Env) (i j : Nat) (a b : Int) : Tg.put ρ (.tup [i, j]) (.tup [.int a, .int b]) = .ok ((ρ.set i (some (.int a, 9))).set j (some (.int b, 9))) := by
  simp [Tg.put, gd, setV]
theorem forL_ix {f : Env → D → OS} : ∀ {xs : List D} {I : Nat → Env → Prop}, (∀ i x, xs[i]? = some x → ∀ ρ, I i ρ → ∃ ρ', f ρ x = .nx ρ' ∧ I (i + 1) ρ') → ∀ ρ, I 0 ρ → ∃ ρ', forL f xs ρ = .nx ρ' ∧ I xs.length ρ'
  | [], I, _, ρ, h => ⟨ρ, rfl, h⟩
  | x :: xs, I, hf, ρ, h => by
    obtain ⟨ρ1, h1, h2⟩ := hf 0 x rfl ρ h
    obtain ⟨ρ2, h3, h4⟩ := forL_ix (xs := xs) (I := fun i => I (i + 1)) (fun i y hy ρ hi => hf (i + 1) y (by simpa using hy) ρ hi) ρ1 h2
    exact ⟨ρ2, by rw [forL, h1]; exact h3, h4⟩
theorem flat_rep {α : Type} (x : α) (n : Nat) : (List.replicate n [x]).flatten = List.replicate n x := by
  induction n with
  | zero => rfl
  | succ n ih => rw [List.replicate_succ, List.flatten_cons, ih, List.replicate_succ]; rfl
theorem mul_lst {x : D} {n m k : Nat} (h : x.mdep = 0) (hn : n ≤ 1000) : binD .mul (.lst [x], m) (.int (n : Int), k) = some (.lst (List.replicate n x), 9) := by
  have e : lv1 [x] = 9 := by unfold lv1; simp [h]
  show go _ _ = _
  rw [go_pos ⟨by omega, by omega, by simp; exact Nat.le_trans hn (by decide)⟩, e]
  simp [flat_rep]
theorem max_two (a b : Int) (m n : Nat) : bifD .max [(.int a, m), (.int b, n)] = some (.int (if a < b then b else a), 9) := rfl
theorem joinC (t : Cs) (m n : Nat) (h : t.length ≤ 60) : methD .join (.str [], m) [(.lst (t.map fun c => D.str [c]), n)] = some (.str t, 9) := by
  have := join1 (fun c : Nat => c) t m n (by omega)
  simpa using this
end Vy

namespace Vy
/-! ## names, texts, trees: what the document tells of them -/
def letters : Cs := [97, 98, 99, 100, 101, 102, 103, 104, 105, 106, 107, 108, 109, 110, 111, 112, 113, 114, 115, 116, 117, 118, 119, 120, 121, 122]
def keptL : List Cs := [[111, 102], [105, 102], [105, 115], [116, 104, 101, 110], [101, 108, 115, 101], [101, 97, 99, 104], [100, 111], [105, 116], [98, 97, 99, 107], [102, 105, 114, 115, 116], [114, 101, 115, 116], [99, 111, 117, 110, 116], [115, 111, 114, 116, 101, 100], [102, 97, 105, 108], [108, 105, 110, 101], [109, 111, 114, 101]]
theorem letters_len : letters.length = 26 := by decide
/-- a plain name; a name; a sign; a text -/
def pl (s : Cs) : Bool := decide (1 ≤ s.length) && decide (s.length ≤ 8) && !keptL.contains s && s.all fun c => letters.contains c
def nmB (s : Cs) : Bool := match TL.par [46] [] s with
  | some (a, b) => pl a && pl b
  | none => pl s
def sg (c : Nat) : Bool := c == 10 || (decide (32 ≤ c) && decide (c ≤ 126) && !(((c : Nat) : Int) == 37))
def tx (s : Cs) : Bool := decide (s.length ≤ 900) && s.all sg
theorem pl_len {w : Cs} (h : pl w = true) : 1 ≤ w.length ∧ w.length ≤ 8 := by
  unfold pl at h
  simp only [Bool.and_eq_true, decide_eq_true_eq] at h
  exact h.1.1
theorem pl_no {w : Cs} (h : pl w = true) {c : Nat} (hc : c ∈ w) : c ∈ letters := by
  unfold pl at h
  simp only [Bool.and_eq_true, List.all_eq_true] at h
  simpa using h.2 c hc
theorem par_none : ∀ (l acc : Cs), (∀ c ∈ l, c ≠ 46) → TL.par [46] acc l = none
  | [], acc, _ => rfl
  | c :: r, acc, h => by
    have hc := h c (by simp)
    rw [TL.par_miss (by simp [TL.pre, List.isPrefixOf]; exact hc)]
    exact par_none r _ fun d hd => h d (by simp [hd])
theorem par_mid : ∀ (a acc b : Cs), (∀ c ∈ a, c ≠ 46) → TL.par [46] acc (a ++ 46 :: b) = some (acc ++ a, b)
  | [], acc, b, _ => by
    rw [List.nil_append, TL.par_hit (by simp [TL.pre, List.isPrefixOf])]
    simp
  | c :: r, acc, b, h => by
    have hc := h c (by simp)
    rw [List.cons_append, TL.par_miss (by simp [TL.pre, List.isPrefixOf]; exact hc), par_mid r _ b fun d hd => h d (by simp [hd])]
    simp
theorem letters_no : ∀ c ∈ letters, c ≠ 46 := by decide
theorem nmB_pl {w : Cs} (h : pl w = true) : nmB w = true := by
  unfold nmB
  rw [par_none w [] fun c hc => letters_no c (pl_no h hc)]
  exact h
theorem nmB_two {a b : Cs} (h : pl a = true) (h' : pl b = true) : nmB (a ++ [46] ++ b) = true := by
  unfold nmB
  rw [List.append_assoc, List.singleton_append, par_mid a [] b fun c hc => letters_no c (pl_no h hc)]
  simp [h, h']
theorem kept_x : ∀ u ∈ keptL, pl (u ++ [120]) = true := by decide
theorem kept_s (s : Cs) (h : s ∈ keptL) : pl s = false := by
  unfold pl; simp [h]

/-! ### trees -/
abbrev wText : Cs := [116, 101, 120, 116]
abbrev wThing : Cs := [116, 104, 105, 110, 103]
abbrev wKin : Cs := [107, 105, 110]
abbrev wLine : Cs := [108, 105, 110, 101]
abbrev wIt : Cs := [105, 116]
abbrev wStem : Cs := [115, 116, 101, 109]
abbrev wJoin : Cs := [106, 111, 105, 110]
abbrev wIf : Cs := [105, 102]
abbrev wEach : Cs := [101, 97, 99, 104]
/-- a leaf with a text, or a word with parts -/
inductive T where
  | q (w s : Cs)
  | n (w : Cs) (ps : List T)
def quoted : List Cs := [wText, wThing, wKin]
def bare : List Cs := [wLine, wIt, wStem]
def ones : List Cs := [[111, 102], [98, 97, 99, 107], [102, 105, 114, 115, 116], [114, 101, 115, 116], [99, 111, 117, 110, 116], [115, 111, 114, 116, 101, 100], [102, 97, 105, 108]]
mutual
def T.d : T → D
  | .q w s => .tup [.str w, .str s]
  | .n w ps => .tup (.str w :: T.ds ps)
def T.ds : List T → List D
  | [] => []
  | p :: r => p.d :: T.ds r
end
mutual
def T.ht : T → Nat
  | .q _ _ => 1
  | .n _ ps => 1 + T.hts ps
def T.hts : List T → Nat
  | [] => 0
  | p :: r => max p.ht (T.hts r)
end
mutual
def T.sz : T → Nat
  | .q _ _ => 1
  | .n _ ps => 1 + T.szs ps
def T.szs : List T → Nat
  | [] => 0
  | p :: r => p.sz + T.szs r
end
mutual
/-- it within no each -/
def T.fr : T → Bool
  | .q _ _ => false
  | .n w ps => w == wIt || T.frs (w == wEach) ps
def T.frs (one : Bool) : List T → Bool
  | [] => false
  | p :: r => p.fr || (!one && T.frs one r)
end
mutual
/-- stem and kin in it -/
def T.sk : T → Bool
  | .q w _ => w == wKin
  | .n w ps => w == wStem || T.sks ps
def T.sks : List T → Bool
  | [] => false
  | p :: r => p.sk || T.sks r
end
/-- how many parts a word has -/
def arB (w : Cs) (n : Nat) : Bool := (bare.contains w && n == 0) || (ones.contains w && n == 1) || (w == wJoin && decide (2 ≤ n) && decide (n ≤ 1000)) || (w == wIf && n == 4) || (w == wEach && n == 2)
def qOk (w s : Cs) : Bool := (w == wText && tx s && !s.contains 34 && !s.contains 10) || (w == wThing && nmB s) || (w == wKin && pl s)
mutual
def T.ok : T → Bool
  | .q w s => qOk w s
  | .n w ps => arB w ps.length && T.oks ps
def T.oks : List T → Bool
  | [] => true
  | p :: r => p.ok && T.oks r
end
theorem T.ds_eq : ∀ ps : List T, T.ds ps = ps.map T.d
  | [] => rfl
  | p :: r => by rw [T.ds, T.ds_eq r]; rfl
theorem T.hts_eq : ∀ ps : List T, T.hts ps = (ps.map T.ht).foldr max 0
  | [] => rfl
  | p :: r => by rw [T.hts, T.hts_eq r]; rfl
theorem T.szs_eq : ∀ ps : List T, T.szs ps = (ps.map T.sz).sum
  | [] => rfl
  | p :: r => by rw [T.szs, T.szs_eq r]; rfl
theorem T.frs_all : ∀ ps : List T, T.frs false ps = ps.any T.fr
  | [] => rfl
  | p :: r => by rw [T.frs, T.frs_all r]; simp
theorem T.sks_eq : ∀ ps : List T, T.sks ps = ps.any T.sk
  | [] => rfl
  | p :: r => by rw [T.sks, T.sks_eq r]; simp
theorem T.oks_eq : ∀ ps : List T, T.oks ps = ps.all T.ok
  | [] => rfl
  | p :: r => by rw [T.oks, T.oks_eq r]; simp
theorem T.d_n (w : Cs) (ps : List T) : (T.n w ps).d = .tup (.str w :: ps.map T.d) := by rw [T.d, T.ds_eq]
theorem T.d_q (w s : Cs) : (T.q w s).d = .tup [.str w, .str s] := by rw [T.d]
theorem T.ht_n (w : Cs) (ps : List T) : (T.n w ps).ht = 1 + (ps.map T.ht).foldr max 0 := by rw [T.ht, T.hts_eq]
theorem T.sz_n (w : Cs) (ps : List T) : (T.n w ps).sz = 1 + (ps.map T.sz).sum := by rw [T.sz, T.szs_eq]
theorem T.ht_q (w s : Cs) : (T.q w s).ht = 1 := by rw [T.ht]
theorem T.sz_q (w s : Cs) : (T.q w s).sz = 1 := by rw [T.sz]
theorem T.fr_q (w s : Cs) : (T.q w s).fr = false := by rw [T.fr]
theorem T.sk_q (w s : Cs) : (T.q w s).sk = (w == wKin) := by rw [T.sk]
theorem T.sk_n (w : Cs) (ps : List T) : (T.n w ps).sk = (w == wStem || ps.any T.sk) := by rw [T.sk, T.sks_eq]
theorem T.fr_n (w : Cs) (ps : List T) (h1 : w ≠ wIt) (h2 : w ≠ wEach) : (T.n w ps).fr = ps.any T.fr := by
  rw [T.fr]
  have e1 : (w == wIt) = false := by simpa using h1
  have e2 : (w == wEach) = false := by simpa using h2
  rw [e1, e2, T.frs_all]; rfl
theorem T.fr_each (p : T) (r : List T) : (T.n wEach (p :: r)).fr = p.fr := by
  rw [T.fr, T.frs]
  simp
theorem T.ok_n (w : Cs) (ps : List T) : (T.n w ps).ok = (arB w ps.length && ps.all T.ok) := by rw [T.ok, T.oks_eq]
theorem T.ok_q (w s : Cs) : (T.q w s).ok = qOk w s := by rw [T.ok]
/-- going through a tree -/
theorem T.ind {P : T → Prop} (h1 : ∀ w s, P (.q w s)) (h2 : ∀ w ps, (∀ p ∈ ps, P p) → P (.n w ps)) : ∀ t, P t
  | .q w s => h1 w s
  | .n w ps => h2 w ps (go ps)
where go : ∀ ps : List T, ∀ p ∈ ps, P p
  | [], _, h => nomatch h
  | a :: r, p, h => by
    rcases List.mem_cons.mp h with e | h
    · rw [e]; exact T.ind h1 h2 a
    · exact go r p h
theorem T.imm (t : T) : t.d.mdep = 0 := by
  induction t using T.ind with
  | h1 w s => rw [T.d_q]; simp
  | h2 w ps ih =>
    rw [T.d_n]
    simp only [mdep_tup, mdepL_cons, mdep_str]
    have := mdepL_zero (xs := ps.map T.d) fun d hd => by
      obtain ⟨p, hp, rfl⟩ := List.mem_map.mp hd
      exact ih p hp
    rw [this]; rfl
theorem T.imms (ps : List T) : mdepL (ps.map T.d) = 0 := mdepL_zero fun d hd => by
  obtain ⟨p, _, rfl⟩ := List.mem_map.mp hd
  exact p.imm
theorem T.ht_pos (t : T) : 1 ≤ t.ht := by cases t <;> simp [T.ht_q, T.ht_n]
theorem T.sz_pos (t : T) : 1 ≤ t.sz := by cases t <;> simp [T.sz_q, T.sz_n]
theorem T.ht_in {w : Cs} {ps : List T} {p : T} (h : p ∈ ps) : p.ht + 1 ≤ (T.n w ps).ht := by
  rw [T.ht_n]
  have := le_foldr (List.mem_map.mpr ⟨p, h, rfl⟩ : p.ht ∈ ps.map T.ht)
  omega
theorem arB_len {w : Cs} {n : Nat} (h : arB w n = true) : n ≤ 1000 := by
  unfold arB at h
  simp only [Bool.or_eq_true, Bool.and_eq_true, beq_iff_eq, decide_eq_true_eq] at h
  omega
theorem arB_word {w : Cs} {n : Nat} (h : arB w n = true) : w ∉ quoted ∧ w.length ≤ 10 := by
  unfold arB at h
  simp only [Bool.or_eq_true, Bool.and_eq_true, beq_iff_eq, decide_eq_true_eq, List.contains_iff_mem] at h
  have h1 : ∀ w ∈ bare, w ∉ quoted ∧ w.length ≤ 10 := by decide
  have h2 : ∀ w ∈ ones, w ∉ quoted ∧ w.length ≤ 10 := by decide
  rcases h with (((h | h) | h) | h) | h
  · exact h1 w h.1
  · exact h2 w h.1
  · rw [h.1.1]; decide
  · rw [h.1]; decide
  · rw [h.1]; decide
theorem arB_bare {w : Cs} {ps : List T} (h : arB w ps.length = true) (hb : w ∈ bare) : ps = [] := by
  have h1 : ∀ w ∈ bare, w ∉ ones ∧ w ≠ wJoin ∧ w ≠ wIf ∧ w ≠ wEach := by decide
  obtain ⟨a, b, c, d⟩ := h1 w hb
  unfold arB at h
  simp only [Bool.or_eq_true, Bool.and_eq_true, beq_iff_eq, decide_eq_true_eq, List.contains_iff_mem] at h
  rcases h with (((h | h) | h) | h) | h
  · exact List.eq_nil_of_length_eq_zero h.2
  · exact absurd h.1 a
  · exact absurd h.1.1 b
  · exact absurd h.1 c
  · exact absurd h.1 d
theorem arB_each {ps : List T} (h : arB wEach ps.length = true) : ∃ x y, ps = [x, y] := by
  match ps, h with
  | [x, y], _ => exact ⟨x, y, rfl⟩
  | [], h => exact absurd h (by decide)
  | [x], h => exact absurd h (by simp [arB, bare, ones])
  | x :: y :: z :: r, h => simp [arB, bare, ones] at h
theorem arB_counts {w : Cs} {n : Nat} (h : arB w n = true) (hb : w ∉ bare) : (if w = wJoin then decide (2 ≤ n) else if w = wIf then decide (n = 4) else if w = wEach then decide (n = 2) else ones.contains w && decide (n = 1)) = true := by
  have h1 : ∀ w ∈ ones, w ≠ wJoin ∧ w ≠ wIf ∧ w ≠ wEach := by decide
  unfold arB at h
  simp only [Bool.or_eq_true, Bool.and_eq_true, beq_iff_eq, decide_eq_true_eq, List.contains_iff_mem] at h
  rcases h with (((h | h) | h) | h) | h
  · exact absurd h.1 hb
  · obtain ⟨b, c, d⟩ := h1 w h.1
    simp [b, c, d, h.1, h.2]
  · simp [h.1.1, h.1.2]
  · simp [h.1, h.2]
  · simp [h.1, h.2]
theorem foldr_le {l : List Nat} {n : Nat} (h : ∀ m ∈ l, m ≤ n) : l.foldr max 0 ≤ n := by
  induction l with
  | nil => simp
  | cons a l ih =>
    rw [List.foldr_cons]
    have := ih fun m hm => h m (by simp [hm])
    have := h a (by simp)
    omega
theorem nmB_len {s : Cs} (h : nmB s = true) : s.length ≤ 20 := by
  unfold nmB at h
  cases e : TL.par [46] [] s with
  | none => rw [e] at h; have := (pl_len h).2; omega
  | some p =>
    obtain ⟨a, b⟩ := p
    rw [e] at h
    simp only [Bool.and_eq_true] at h
    have l1 := (pl_len h.1).2
    have l2 := (pl_len h.2).2
    have := par_sum _ _ _ _ _ e
    simp at this
    omega
theorem qOk_len {w s : Cs} (h : qOk w s = true) : s.length ≤ SZ := by
  refine Nat.le_trans (?_ : s.length ≤ 900) (by decide)
  unfold qOk at h
  simp only [Bool.or_eq_true, Bool.and_eq_true, beq_iff_eq] at h
  rcases h with (h | h) | h
  · have := h.1.1.2
    unfold tx at this
    simp only [Bool.and_eq_true, decide_eq_true_eq] at this
    exact this.1
  · have := nmB_len h.2; omega
  · have := (pl_len h.2).2; omega
theorem qOk_word {w s : Cs} (h : qOk w s = true) : w ∈ quoted := by
  unfold qOk at h
  simp only [Bool.or_eq_true, Bool.and_eq_true, beq_iff_eq] at h
  rcases h with (h | h) | h
  · rw [h.1.1.1]; decide
  · rw [h.1]; decide
  · rw [h.1]; decide
end Vy

namespace Vy
open PySem PySem.Spec
open PyProof.Rows hiding St
open L2
/-! ## what changes things, in short -/
section
variable {sc : Scope} {X : Cx} {nm : Nm} {G : Glo} {CA : Nat → Addr} {cf : Runs} {np : Nat → Option Nat} {bl : List Str} {W : WX} {L : List Nat}
theorem q_var (B : En sc X nm G CA cf np bl W) (i : Nat) {x : Str} {pos : Pos} (hN : nm.N[i]? = some x) (h : visB sc x = true) (hd : dbg x = true) : PE X (.Name x pos) (tP X G CA cf W ⟨i, []⟩) :=
  p_var (by rw [B.cx.N]; exact hN) (B.vis h) (dbg_ok hd).1 (dbg_ok hd).2.1
theorem q_ix (B : En sc X nm G CA cf np bl W) {i : Nat} (st : List Ptp) {c : C} {e b : Expr} {pos : Pos} (he : PE X e (tP X G CA cf W ⟨i, st⟩)) (hb : PE X b (tE X G CA cf W c)) (hs : PlainIx b) : PE X (.Subscript e b pos) (tP X G CA cf W ⟨i, st ++ [.ix c]⟩) :=
  let ⟨_, hr, _⟩ := B.cx.lev; p_ix hr he hb hs
/-- o[k] = e -/
theorem z_st (B : En sc X nm G CA cf np bl W) {p : Pth} {ck c : C} {o ek e : Expr} {spos pos : Pos} (ho : PE X o (tP X G CA cf W p)) (hk : PE X ek (tE X G CA cf W ck)) (he : PE X e (tE X G CA cf W c)) (hl : noLc e = true)
    (ha : ∀ v, assign (.Subscript o ek spos) X.env v = (do
      let ov ← holding [v] (eval o X.env)
      let iv ← holding [v, ov] (eval ek X.env)
      standAt spos
      holding [v, ov, iv] (setItem ov iv v)
      release [v, ov, iv] [])) : PS X (.Assign [.Subscript o ek spos] e pos) (tS X G CA cf W L (.st p ck c)) :=
  let ⟨_, hr, _⟩ := B.cx.lev; s_st hr ho hk he hl ha (no_swap (t := some (.Subscript o ek spos)) (l := pos.line) (env := X.env) hl)
theorem z_asgX (B : En sc X nm G CA cf np bl W) (i : Nat) {x : Str} {c : Xp} {e : Expr} {p pos : Pos} (hx : nm.N[i]? = some x) (hl : locB sc x = true) (hc : noLc e = true) (he : PE X e (tX X G CA cf W L c)) : PS X (.Assign [.Name x p] e pos) (tS X G CA cf W L (.asgX i c)) :=
  s_asgX B.so B.cx.nd (by rw [B.cx.N]; exact hx) (loc_or hl) he hc
end
/-! ### for simp -/
section
variable (G : Glo) (cf : Runs) (L : List Nat) (ρ : Env)
@[simp] theorem exS_st (p : Pth) (k e : C) : exS G cf L ρ (.st p k e) = onE (ev G cf ρ e) ρ fun q => onE (rsv G cf ρ p.st) ρ fun rs => onE (noX (ev G cf ρ k)) ρ fun y => onX (mopX L ρ p.i rs (names e) [q] fun u => (stOp u y q).map (·, (.non, 9))) fun _ ρ2 => .nx ρ2 := by rw [exS]
@[simp] theorem exS_asgX (i : Nat) (x : Xp) : exS G cf L ρ (.asgX i x) = onX (exX G cf L ρ x) fun p ρ1 => onJ cf.io [i] (.nx (bindV ρ1 i p (xnames x))) := by rw [exS]
@[simp] theorem exS_expX (x : Xp) : exS G cf L ρ (.expX x) = onX (exX G cf L ρ x) fun _ ρ1 => .nx ρ1 := by rw [exS]
@[simp] theorem exS_retX (x : Xp) : exS G cf L ρ (.retX x) = onX (exX G cf L ρ x) fun p ρ1 => .rt p ρ1 := by rw [exS]
@[simp] theorem exX_mop (p : Pth) (m : MO) (es : List C) : exX G cf L ρ (.mop p m es) = onO (rsv G cf ρ p.st) ρ fun rs => OX.of ((nodeP ρ p.i rs).map fun q => if mTy m q = true then onO (evs G cf ρ es) ρ fun ps => mopX L ρ p.i rs (namesL es) ps fun q => nodeOp m q ps else .bad) := by rw [exX]
@[simp] theorem exX_pu (c : C) : exX G cf L ρ (.pu c) = onO (ev G cf ρ c) ρ fun p => .ok p ρ := by rw [exX]
@[simp] theorem rsv_nil : rsv G cf ρ [] = .ok [] := by rw [rsv]
@[simp] theorem rsv_at (e : C) (r : List Ptp) : rsv G cf ρ (.ix e :: r) = (noX (ev G cf ρ e)).bind fun x => (rsv G cf ρ r).bind fun rs => .ok (.at x.1 :: rs) := by rw [rsv]
end
end Vy

namespace Vy
open PySem PySem.Spec
open PyProof.Rows hiding St
open L2
/-! ## the greatest of texts; what a dict tells of a key -/
section
variable {X : Cx}
theorem maxOf_S : ∀ (ns : List Cs) (n : Cs), PySem.W.maxOf (mkS n) (ns.map mkS) = mkS (maxS n ns)
  | [], n => rfl
  | m :: ns, n => by
    show PySem.W.maxOf (if PySem.W.DatumOrd.lt (mkS n) (mkS m) = true then mkS m else mkS n) (ns.map mkS) = _
    have : PySem.W.DatumOrd.lt (mkS n) (mkS m) = decide (n < m) := by
      show decide ((mkS n).cps.toList < (mkS m).cps.toList) = _
      rw [mkS_tl, mkS_tl]
    rw [this, maxS]
    by_cases h : n < m
    · simp only [h, decide_true, if_true]; exact maxOf_S ns m
    · simp only [h, decide_false, Bool.false_eq_true, if_false]; exact maxOf_S ns n
theorem maxS_mem : ∀ (ns : List Cs) (n : Cs), maxS n ns ∈ n :: ns
  | [], n => by simp [maxS]
  | m :: ns, n => by
    rw [maxS]
    have := maxS_mem ns (if n < m then m else n)
    split at this
    · rename_i h
      rw [if_pos h]
      rcases List.mem_cons.mp this with z | z <;> simp [z]
    · rename_i h
      rw [if_neg h]
      rcases List.mem_cons.mp this with z | z <;> simp [z]
theorem cr_maxS {k : Nat} (hc : X.calm = true) (hr : Room k X.A) : CallR X (.builtin "max") (fun vs H Q => ∃ (a : Addr) (n : Cs) (ns : List Cs), vs = [V.ref a] ∧ SqL X.K H a ((n :: ns).map fun s => V.str (mkS s)) ∧ Q (.str (mkS (maxS n ns))) H) := by
  intro pins s σ H vs us Q I r ⟨a, n, ns, e, h, q⟩
  subst e
  rw [Vals.ref1 r]
  have hu : X.A.units + 1 + 0 < cLine := by have := hr.un; omega
  have hm : ((n :: ns).map fun s => V.str (mkS s)) = (mkS n :: ns.map mkS).map V.str := by simp [Function.comp_def]
  obtain ⟨its, rv, hl, _⟩ := I.list h
  rw [hm] at rv
  refine PySem.W.max_list_datum (α := Str) (I.ok.hd hc) hl.isList (hold_strs rv) hu fun i v h' tk _ hv hk => ?_
  rw [maxOf_S] at hv
  obtain ⟨as, hv⟩ := hv
  have : ∃ t, v = .str (mkS (maxS n ns)) t := by
    generalize hd : (PySem.W.Datum.toD (mkS (maxS n ns)) : PyData) = d at hv
    cases hv <;> first | (cases hd; exact ⟨_, rfl⟩) | cases hd
  obtain ⟨t', rfl⟩ := this
  exact ⟨.str (mkS (maxS n ns)), H, I.kept hk, ⟨t', rfl⟩, q⟩
variable {CA : Nat → Addr} {W : WX}
theorem c_maxs {σ0 : St} {k : Nat} (hc : X.calm = true) (hr : Room k X.A) : CallR X (.builtin "max") (rC X CA W σ0 .maxs) := by
  refine CallR.one (cr_maxS hc hr) (one_no (fun p q r => by obtain ⟨d, n⟩ := p; cases d <;> rfl) rfl) fun d n x H0 H M Ox Zx z Q pv hz hd => ?_
  cases d <;> first | (cases hz; done) | skip
  rename_i xs
  have hz : (match strsOf xs with | some (s :: ss) => some (D.str (maxS s ss), 9) | _ => none) = some z := hz
  obtain ⟨a, vs, Z0, rfl, h1, r, _⟩ := pv.lst_inv
  cases hs : strsOf xs with
  | none => rw [hs] at hz; cases hz
  | some l =>
    rw [hs] at hz
    cases l with
    | nil => cases hz
    | cons s ss =>
      cases hz
      obtain ⟨e, hb⟩ := str_list r hs
      subst e
      exact ⟨a, s, ss, rfl, .of h1, hd.val pv.same (.str (hb _ (maxS_mem ss s)))⟩
end
section
variable {X : Cx} {nm : Nm} {G : Glo} {CA : Nat → Addr} {cf : Runs} {W : WX} {sc : Scope} {np : Nat → Option Nat} {bl : List Str}
theorem x_maxs {cs : List C} {e : Expr} {es : List Expr} {p pos : Pos} (B : En sc X nm G CA cf np bl W) (hb : bl.contains ("max" : Str) = true) (h : gloB sc "max" = true) (hs : (e :: es).all noStar = true) (ha : PA X (e :: es) (tL X G CA cf W cs)) :
    PE X (.Call (.Name "max" p) (e :: es) [] pos) (tE X G CA cf W (.bif .maxs cs)) := by
  obtain ⟨k, hr, _⟩ := B.cx.lev
  refine ⟨fun pins s σ H Q I ⟨S, sr, h'⟩ => ?_⟩
  have hm := B.cx.blt ("max" : Str) (by simpa using hb)
  have hr := c_maxs (X := X) (CA := CA) (W := W) (σ0 := σ) B.cx.calm hr
  rw [List.all_cons, Bool.and_eq_true] at hs
  rw [ev] at h'
  have key : tCB (rC X CA W σ .maxs) (tL X G CA cf W cs) σ H Q := ⟨S, sr, DenL.seq (Same.refl H) h' fun ps vs H2 O Z e1 s2 pv hd => ⟨H, _, ps, O, Z, s2, pv, hd⟩⟩
  exact (pe_callB hr (B.gl h) hm (by decide +kernel) ha (by decide) (by decide) (star_cons hs.1) (back_any hs.2)).run pins s σ H Q I key
theorem get_recv {d : D} (h : recvOk .get d = true) : ∃ ks vs, d = .dct ks vs := by
  cases d <;> first | exact ⟨_, _, rfl⟩ | cases h
/-- d.get(k, x) -/
theorem x_get2 (B : En sc X nm G CA cf np bl W) {o c c2 : C} {eo e e2 : Expr} {apos cpos : Pos} (ho : PE X eo (tE X G CA cf W o)) (he : PE X e (tE X G CA cf W c)) (he2 : PE X e2 (tE X G CA cf W c2)) (hs : noStar e = true) (hs2 : noStar e2 = true) (hb : noSup eo = true) (hl : (apos.endLine == cpos.line) = true) :
    PE X (.Call (.Attribute eo "get" apos) [e, e2] [] cpos) (tE X G CA cf W (.mth .get o [c, c2])) := by
  obtain ⟨k0, hr, _⟩ := B.cx.lev
  have hs1 : [e, e2].all noStar = true := by simp [hs, hs2]
  refine PE.weak (pe_dget2 (hu_of hr) ho he he2 ⟨base_ok hb, back_few hs1 (by simp), hl, back_two hs hs2⟩) fun σ H Q ⟨S, sr, h⟩ => ?_
  rw [ev] at h
  refine ⟨S, sr, Den.seq (Same.refl H) h fun p x H1 O Z e1 pv hd => ?_⟩
  obtain ⟨hrv, hd⟩ := hd.gd
  obtain ⟨d0, n0⟩ := p
  obtain ⟨ks, ds, rfl⟩ := get_recv hrv
  obtain ⟨a, kvs, O', Z', m', rfl, hrd, hko, hrs, hO, hZ⟩ := pv.rep.dct_inv
  have key : tL X G CA cf W [c, c2] σ H1 fun us H3 => ∃ y z, us = [y, z] ∧ ∃ o, DGet H3 a y o ∧ Q (o.getD z) H3 := by
    refine ⟨S, sr.same pv.same, DenL.seq pv.same hd fun ps us H3 O3 Z3 e3 s3 pw hd3 => ?_⟩
    obtain ⟨z, hz, hd4⟩ := Den.ofv hd3
    have hp : ∃ q q', ps = [q, q'] := by
      simp only [evs] at e3
      obtain ⟨q, _, e3⟩ := Out.bind_eq_ok e3
      obtain ⟨l, e4, e3⟩ := Out.bind_eq_ok e3
      cases e3
      obtain ⟨q', _, e4⟩ := Out.bind_eq_ok e4
      cases e4
      exact ⟨q, q', rfl⟩
    obtain ⟨⟨dk, nk⟩, ⟨dd, nd⟩, rfl⟩ := hp
    obtain ⟨y, w, O1, Z1, O2, Z2, rfl, p1, p2⟩ := pw.two_inv
    obtain ⟨h1, e'⟩ := go_some (show go _ _ = _ from hz)
    obtain ⟨κ, hk⟩ := Option.isSome_iff_exists.mp h1
    obtain ⟨f1, f2, _⟩ := dct_find hk hko.1 hrs
    refine ⟨y, w, rfl, _, .inl ⟨kvs, κ, Rd.keep (F := []) hrd (keepS s3) (by simp), vKey_kV hk p1.rep, rfl⟩, ?_⟩
    cases hf : (ks.zip ds).find? fun p => pyEq p.1 dk with
    | none =>
      rw [hf] at e'
      cases e'
      rw [f2 hf]
      have p2' := (p2.ahead pv.same).mono (M' := Nod S (names (.mth .get o [c, c2]))) fun b q => by
        rw [names]; exact Nod.r q
      exact hd4 _ _ _ _ p2'
    | some q =>
      rw [hf] at e'
      cases e'
      obtain ⟨v, O1, Z1, q1, q2, q3, q4⟩ := f1 q hf
      rw [q1]
      obtain ⟨O2, Z2, q5, l⟩ := q2.low (Nat.zero_le _)
      have := q5.zero
      subst this
      refine hd4 v H3 [] Z2 ⟨pv.same.trans s3, (q5.un0).same s3, by simp, by simp, fun b q => ?_, by simp⟩
      rcases l.all b q with z | z
      · exact .inl (pv.fresh b (hO b (q3 b z)))
      · exact (pv.zin b (hZ b (q4 b z))).imp id fun w => by rw [names]; exact Nod.l w
  exact ⟨a, rfl, .inl ⟨kvs, hrd⟩, (dl_cons key).mono fun y H2 h2 => (tL_one h2).mono fun z H3 ⟨y', z', e, q⟩ => by cases e; exact q⟩
end
end Vy

namespace Vy
/-! ## rows of texts -/
def LS (l : List Cs) : D := .lst (l.map D.str)
theorem LS_eq (l : List Cs) : LS l = .lst (l.map D.str) := rfl
@[simp] theorem mdep_LS (l : List Cs) : (LS l).mdep = 1 := by
  rw [LS_eq, mdep_lst, mdepL_zero fun d hd => by obtain ⟨s, _, rfl⟩ := List.mem_map.mp hd; simp]
@[simp] theorem norm_LS (l : List Cs) (n : Nat) : norm (LS l, n) = (LS l, n) := by simp [norm]
@[simp] theorem full_LS (l : List Cs) (n : Nat) : full (LS l, n) = decide (1 ≤ n) := by simp [full]
theorem bind_LS {ρ : Env} {i n : Nat} {l : List Cs} {ns : List Nat} (h : 1 ≤ n) : bindV ρ i (LS l, n) ns = ρ.set i (some (LS l, n)) := by
  rw [bind_full (by simp [h])]; simp [setV]
@[simp] theorem bind_LS9 {ρ : Env} {i : Nat} {l : List Cs} {ns : List Nat} : bindV ρ i (LS l, 9) ns = ρ.set i (some (LS l, 9)) := bind_LS (by omega)
@[simp] theorem len_LS (l : List Cs) (n : Nat) : bifD .len [(LS l, n)] = some (.int l.length, 9) := by
  rw [LS_eq, len_lst, List.length_map]
@[simp] theorem truth_LS (l : List Cs) : truth (LS l) = some (!l.isEmpty) := by
  rw [LS_eq, truth_lst, List.isEmpty_map]
@[simp] theorem items_LS (l : List Cs) : itemsOf (LS l) = some (l.map D.str) := id rfl
@[simp] theorem isiOk_LS (l : List Cs) (k : IK) (h : ikOk k = true) : isiOk (LS l) k = true := isiOk_lst _ _ h
@[simp] theorem isa_LS (cm : Nat → List Nat) (l : List Cs) : isaD cm (LS l) .list = true := id rfl
@[simp] theorem isa_LS_str (cm : Nat → List Nat) (l : List Cs) : isaD cm (LS l) .str = false := id rfl
@[simp] theorem isa_LS_tup (cm : Nat → List Nat) (l : List Cs) : isaD cm (LS l) .tuple = false := id rfl
@[simp] theorem in_LS (s : Cs) (l : List Cs) : cmpD .isin (.str s) (LS l) = some (l.contains s) := in_strs s l
@[simp] theorem notin_LS (s : Cs) (l : List Cs) : cmpD .notin (.str s) (LS l) = some (!l.contains s) := by
  have := in_LS s l
  simp only [cmpD] at this ⊢
  rw [this]; rfl
theorem pyEqL_strs : ∀ l k : List Cs, pyEqL (l.map D.str) (k.map D.str) = (l == k)
  | [], [] => rfl
  | [], _ :: _ => rfl
  | _ :: _, [] => rfl
  | a :: l, b :: k => by
    rw [List.map_cons, List.map_cons, pyEqL, pyEqL_strs l k]
    rfl
theorem depL_strs (l : List Cs) : depL (l.map D.str) = 0 := by
  induction l with
  | nil => rfl
  | cons a l ih => rw [List.map_cons, depL, ih]; rfl
@[simp] theorem eq_LS (l k : List Cs) : cmpD .eq (LS l) (LS k) = some (l == k) := by
  show go _ (some (pyEqL _ _)) = _
  rw [go_pos ⟨eqOkL_strs l, eqOkL_strs k, by
    show min (depL _ + 1) (depL _ + 1) ≤ 60
    rw [depL_strs, depL_strs]; omega⟩, pyEqL_strs]
@[simp] theorem ne_LS (l k : List Cs) : cmpD .ne (LS l) (LS k) = some (!(l == k)) := by
  show go _ (some (!pyEqL _ _)) = _
  rw [go_pos ⟨eqOkL_strs l, eqOkL_strs k, by
    show min (depL _ + 1) (depL _ + 1) ≤ 60
    rw [depL_strs, depL_strs]; omega⟩, pyEqL_strs]
theorem add_LS {l k : List Cs} {m n : Nat} (h : l.length + k.length ≤ SZ) : binD .add (LS l, m) (LS k, n) = some (LS (l ++ k), 9) := by
  rw [LS_eq, LS_eq, LS_eq, List.map_append]
  exact add_lst (by simpa using h) (mdepL_zero fun d hd => by
    rw [← List.map_append] at hd
    obtain ⟨s, _, rfl⟩ := List.mem_map.mp hd; simp)
theorem from_LS {l : List Cs} {i : Int} (h : 0 ≤ i) : slcD (LS l) (some i) none = some (LS (l.drop i.toNat), 9) := by
  rw [LS_eq, LS_eq, List.map_drop]
  exact lst_from h (mdepL_strs l)
theorem to_LS {l : List Cs} {i : Int} (h : 0 ≤ i) : slcD (LS l) none (some i) = some (LS (l.take i.toNat), 9) := by
  rw [LS_eq, LS_eq, List.map_take]
  exact lst_to h (mdepL_strs l)
theorem sub_LS {l : List Cs} {i : Int} {s : Cs} (h0 : 0 ≤ i) (h : l[i.toNat]? = some s) : subD (LS l) (.int i) = some (.str s, 0) :=
  sub_lst h0 (by rw [List.getElem?_map, h]; rfl)
@[simp] theorem lsq_LS (l : List Cs) : lsqOf (LS l) = some (l.map D.str) := id rfl
theorem rvl_LS (l : List Cs) : (D.lst (l.map D.str).reverse, lv1 (l.map D.str).reverse) = (LS l.reverse, 9) := by
  rw [← List.map_reverse, lv1_strs]; rfl
@[simp] theorem list_LS (l : List Cs) (n : Nat) : bifD .list [(LS l, n)] = some (LS l, 9) := by
  show some (D.lst (l.map D.str), lv1 (l.map D.str)) = _
  rw [lv1_strs]; rfl
theorem LS_nil : D.lst [] = LS [] := rfl
theorem LS_one (s : Cs) : D.lst [.str s] = LS [s] := rfl
theorem LS_map {α : Type} (f : α → Cs) (l : List α) : D.lst (l.map fun a => D.str (f a)) = LS (l.map f) := by rw [LS_eq, List.map_map]; rfl
theorem ints_strs (s : Cs) (l : List Cs) : intsOf (D.str s :: l.map D.str) = none := rfl
theorem min_LS (s : Cs) (l : List Cs) (n : Nat) : bifD .min [(LS (s :: l), n)] = some (.str (minS s l), 9) := by
  have e := strsOf_map (s :: l)
  rw [List.map_cons] at e
  rw [LS_eq, List.map_cons]
  simp only [bifD, ints_strs, e]
theorem max_LS (s : Cs) (l : List Cs) (n : Nat) : bifD .maxs [(LS (s :: l), n)] = some (.str (maxS s l), 9) := by
  have e := strsOf_map (s :: l)
  rw [LS_eq]
  simp only [bifD, e]
theorem index_LS {l : List Cs} {s : Cs} {i m n : Nat} (h : l.findIdx? (· == s) = some i) : methD .index (LS l, m) [(.str s, n)] = some (.int (i : Nat), 9) := by
  simp only [LS_eq, methD, strsOf_map, Option.bind_some, h]
  rfl
@[simp] theorem recv_LS_index (l : List Cs) : recvOk .index (LS l) = true := id rfl
@[simp] theorem recv_LS_count (l : List Cs) : recvOk .count (LS l) = true := id rfl
theorem app_LS {G : Glo} {cf : Runs} {L : List Nat} {ρ : Env} {i m n : Nat} {l : List Cs} {s : Cs} {e : C} (h : (ρ[i]?).bind id = some (LS l, m)) (hL : i ∉ L) (hm : 1 ≤ m) (hl : l.length + 1 ≤ SZ) (he : ev G cf ρ e = .ok (.str s, n)) :
    exS G cf L ρ (.app i e) = .nx (ρ.set i (some (LS (l ++ [s]), m))) := by
  rw [exS_app, h, LS_eq]
  simp only [he, onE_ok]
  unfold appD
  rw [if_neg hL, h, LS_eq]
  simp only [List.length_map]
  rw [if_pos ⟨hm, hl⟩, if_pos (by simp), setV, norm_lst, LS_eq, List.map_append]
  rfl
theorem st_LS {G : Glo} {cf : Runs} {L : List Nat} {ρ : Env} {i n m m' : Nat} {l : List Cs} {s : Cs} {j : Int} {k e : C} (h : (ρ[i]?).bind id = some (LS l, n + 1)) (hL : i ∉ L) (h0 : 0 ≤ j) (hl : j < l.length) (hk : ev G cf ρ k = .ok (.int j, m')) (he : ev G cf ρ e = .ok (.str s, m)) :
    exS G cf L ρ (.st ⟨i, []⟩ k e) = .nx (ρ.set i (some (LS (l.set j.toNat s), n + 1))) := by
  have hx : ix (l.map D.str).length j = some j.toNat := by unfold ix; rw [if_pos h0, List.length_map, if_pos hl]
  rw [exS_st, he]
  simp only [onE_ok, rsv_nil, hk, noX_ok, mopX, if_neg hL, h, Option.bind_some, getP, LS_eq, stOp, hx, Option.map_some, lvIn, mdep_str, if_true, List.all_cons, List.all_nil, full_str, Bool.and_self, chgP, OX.of_some, onX_ok, putP, setV, norm_lst]
  simp [List.map_set]
theorem cut_map {α β : Type} (f : α → β) (l : List α) (lo hi : Option Int) : cut (l.map f) lo hi = (cut l lo hi).map f := by
  unfold cut
  rw [List.length_map, List.map_take, List.map_drop]
theorem slc_LS (l : List Cs) (lo hi : Option Int) : slcD (LS l) lo hi = some (LS (cut l lo hi), 9) := by
  show some (D.lst (cut (l.map D.str) lo hi), lv1 (l.map D.str)) = _
  rw [cut_map, lv1_strs]; rfl
theorem cut_sub {α : Type} {l : List α} {lo hi : Option Int} {a : α} (h : a ∈ cut l lo hi) : a ∈ l := by
  unfold cut at h
  exact List.mem_of_mem_drop (List.mem_of_mem_take h)
theorem cut_len {α : Type} (l : List α) (lo hi : Option Int) : (cut l lo hi).length ≤ l.length := by
  unfold cut
  rw [List.length_take, List.length_drop]
  omega
/-- a thing that others hold, too, laid in a row -/
theorem app_nf {G : Glo} {cf : Runs} {L : List Nat} {ρ : Env} {i n : Nat} {hs : List D} {p : D × Nat} {e : C} (h : (ρ[i]?).bind id = some (.lst hs, n)) (hL : i ∉ L) (hm : 1 ≤ n) (hl : hs.length + 1 ≤ SZ) (he : ev G cf ρ e = .ok p) (h0 : p.1.mdep ≠ 0) (hf : full p = false) (hi : i ∉ names e) :
    exS G cf L ρ (.app i e) = .nx (setV (frz ρ (names e)) i (.lst (hs ++ [p.1]), min n (p.2 + 1))) := by
  rw [exS_app, h]
  simp only [he, onE_ok]
  unfold appD
  rw [if_neg hL, h]
  simp only
  rw [if_pos ⟨hm, hl⟩, if_neg h0, hf, if_neg (by simp), if_neg hi]
/-! ### the least, the greatest, the place -/
theorem minS_mem : ∀ (ns : List Cs) (n : Cs), minS n ns ∈ n :: ns
  | [], n => by simp [minS]
  | m :: ns, n => by
    rw [minS]
    have := minS_mem ns (if m < n then m else n)
    split at this
    · rename_i h
      rw [if_pos h]
      rcases List.mem_cons.mp this with z | z <;> simp [z]
    · rename_i h
      rw [if_neg h]
      rcases List.mem_cons.mp this with z | z <;> simp [z]
theorem lt_tr {a b c : Cs} (h : a < b) (k : b < c) : a < c := List.lt_trans h k
theorem lt_of_le {a b c : Cs} (h : a < b) (k : ¬ c < b) : a < c := by
  rcases Nat.lt_trichotomy 0 0 with z | z | z
  · omega
  · by_cases e : b = c
    · rw [← e]; exact h
    · exact lt_tr h (by
        by_cases q : b < c
        · exact q
        · exact absurd (List.le_antisymm (List.not_lt.mp k) (List.not_lt.mp q)) e)
  · omega
theorem minS_le : ∀ (ns : List Cs) (n : Cs), ∀ x ∈ n :: ns, ¬ x < minS n ns
  | [], n, x, hx => by
    simp at hx
    subst hx
    exact List.lt_irrefl _
  | m :: ns, n, x, hx => by
    rw [minS]
    have ih := minS_le ns (if m < n then m else n)
    rcases List.mem_cons.mp hx with rfl | hx
    · by_cases h : m < x
      · rw [if_pos h] at ih ⊢
        exact fun z => ih m (by simp) (lt_tr h z)
      · rw [if_neg h] at ih ⊢
        exact ih x (by simp)
    · rcases List.mem_cons.mp hx with rfl | hx
      · by_cases h : x < n
        · rw [if_pos h] at ih ⊢
          exact ih x (by simp)
        · rw [if_neg h] at ih ⊢
          exact fun z => h (lt_of_le z (ih n (by simp)))
      · exact ih x (by simp [hx])
theorem find_mem {l : List Cs} {s : Cs} (h : s ∈ l) : ∃ i, l.findIdx? (· == s) = some i ∧ i < l.length ∧ l[i]? = some s := by
  cases e : l.findIdx? (· == s) with
  | none =>
    rw [List.findIdx?_eq_none_iff] at e
    have := e s h
    simp at this
  | some i =>
    obtain ⟨h1, h2, _⟩ := List.findIdx?_eq_some_iff_getElem.mp e
    exact ⟨i, rfl, h1, by rw [List.getElem?_eq_getElem h1]; simpa using h2⟩
/-! ### loops -/
theorem whileL_ex {c : Env → Out Bool} {f : Env → OS} {P : Nat → Env → Prop} {Q : Env → Prop} (h : ∀ n ρ, P n ρ → (c ρ = .ok false ∧ Q ρ) ∨ ∃ n' ρ', n' < n ∧ c ρ = .ok true ∧ f ρ = .nx ρ' ∧ P n' ρ') : ∀ (fuel n : Nat) (ρ : Env), n < fuel → P n ρ → ∃ ρ', whileL c f fuel ρ = .nx ρ' ∧ Q ρ'
  | 0, n, ρ, hn, _ => absurd hn (Nat.not_lt_zero _)
  | fuel + 1, n, ρ, hn, hp => by
    rcases h n ρ hp with ⟨h1, h2⟩ | ⟨n', ρ', h0, h1, h2, h3⟩
    · exact ⟨ρ, by rw [whileL, h1], h2⟩
    · obtain ⟨ρ2, h4, h5⟩ := whileL_ex h fuel n' ρ' (by omega) h3
      exact ⟨ρ2, by rw [whileL, h1]; simp only [h2]; exact h4, h5⟩
theorem mul_str {c n m : Nat} {i : Int} (h0 : 0 ≤ i) (h : i ≤ 1000) : binD .mul (.str [c], m) (.int i, n) = some (.str (List.replicate i.toNat c), 9) := by
  show go _ _ = _
  rw [go_pos ⟨by omega, by omega, by rw [List.length_singleton, Nat.one_mul]; exact Nat.le_trans (show i.toNat ≤ 1000 by omega) (by decide)⟩, flat_rep]
/-- what comes, whatever its level -/
def fst1 (o : Out (D × Nat)) : Option D := match o with | .ok p => some p.1 | _ => none
@[simp] theorem fst1_ok (p : D × Nat) : fst1 (.ok p) = some p.1 := id rfl
theorem ex_ok {o : Out (D × Nat)} {d : D} : (∃ m, o = .ok (d, m)) = (fst1 o = some d) := by
  cases o with
  | ok p => obtain ⟨a, n⟩ := p; simp [fst1]
  | exc e => simp [fst1]
  | bad => simp [fst1]
theorem norm_tp (xs : List D) (n : Nat) : norm (.tup xs, n) = if mdepL xs = 0 then (.tup xs, 9) else (.tup xs, n) := by simp [norm]
theorem full_rng (n : Nat) (f : Nat → Int) : full (.lst ((List.range n).map fun (j : Nat) => D.int (f j)), 9) = true := by
  have : mdepL ((List.range n).map fun (j : Nat) => D.int (f j)) = 0 := mdepL_map _ _ fun _ => by simp
  simp [full, this]
end Vy

namespace Vy
open PySem PySem.Spec
open PyProof.Rows hiding St
open L2
/-! ## dicts that are walked: the dict is locked for the while -/
section
variable {X : Cx}
/-- what comes is locked, if it isn't yet -/
def tLk (X : Cx) (t : TE) : TE := fun σ H Q => t σ H fun x H1 => ∃ d, x = .ref d ∧ ((∃ o u, H1 d = some (.frz o u) ∧ Q x H1) ∨ ∃ u, H1 d = some u ∧ Mut (some u) ∧ ∀ od, (∀ o' u', X.H_0 d ≠ some (.frz o' u')) → Q x (upd H1 d (.frz od u)))
theorem pe_lk {e : Expr} {t : TE} (h : PE X e t) : PE X e (tLk X t) := by
  refine ⟨fun pins s σ H Q I hw => ?_⟩
  refine thn (h.run pins s σ H _ I hw) fun v s1 ⟨x, H1, I1, r, d, ex, q⟩ => ?_
  rcases q with ⟨o, u, _, q⟩ | ⟨u, e1, mu, q⟩
  · exact ⟨x, H1, I1, r, q⟩
  · obtain ⟨od, I2⟩ := I1.lock e1 mu
    exact ⟨x, _, I2, r, q od (I1.nofrz e1 mu)⟩
/-- so, or so when one thing is unlocked -/
def Un (X : Cx) (f : Hp → Prop) (H : Hp) : Prop := f H ∨ ∃ d od u, H d = some (.frz od u) ∧ (∀ o' u', X.H_0 d ≠ some (.frz o' u')) ∧ f (upd H d u)
def unE (X : Cx) (D : Ends) : Ends := ⟨fun σ => Un X (D.nx σ), fun v => Un X (D.rt v), fun σ => Un X (D.bk σ), fun σ => Un X (D.ct σ)⟩
def unW (X : Cx) (W : WX) : WX := fun cls dd σ => Un X (W cls dd σ)
theorem ps_un {st : Stmt} {t : TS} (h : PS X st t) : PS X st (fun D σ H => t (unE X D) σ H) := by
  refine ⟨fun pins s σ H D I hw => ?_⟩
  refine thn (h.run pins s σ H _ I hw) fun f s1 q => ?_
  cases f with
  | next =>
    obtain ⟨σ', H', I2, q⟩ := q
    rcases q with q | ⟨d, od, u, e, hn, q⟩
    · exact ⟨σ', H', I2, q⟩
    · exact ⟨σ', _, I2.unlock e hn, q⟩
  | brk =>
    obtain ⟨σ', H', I2, q⟩ := q
    rcases q with q | ⟨d, od, u, e, hn, q⟩
    · exact ⟨σ', H', I2, q⟩
    · exact ⟨σ', _, I2.unlock e hn, q⟩
  | cont =>
    obtain ⟨σ', H', I2, q⟩ := q
    rcases q with q | ⟨d, od, u, e, hn, q⟩
    · exact ⟨σ', H', I2, q⟩
    · exact ⟨σ', _, I2.unlock e hn, q⟩
  | ret v =>
    obtain ⟨x, σ', H', I2, r, q⟩ := q
    rcases q with q | ⟨d, od, u, e, hn, q⟩
    · exact ⟨x, σ', H', I2, r, q⟩
    · exact ⟨x, σ', _, I2.unlock e hn, r, q⟩
theorem unW_takes {W : WX} (t : Takes X W) : Takes X (unW X W) := by
  intro u s' ⟨a, B, sI, pins, σ, H, cls, d, e, I, nb, up, sky, na, os, ag, w⟩
  rcases w with w | ⟨d', od, v, e1, hn, w⟩
  · exact t u s' ⟨a, B, sI, pins, σ, H, cls, d, e, I, nb, up, sky, na, os, ag, w⟩
  · refine t u s' ⟨a, B, sI, pins, σ, _, cls, d, e, I.unlock e1 hn, nb, up, sky, ?_, os, ag, w⟩
    rw [upd_ne (fun z => by rw [z, e1] at na; cases na)]
    exact na
end
section
variable {K : PySem.W.Frag} {CA : Nat → Addr} {H H' : Hp} {a : Addr}
/-- H' differs from H in a dict's lock alone -/
structure Swp (H H' : Hp) (a : Addr) : Prop where
  ne : ∀ b, b ≠ a → H' b = H b
  lst : ∀ vs, H a ≠ some (.lst vs)
  tup : ∀ vs, H a ≠ some (.tup vs)
  ins : ∀ c dx fs, H a ≠ some (.ins c dx fs)
  flst : ∀ o vs, H a ≠ some (.frz o (.lst vs))
  ftup : ∀ o vs, H a ≠ some (.frz o (.tup vs))
  ext : ∀ φ, H a ≠ some (.ext φ)
  rd : ∀ kvs, Rd H a (.dK kvs) → Rd H' a (.dK kvs)
  th : H' a ≠ none
theorem Swp.at (w : Swp H H' a) {b : Addr} {o : HO} (h : H b = some o) (n : H a ≠ some o) : H' b = some o := by
  rw [w.ne b (fun z => n (z ▸ h))]; exact h
theorem Swp.sqT (w : Swp H H' a) {b : Addr} {vs : List V} (h : SqT K H b vs) : SqT K H' b vs := by
  rcases h with (h | ⟨o, h⟩) | h
  · exact .inl (.inl (w.at h (w.tup _)))
  · exact .inl (.inr ⟨o, w.at h (w.ftup _ _)⟩)
  · exact .inr h
theorem Swp.sqZ (w : Swp H H' a) {b : Addr} {vs : List V} (h : SqZ K H b vs) : SqZ K H' b vs := by
  rcases h with ⟨o, h⟩ | h
  · exact .inl ⟨o, w.at h (w.flst _ _)⟩
  · exact .inr h
mutual
theorem Rep.swap (w : Swp H H' a) : ∀ {n d v O Z}, Rep K CA H n d v O Z → a ∉ O → Rep K CA H' n d v O Z
  | _, _, _, _, _, .non, _ => .non
  | _, _, _, _, _, .bl _, _ => .bl _
  | _, _, _, _, _, .int _, _ => .int _
  | _, _, _, _, _, .str h, _ => .str h
  | _, _, _, _, _, .cls _, _ => .cls _
  | _, _, _, _, _, .scr e, _ => .scr (w.sqZ e)
  | _, _, _, _, _, .hol, _ => .hol
  | _, _, _, _, _, .fz hn hd r, _ => .fz hn hd (r.swap w (by simp))
  | _, _, _, _, _, .tup e r, h => .tup (w.sqT e) (r.swap w h)
  | _, _, _, _, _, .lstO e r, h => .lstO (w.at e (w.lst _)) (r.swap w fun q => h (by simp [q]))
  | _, _, _, _, _, .lstZ e r, h => .lstZ (w.at e (w.lst _)) (r.swap w h)
  | _, _, _, _, _, .dctO e e1 r, h => .dctO (by rw [w.ne _ (fun z => h (by simp [z]))]; exact e) e1 (r.swap w fun q => h (by simp [q]))
  | _, _, _, _, _, .dctZ (a := b) e e1 r, h => .dctZ (by
      by_cases z : b = a
      · subst z; exact w.rd _ e
      · unfold Rd at e ⊢
        rw [w.ne b z]; exact e) e1 (r.swap w h)
  | _, _, _, _, _, .insO e e1 r, h => .insO (w.at e (w.ins _ _ _)) e1 (r.swap w fun q => h (by simp [q]))
  | _, _, _, _, _, .insZ e e1 r, h => .insZ (w.at e (w.ins _ _ _)) e1 (r.swap w h)
theorem Reps.swap (w : Swp H H' a) : ∀ {n ds vs O Z}, Reps K CA H n ds vs O Z → a ∉ O → Reps K CA H' n ds vs O Z
  | _, _, _, _, _, .nil, _ => .nil
  | _, _, _, _, _, .cons r s, h => .cons (r.swap w fun q => h (by simp [q])) (s.swap w fun q => h (by simp [q]))
end
theorem Swp.lock {kvs : List (L2.Key × V)} (od : Obj) (h : H a = some (.dK kvs)) : Swp H (upd H a (.frz od (.dK kvs))) a where
  ne := fun b n => upd_ne n
  lst := fun _ z => by rw [h] at z; cases z
  tup := fun _ z => by rw [h] at z; cases z
  ins := fun _ _ _ z => by rw [h] at z; cases z
  flst := fun _ _ z => by rw [h] at z; cases z
  ftup := fun _ _ z => by rw [h] at z; cases z
  ext := fun _ z => by rw [h] at z; cases z
  rd := fun k z => by
    rcases z with z | ⟨o, z⟩
    · rw [h] at z; cases z; exact .inr ⟨od, upd_same⟩
    · rw [h] at z; cases z
  th := by rw [upd_same]; simp
theorem Swp.unlock {kvs : List (L2.Key × V)} {od : Obj} (h : H a = some (.frz od (.dK kvs))) : Swp H (upd H a (.dK kvs)) a where
  ne := fun b n => upd_ne n
  lst := fun _ z => by rw [h] at z; cases z
  tup := fun _ z => by rw [h] at z; cases z
  ins := fun _ _ _ z => by rw [h] at z; cases z
  flst := fun _ _ z => by rw [h] at z; cases z
  ftup := fun _ _ z => by rw [h] at z; cases z
  ext := fun _ z => by rw [h] at z; cases z
  rd := fun k z => by
    rcases z with z | ⟨o, z⟩
    · rw [h] at z; cases z
    · rw [h] at z; cases z; exact .inl upd_same
  th := by rw [upd_same]; simp
theorem SRep.swap {S : Slots} {σ : St} (w : Swp H H' a) (sr : SRep K CA S σ H) (h : ¬ Own S a) : SRep K CA S σ H' :=
  ⟨sr.len, fun i r e => ⟨(sr.rep i r e).1, (sr.rep i r e).2.swap w fun q => h ⟨i, r, e, q⟩⟩⟩
theorem ExRep.swap {e : Exn} {cls : Value} {dd : Option Addr} (w : Swp H H' a) (x : ExRep K CA e cls dd H) : ExRep K CA e cls dd H' := by
  obtain ⟨h1, h2⟩ := x
  refine ⟨h1, h2.imp id fun ⟨dx, fvs, q1, q2, q3, q4⟩ => ⟨dx, fvs, q1, w.at q2 (w.ext _), q3, q4.swap w (by simp)⟩⟩
/-- the entries of a locked dict, one by one -/
def PDict (K : PySem.W.Frag) (CA : Nat → Addr) (a : Addr) (o : Obj) (kvs : List (L2.Key × V)) (vs : List D) (Ns : List Addr) (H : Hp) : Prop :=
  H a = some (.frz o (.dK kvs)) ∧ ∃ Z, Reps K CA H 0 vs (kvs.map (·.2)) [] Z ∧ (∀ b ∈ Z, b ∈ Ns) ∧ ∀ b ∈ Ns, H b ≠ none
theorem PDict.keep {o : Obj} {kvs : List (L2.Key × V)} {vs : List D} {Ns : List Addr} (ha : a ∈ Ns) (F : List Addr) (H H' : Hp) (p : PDict K CA a o kvs vs Ns H) (k : Keep F H H') (f : Fix F H) (hn : ∀ b ∈ Ns, b ∉ F) : PDict K CA a o kvs vs Ns H' := by
  obtain ⟨h1, Z, r, hz, ht⟩ := p
  exact ⟨k _ _ h1 (hn a ha), Z, r.keep k f (fun b hb => hn b (hz b (by simpa using hb))), hz, fun b hb => by
    cases e : H b with
    | none => exact absurd e (ht b hb)
    | some o => rw [k b o e (hn b hb)]; simp⟩
theorem key_rep {k : D} {κ : L2.Key} (h : vKey k = some κ) (hb : ∀ s, k = .str s → Bd s) (H : Hp) : Rep K CA H 0 k (kV κ) [] [] := by
  cases k <;> first | (cases h; done) | skip
  · cases h; exact .int _
  · cases h; exact .str (hb _ rfl)
theorem keys_at {ks : List D} {kvs : List (L2.Key × V)} (h : KeyOk ks kvs) {i : Nat} {k : L2.Key} {v : V} (hi : kvs[i]? = some (k, v)) : ∃ d, ks[i]? = some d ∧ vKey d = some k ∧ ∀ s, d = .str s → Bd s := by
  have e := congrArg (fun l => l[i]?) h.1
  simp only [List.getElem?_map, hi, Option.map_some] at e
  obtain ⟨d, h1, h2⟩ := Option.map_eq_some_iff.mp e
  exact ⟨d, h1, h2, fun s hs => h.2.2 s (hs ▸ List.mem_of_getElem? h1)⟩
theorem walk_itm {o : Obj} {kvs : List (L2.Key × V)} {ks vs : List D} {Ns : List Addr} (hk : KeyOk ks kvs) (hl : vs.length = kvs.length) (ha : a ∈ Ns) : Walk K CA (Iti a o kvs) (zipD ks vs) Ns (PDict K CA a o kvs vs Ns) := by
  have hkl : ks.length = kvs.length := by have := congrArg List.length hk.1; simpa using this
  have hzl : (zipD ks vs).length = kvs.length := by unfold zipD; simp; omega
  refine ⟨fun i H hi p => ⟨p.1, by omega⟩, fun H p => ⟨p.1, by omega⟩, fun i H x H' d p hd ⟨T, k, v, e1, e2, e3, e4⟩ => ?_, PDict.keep ha, fun H p => p.2.choose_spec.2.2⟩
  subst e2; subst e4
  obtain ⟨h1, Z, r, hz, ht⟩ := p
  obtain ⟨dk, k1, k2, k3⟩ := keys_at hk e1
  unfold zipD at hd
  obtain ⟨⟨x1, x2⟩, hx, rfl⟩ := Option.map_eq_some_iff.mp (by rw [← List.getElem?_map]; exact hd)
  obtain ⟨hx1, hx2⟩ := List.getElem?_zip_eq_some.mp hx
  rw [k1] at hx1
  cases hx1
  obtain ⟨v', Z1, q1, q2, q3⟩ := r.get0 i x2 hx2
  rw [List.getElem?_map, e1] at q1
  cases q1
  have sm : Same H (upd H T (.tup [kV k, v])) := sameNew e3
  refine ⟨sm, Z1, .tup (.of upd_same) ?_, fun b hb => hz b (q3 b hb)⟩
  have := Reps.cons (K := K) (CA := CA) (n := 0) (key_rep (K := K) (CA := CA) k2 k3 (upd H T (.tup [kV k, v]))) (Reps.cons (q2.same sm) .nil)
  simpa using this
theorem walk_kys {o : Obj} {kvs : List (L2.Key × V)} {ks vs : List D} {Ns : List Addr} (hk : KeyOk ks kvs) (ha : a ∈ Ns) : Walk K CA (Itk a o kvs) ks Ns (PDict K CA a o kvs vs Ns) := by
  have hkl : ks.length = kvs.length := by have := congrArg List.length hk.1; simpa using this
  refine ⟨fun i H hi p => ⟨p.1, by omega⟩, fun H p => ⟨p.1, by omega⟩, fun i H x H' d p hd ⟨e1, k, v, e2, e3⟩ => ?_, PDict.keep ha, fun H p => p.2.choose_spec.2.2⟩
  subst e1; subst e3
  obtain ⟨dk, k1, k2, k3⟩ := keys_at hk e2
  rw [k1] at hd
  cases hd
  exact ⟨Same.refl _, [], key_rep k2 k3 H', by simp⟩
/-! ### ends behind which PS stands -/
def DenSP (K : PySem.W.Frag) (CA : Nat → Addr) (W : WX) (J L : List Nat) (S0 : Slots) (H0 : Hp) (o : OS) (D : Ends) (PS : Slots → Hp → Prop) : Prop :=
  match o with
  | .nx ρ => ∀ S σ H, SRep K CA S σ H → Fr S → Step J L S0 H0 S H → envOf S = ρ → PS S H → D.nx σ H
  | .rt p ρ => ∀ S σ v H O Z, SRep K CA S σ H → Fr S → Step J L S0 H0 S H → envOf S = ρ → Rep K CA H p.2 p.1 v O Z → (∀ a ∈ O, ¬ Any S a) → (∀ a ∈ O, Own S0 a ∨ H0 a = none) → O.Nodup → (∀ a ∈ Z, Any S0 a ∨ H0 a = none) → (∀ a ∈ Z, a ∉ O) → PS S H → D.rt v H
  | .exc e ρ => ∀ S σ H cls dd, SRep K CA S σ H → Fr S → Step J L S0 H0 S H → envOf S = ρ → ExRep K CA e cls dd H → PS S H → W cls dd σ H
  | .bad => False
end
end Vy

namespace Vy
open PySem PySem.Spec
open PyProof.Rows hiding St
open L2
section
variable {X : Cx} {nm : Nm} {G : Glo} {CA : Nat → Addr} {cf : Runs} {W : WX} {L : List Nat}
/-- a walk whose ground stands to the end -/
theorem for_coreP {tg : Tg} {g : TG} {S0 S1 : Slots} {σ : St} {H H1 : Hp} {D : Ends} {xs : List Vy.D} {J : It} {Ns : List Addr} {P : Hp → Prop} {L' : List Nat} {sa : List S} (hg : TgOk X.K CA tg g) (hlen : ∀ i ∈ tg.is, i < X.N.length) (hJ : ∀ i ∈ tg.is, i ∉ cf.io) (hσ : ∀ {S : Slots} {σ' : St} {H' : Hp}, SRep X.K CA S σ' H' → S.length = S0.length → S.length = X.N.length)
    (hL : ∀ i ∈ L, i ∈ L') (sr : SRep X.K CA S1 σ H1) (f1 : Fr S1) (l1 : S1.length = S0.length) (st : Step cf.io L' S0 H S1 H1) (hP : P H1) (w : Walk X.K CA J xs Ns P)
    (n2 : ∀ a ∈ Ns, ¬ Own S1 a) (n3 : ∀ a ∈ Ns, Any S0 a ∨ H a = none)
    (h : DenSP X.K CA W cf.io L S0 H (forL (fun ρ d => putS ρ tg d fun ρ => exB G cf L' ρ sa) xs (envOf S1)) D fun S H => P H ∧ ∀ a ∈ Ns, ¬ Own S a) :
    ∃ V : Nat → Nat → St → Hp → Prop, (∃ m, V 0 m σ H1) ∧ ∀ i m σ H, V i m σ H →
      (J.stop i H ∧ D.nx σ H) ∨ (J.go i H ∧ ∃ N : St → Hp → Prop, (∀ σ' H', N σ' H' → ∃ m', m' < m ∧ V (i + 1) m' σ' H') ∧ ∀ x H', J.yld i H x H' → g x σ H' fun σ2 H2 => tB X G CA cf W L' sa { D with nx := N, ct := N, bk := D.nx } σ2 H2) := by
  let VS : Nat → St → Hp → Prop := fun i σc Hc => ∃ Sc, SRep X.K CA Sc σc Hc ∧ Fr Sc ∧ Sc.length = S0.length ∧ Step cf.io L' S0 H Sc Hc ∧ P Hc ∧ (∀ a ∈ Ns, ¬ Own Sc a) ∧ DenSP X.K CA W cf.io L S0 H (forL (fun ρ d => putS ρ tg d fun ρ => exB G cf L' ρ sa) (xs.drop i) (envOf Sc)) D fun S H => P H ∧ ∀ a ∈ Ns, ¬ Own S a
  refine ⟨fun i m σc Hc => m = xs.length - i ∧ i ≤ xs.length ∧ VS i σc Hc, ⟨xs.length, rfl, Nat.zero_le _, S1, sr, f1, l1, st, hP, n2, h⟩, ?_⟩
  rintro i m σc Hc ⟨rfl, hil, Sc, src, fc, lc, stc, hPc, m2, hd⟩
  by_cases hlt : i < xs.length
  · right
    rw [List.drop_eq_getElem_cons hlt] at hd
    have hxi : xs[i]? = some xs[i] := List.getElem?_eq_getElem hlt
    refine ⟨w.go i Hc hlt hPc, fun σ' H' => VS (i + 1) σ' H', fun σ' H' hN => ⟨xs.length - (i + 1), by omega, rfl, by omega, hN⟩, fun x H2 hy => ?_⟩
    obtain ⟨s2, Z, rx, hZ⟩ := w.yld i Hc x H2 xs[i] hPc hxi hy
    have hZo : ∀ a ∈ Z, ¬ Own Sc a := fun a ha => m2 a (hZ a ha)
    simp only [forL] at hd
    cases hp : tg.put (envOf Sc) xs[i] with
    | exc e => simp only [putS, hp] at hd; exact hd.elim
    | bad => simp only [putS, hp] at hd; exact hd.elim
    | ok ρ' =>
    simp only [putS, hp] at hd
    refine hg Sc σc H2 xs[i] x Z ρ' _ (src.same s2) rx hp (fun j hj => by rw [hσ src lc]; exact hlen j hj) fun S' σ' sr' hρ pu => ?_
    obtain ⟨f', ow, an⟩ := fc.put pu hZo
    have l' : S'.length = S0.length := by rw [sr'.len, pu.len, ← src.len, lc]
    have stp : Step cf.io L' S0 H S' H2 := by
      refine ⟨fun a o e n => s2 a o (stc.keep a o e n), fun a h => same_there s2 (stc.there a h), fun j a h => stc.own j a (ow j a h), fun a h => ?_, fun j hj r' h => ?_⟩
      · rcases an a h with z | z
        · exact stc.any a z
        · exact n3 a (hZ a z)
      · rw [(pu.oth j fun q => hJ j q hj).1] at h
        exact stc.pin j hj r' h
    refine ⟨S', sr', f', ?_⟩
    rw [hρ]
    have nS : ∀ a ∈ Ns, ¬ Own S' a := fun a ha ⟨j, q⟩ => m2 a ha ⟨j, ow j a q⟩
    have nth : ∀ a ∈ Ns, H2 a ≠ none := fun a ha => same_there s2 (w.there Hc hPc a ha)
    have p2 : P H2 := w.keep [] Hc H2 hPc (keepS s2) (fun a z => by simp at z) (by simp)
    have go : ∀ S2 H4, Step cf.io L' S' H2 S2 H4 → P H4 ∧ ∀ a ∈ Ns, ¬ Own S2 a := fun S2 H4 st2 => by
      refine ⟨w.keep (ownL S' L') H2 H4 p2 st2.keepF sr'.fix fun a ha z => nS a ha (ownL_mem.mp z).own, fun a ha z => ?_⟩
      rcases st2.ownA z with q | q
      · exact nS a ha q
      · exact nth a ha q
    cases e2 : exB G cf L' ρ' sa with
    | nx ρ2 =>
      rw [e2] at hd
      intro S2 σ2 H4 sr2 f2 st2 he
      have l2 : S2.length = S0.length := by
        have : (envOf S2).length = (envOf S').length := by
          rw [he, hρ]
          have := exB_len (G := G) (cf := cf) sa L' ρ' rfl
          rw [e2] at this; exact this
        rw [envOf_len, envOf_len] at this
        rw [this, l']
      obtain ⟨q1, q2⟩ := go S2 H4 st2
      exact ⟨S2, sr2, f2, l2, stp.trans st2, q1, q2, by rw [he]; exact hd⟩
    | rt p ρ =>
      rw [e2] at hd
      exact fun S4 σ4 v H4 O Z a b c d e e' f q i j => hd S4 σ4 v H4 O Z a b ((stp.trans c).mono hL) d e e' (fun a' z => (f a' z).elim stp.ownA fun z => .inr (stp.none z)) q (fun a' z => (i a' z).elim (stp.any a') fun z => .inr (stp.none z)) j (go S4 H4 c)
    | exc x ρ =>
      rw [e2] at hd
      exact fun S4 σ4 H4 cls dd a b c d e => hd S4 σ4 H4 cls dd a b ((stp.trans c).mono hL) d e (go S4 H4 c)
    | bad => rw [e2] at hd; exact hd.elim
  · left
    have hie : i = xs.length := by omega
    subst hie
    rw [List.drop_length] at hd
    exact ⟨w.stop Hc hPc, hd Sc σc Hc src fc (stc.mono hL) rfl ⟨hPc, m2⟩⟩
/-- the heap ahead with the dict locked, if it is there -/
def lkH (H : Hp) (a : Addr) (o : HO) : Hp := match H a with
  | none => H
  | some _ => upd H a o
theorem lkH_no {H : Hp} {a : Addr} {o : HO} (h : H a = none) : lkH H a o = H := by unfold lkH; rw [h]
theorem lkH_so {H : Hp} {a : Addr} {o : HO} (h : H a ≠ none) : lkH H a o = upd H a o := by
  unfold lkH
  cases e : H a with
  | none => exact absurd e h
  | some u => rfl
theorem lkH_ne {H : Hp} {a b : Addr} {o : HO} (h : b ≠ a) : lkH H a o b = H b := by
  by_cases e : H a = none
  · rw [lkH_no e]
  · rw [lkH_so e, upd_ne h]
theorem lkH_none {H : Hp} {a b : Addr} {o : HO} : lkH H a o b = none ↔ H b = none := by
  by_cases e : H a = none
  · rw [lkH_no e]
  · rw [lkH_so e]
    by_cases h : b = a
    · subst h; rw [upd_same]; simp [e]
    · rw [upd_ne h]
theorem lkH_at {H : Hp} {a : Addr} {o : HO} (h : H a ≠ none) : lkH H a o a = some o := by rw [lkH_so h, upd_same]
section
variable {J : List Nat} {S0 : Slots} {H H1 : Hp} {a : Addr} {kvs : List (L2.Key × V)} {od : Obj}
theorem Step.unlk {S' : Slots} {H' : Hp} (s : Same H H1) (h1 : H1 a = some (.dK kvs)) (st : Step J L S0 (lkH H a (.frz od (.dK kvs))) S' H') : Step J L S0 H S' (upd H' a (.dK kvs)) := by
  refine ⟨fun b o e n => ?_, fun b h => ?_, fun i b h => (st.own i b h).imp id (Or.imp id lkH_none.mp), fun b h => (st.any b h).imp id lkH_none.mp, st.pin⟩
  · by_cases z : b = a
    · subst z
      rw [s _ _ e] at h1
      cases h1
      exact upd_same
    · rw [upd_ne z]; exact st.keep b o (by rw [lkH_ne z]; exact e) n
  · by_cases z : b = a
    · subst z; rw [upd_same]; simp
    · rw [upd_ne z]; exact st.there b fun q => h (lkH_none.mp q)
theorem DenS.unlk {o : OS} {D : Ends} {PS : Slots → Hp → Prop} (s : Same H H1) (h1 : H1 a = some (.dK kvs)) (hn : ∀ o' u', X.H_0 a ≠ some (.frz o' u')) (hp : ∀ S H, PS S H → H a = some (.frz od (.dK kvs)) ∧ ¬ Own S a) (h : DenS X.K CA W J L S0 H o D) :
    DenSP X.K CA (unW X W) J L S0 (lkH H a (.frz od (.dK kvs))) o (unE X D) PS := by
  have nn : ∀ {b : Addr}, lkH H a (.frz od (.dK kvs)) b = none → H b = none := fun z => lkH_none.mp z
  cases o with
  | nx ρ =>
    intro S' σ' H' sr' f' st' he ps
    obtain ⟨q1, q2⟩ := hp _ _ ps
    exact .inr ⟨a, od, _, q1, hn, h S' σ' _ (sr'.swap (.unlock q1) q2) f' (st'.unlk s h1) he⟩
  | rt p ρ =>
    intro S' σ' v H' O Z sr' f' st' he r e' f g i j ps
    obtain ⟨q1, q2⟩ := hp _ _ ps
    have ao : a ∉ O := fun z => by
      rcases f a z with y | y
      · have := st'.own
        exact absurd y fun y => by
          obtain ⟨k, y⟩ := y
          exact e' a z (by
            obtain ⟨rt, e1, e2⟩ := y
            exact absurd q1 (fun _ => by
              have m := r.own_mut a z
              rw [q1] at m
              exact m))
      · have m := r.own_mut a z
        rw [q1] at m
        exact m
    exact .inr ⟨a, od, _, q1, hn, h S' σ' v _ O Z (sr'.swap (.unlock q1) q2) f' (st'.unlk s h1) he (r.swap (.unlock q1) ao) e' (fun b z => (f b z).imp id nn) g (fun b z => (i b z).imp id nn) j⟩
  | exc e ρ =>
    intro S' σ' H' cls dd sr' f' st' he x ps
    obtain ⟨q1, q2⟩ := hp _ _ ps
    exact .inr ⟨a, od, _, q1, hn, h S' σ' _ cls dd (sr'.swap (.unlock q1) q2) f' (st'.unlk s h1) he (x.swap (.unlock q1))⟩
  | bad => exact h
theorem DenS.lkd {o : OS} {D : Ends} {PS : Slots → Hp → Prop} (h : DenS X.K CA W J L S0 H o D) : DenSP X.K CA (unW X W) J L S0 H o (unE X D) PS := by
  cases o with
  | nx ρ => exact fun S σ H a b c d _ => .inl (h S σ H a b c d)
  | rt p ρ => exact fun S σ v H O Z a b c d e e' f g i j _ => .inl (h S σ v H O Z a b c d e e' f g i j)
  | exc e ρ => exact fun S σ H cls dd a b c d e _ => .inl (h S σ H cls dd a b c d e)
  | bad => exact h
end
/-- a for over a dict -/
theorem s_forD {tg : Tg} {g : TG} {it c : C} {tge iter : Expr} {b : List Stmt} {sa : List S} {pos : Pos} {JI : Addr → Obj → List (L2.Key × V) → It} {xsOf : List Vy.D → List Vy.D → List Vy.D}
    (tk : Takes X W) (pas : PassesOwn (model X.prog X.w) X.A X.env X.xe) (hc : X.calm = true) (hg : TgOk X.K CA tg g) (hlen : ∀ i ∈ tg.is, i < X.N.length)
    (hw : ∀ {a : Addr} {o : Obj} {kvs : List (L2.Key × V)} {ks vs : List Vy.D} {Ns : List Addr}, KeyOk ks kvs → vs.length = kvs.length → a ∈ Ns → Walk X.K CA (JI a o kvs) (xsOf ks vs) Ns (PDict X.K CA a o kvs vs Ns))
    (hev : ∀ ρ, ev G cf ρ it = (ev G cf ρ c).bind fun x => match x.1 with | .dct ks vs => .ok (.lst (xsOf ks vs), if x.1.mdep ≤ x.2 then 9 else 0) | _ => .bad) (hnm : names it = names c)
    (hi : PI X tge iter (fun σ H R => tLk X (tE X G CA cf W c) σ H fun x H1 => ∃ d o kvs, x = .ref d ∧ H1 d = some (.frz o (.dK kvs)) ∧ R (JI d o kvs) H1)) (pg : PG X tge g)
    (ha : ∀ W', Takes X W' → ∀ L, PSs X b (tB X G CA cf W' L sa)) (hs : noSet iter = true) : PS X (.For tge iter b [] pos) (tS X G CA cf W L (.forD tg it sa)) := ⟨fun pins s σ H D I ⟨S, sr, fr, h⟩ => by
  have hN : S.length = X.N.length := by rw [sr.len, I.len]
  rw [exS, hev] at h
  cases e : ev G cf (envOf S) c with
  | exc x =>
    rw [e] at h
    refine (ps_un (ps_for pas hc hi pg (ha _ (unW_takes tk) L) (fold_no hs))).run pins s σ H D I ⟨S, sr, ?_⟩
    rw [e]
    exact fun cls dd H' s x => h S σ H' cls dd (sr.same s) fr (Step.same s) rfl x
  | bad => rw [e] at h; exact h.elim
  | ok p =>
  rw [e] at h
  obtain ⟨d0, n⟩ := p
  cases d0 <;> first | exact h.elim | skip
  rename_i ks vs
  simp only [Out.bind_ok, onE_ok, itemsOf] at h
  obtain ⟨hJ, h⟩ := h.onJ
  -- both ways
  have core : ∀ (L' : List Nat) (hL : ∀ i ∈ L, i ∈ L'), (∀ H1 v O Z, PVal X.K CA (Nod S (names c)) H H1 (.dct ks vs) n v O Z → ∃ S1, SRep X.K CA S1 σ H ∧ Fr S1 ∧ S1.length = S.length ∧ Step cf.io L' S H S1 H ∧ (∀ b ∈ O ++ Z, ¬ Own S1 b) ∧ (∀ b ∈ O ++ Z, Any S b ∨ H b = none) ∧ DenS X.K CA W cf.io L S H (forL (fun ρ d => putS ρ tg d fun ρ => exB G cf L' ρ sa) (xsOf ks vs) (envOf S1)) D) →
      wpAny (model X.prog X.w) X.A (exec (.For tge iter b [] pos) X.env) (SP X pins D) X.xe s := fun L' hL hh => by
    refine (ps_un (ps_for pas hc hi pg (ha _ (unW_takes tk) L') (fold_no hs))).run pins s σ H D I ⟨S, sr, ?_⟩
    rw [e]
    intro v H1 O Z pv
    obtain ⟨S1, sr1, f1, l1, st1, nn, n3, hd⟩ := hh H1 v O Z pv
    obtain ⟨a, kvs, O', Z', m', rfl, hrd, hko, hrs, hO, hZ⟩ := pv.rep.dct_inv
    have ha : a ∈ O ++ Z := by
      have := pv.rep
      cases this with
      | dctO _ _ _ => simp
      | dctZ _ _ _ => simp
    obtain ⟨Z0, r0, h0⟩ := hrs.zeroed
    have hz0 : ∀ b ∈ Z0, b ∈ O ++ Z := fun b hb => by
      rcases h0 b hb with z | z
      · simp [hO b z]
      · simp [hZ b z]
    have hl : vs.length = kvs.length := by rw [r0.length]; simp
    have th : ∀ b ∈ O ++ Z, H1 b ≠ none := fun b hb => pv.rep.there b hb
    refine ⟨a, rfl, ?_⟩
    rcases hrd with e1 | ⟨o, e1⟩
    · refine .inr ⟨_, e1, trivial, fun od hn => ⟨a, od, kvs, rfl, upd_same, ?_⟩⟩
      have sw := Swp.lock (H := H1) od e1
      have sr2 : SRep X.K CA S1 σ (upd H1 a (.frz od (.dK kvs))) := (sr1.same pv.same).swap sw (nn a ha)
      have st2 : Step cf.io L' S (lkH H a (.frz od (.dK kvs))) S1 (upd H1 a (.frz od (.dK kvs))) := by
        have st0 := st1.trans (Step.same (J := cf.io) (L := L') pv.same)
        refine ⟨fun b o e' nb => ?_, fun b hb => ?_, fun i b hb => (st0.own i b hb).imp id (Or.imp id lkH_none.mpr), fun b hb => (st0.any b hb).imp id lkH_none.mpr, st0.pin⟩
        · by_cases z : b = a
          · subst z
            have : H b ≠ none := fun q => by rw [lkH_none.mpr q] at e'; cases e'
            rw [lkH_at this] at e'
            cases e'
            exact upd_same
          · rw [lkH_ne z] at e'
            rw [upd_ne z]; exact st0.keep b o e' nb
        · by_cases z : b = a
          · subst z; rw [upd_same]; simp
          · rw [upd_ne z]; exact st0.there b fun q => hb (lkH_none.mpr q)
      have pd : PDict X.K CA a od kvs vs (O ++ Z) (upd H1 a (.frz od (.dK kvs))) := ⟨upd_same, Z0, r0.swap sw (by simp), hz0, fun b hb => by
        by_cases z : b = a
        · subst z; rw [upd_same]; simp
        · rw [upd_ne z]; exact th b hb⟩
      exact for_coreP hg hlen hJ (fun _ l => by rw [l, hN]) hL sr2 f1 l1 st2 pd (hw hko hl ha) nn (fun b hb => (n3 b hb).imp id lkH_none.mpr)
        (DenS.unlk pv.same e1 hn (fun S' H' ⟨q1, q2⟩ => ⟨q1.1, q2 a ha⟩) hd)
    · refine .inl ⟨o, _, e1, a, o, kvs, rfl, e1, ?_⟩
      exact for_coreP hg hlen hJ (fun _ l => by rw [l, hN]) hL (sr1.same pv.same) f1 l1 (st1.trans (Step.same pv.same)) (P := PDict X.K CA a o kvs vs (O ++ Z)) ⟨e1, Z0, r0, hz0, th⟩ (hw hko hl ha) nn n3 (DenS.lkd hd)
  by_cases hf : full (.lst (xsOf ks vs), if (Vy.D.dct ks vs).mdep ≤ n then 9 else 0) = true
  · rw [if_pos hf] at h
    have hm : (Vy.D.dct ks vs).mdep ≤ n := by
      by_cases z : (Vy.D.dct ks vs).mdep ≤ n
      · exact z
      · rw [if_neg z] at hf; simp [full] at hf
    refine core L (fun _ h => h) fun H1 v O Z pv => ?_
    have hz : Z = [] := pv.rep.full hm
    subst hz
    have fre : ∀ b ∈ O ++ [], H b = none := fun b hb => pv.fresh b (by simpa using hb)
    exact ⟨S, sr, fr, rfl, Step.refl, fun b hb q => sr.own q (fre b hb), fun b hb => .inr (fre b hb), h⟩
  · rw [if_neg hf, hnm] at h
    refine core (names c ++ L) (fun j hj => List.mem_append_right _ hj) fun H1 v O Z pv => ?_
    obtain ⟨S1, sr1, f1, z⟩ := frz_ok (names c) sr fr
    rw [← z.env] at h
    have zz : ∀ b ∈ O ++ Z, H b = none ∨ Nod S (names c) b := fun b hb => by
      rcases List.mem_append.mp hb with q | q
      · exact .inl (pv.fresh b q)
      · exact pv.zin b q
    refine ⟨S1, sr1, f1, z.len, z.step, fun b hb q => ?_, fun b hb => (zz b hb).elim .inr fun q => .inl q.any, h⟩
    rcases zz b hb with y | y
    · exact sr1.own q y
    · exact z.free fr y q⟩
end
end Vy

namespace Vy
open PySem PySem.Spec
open PyProof.Rows hiding St
open L2
/-! ## how often a text stands in a row; dicts walked, in short -/
section
variable {X : Cx}
theorem eqU_count {k : Cs} : ∀ {ss : List Cs} {us : List Value}, Vals (ss.map fun s => V.str (mkS s)) us → us.countP (L2.eqU (.str (mkS k))) = ss.count k
  | [], _, .nil => rfl
  | s :: ss, _, .cons r h => by
    have ih := eqU_count (k := k) h
    rw [List.countP_cons, List.count_cons, ih, L2.eqU_of r rfl]
    have : L2.eqV (V.str (mkS s)) (V.str (mkS k)) = (s == k) := by
      show (mkS s == mkS k) = _
      exact mkS_beq s k
    rw [this]
theorem mt_countS : MtR X "list.count" (fun x xs H Q => ∃ (p : Addr) (ss : List Cs) (k : Cs), x = .ref p ∧ xs = [.str (mkS k)] ∧ SqL X.K H p (ss.map fun s => V.str (mkS s)) ∧ Q (.int (ss.count k : Nat)) H) := by
  intro pins s σ H x xs v us Q I rx rxs h
  obtain ⟨p, ss, k, rfl, rfl, hs, q⟩ := h
  cases rx
  obtain ⟨uy, rfl, ry⟩ := rxs.one
  have fys : (ss.map fun s => V.str (mkS s)).all flatV = true := by
    rw [List.all_map, List.all_eq_true]; intro _ _; rfl
  obtain ⟨its, rv, ⟨⟨cls, dd, data, sl⟩, n, ho, hc, hdn, hd⟩, hlen⟩ := I.list hs
  simp only at hc hd
  subst hc hd
  have hct := eqU_count (k := k) rv
  refine call_meets PySem.F.slot_list_count ⟨_, ho, rfl⟩ PySem.F.entry_list_count (PySem.F.args_list_count_2 _ _)
    (SeqAt.list_countAt p its.toArray n dd sl uy (L2.eqU (.str (mkS k)))) ⟨ho, fun u' hu' => mem_eqAt ry rfl rv fys u' (by simpa using hu'), ?_⟩
  refine ⟨.int (ss.count k : Nat), H, I.tok _, ⟨s.toks, ?_⟩, q⟩
  rw [← hct]
end
section
variable {X : Cx} {nm : Nm} {G : Glo} {CA : Nat → Addr} {cf : Runs} {W : WX} {sc : Scope} {np : Nat → Option Nat} {bl : List Str} {L : List Nat}
theorem e_count {o c : C} {eo e : Expr} {apos pos : Pos} (ho : PE X eo (tE X G CA cf W o)) (he : PE X e (tE X G CA cf W c)) (hs : noStar e = true) (hb : noSup eo = true) (hl : (apos.endLine == pos.line) = true) : PE X (.Call (.Attribute eo "count" apos) [e] [] pos) (tE X G CA cf W (.mth .count o [c])) := by
  have hs1 : [e].all noStar = true := by simp [hs]
  refine PE.weak (pe_bm F.plainAttrs_list F.slot_list_count F.type_list_count mt_countS ho (a_cons he a_nil (star_cons hs)) (base_ok hb) (back_few hs1 (by simp)) hl (star_cons hs) rfl) fun σ H Q ⟨S, sr, h⟩ => ?_
  rw [ev] at h
  refine ⟨S, sr, Den.seq (Same.refl H) h fun p x H1 O Z e1 pv hd => ?_⟩
  obtain ⟨hr, hd⟩ := hd.gd
  obtain ⟨d0, k⟩ := p
  obtain ⟨xs, rfl⟩ : ∃ xs, d0 = .lst xs := by cases d0 <;> first | exact ⟨_, rfl⟩ | cases hr
  obtain ⟨a, vs, Z0, rfl, h1, r, _⟩ := pv.lst_inv
  refine ⟨.inl ⟨rfl, vs, .of h1⟩, S, sr.same pv.same, DenL.seq pv.same hd fun ps us H2 O' Z' e2 s2 pw hd2 => ?_⟩
  obtain ⟨z, hz, hd3⟩ := Den.ofv hd2
  have hp : ∃ q, ps = [q] := by
    simp only [evs] at e2
    obtain ⟨q, _, e2⟩ := Out.bind_eq_ok e2
    obtain ⟨l, e3, e2⟩ := Out.bind_eq_ok e2
    cases e3; cases e2
    exact ⟨q, rfl⟩
  obtain ⟨⟨d, n⟩, rfl⟩ := hp
  obtain ⟨v, rfl, p1⟩ := pw.one_inv
  obtain ⟨s, rfl⟩ : ∃ s, d = .str s := by cases d <;> first | exact ⟨_, rfl⟩ | cases hz
  simp only [methD] at hz
  obtain ⟨ss, hss, rfl⟩ := Option.map_eq_some_iff.mp hz
  obtain ⟨ev1, _⟩ := str_list r hss
  obtain ⟨ev2, _⟩ := p1.rep.str_inv
  subst ev1; subst ev2
  exact ⟨a, ss, s, rfl, rfl, .of (s2 _ _ h1), hd3.val (pv.same.trans s2) (.int _)⟩
/-! ### for over a dict -/
theorem En.w (B : En sc X nm G CA cf np bl W) {W' : WX} (tk : Takes X W') : En sc X nm G CA cf np bl W' := ⟨B.cx, B.so, tk⟩
theorem z_forI (B : En sc X nm G CA cf np bl W) (pas : PassesOwn (model X.prog X.w) X.A X.env X.xe) (is : List Nat) {tes : List Expr} {c : C} {e : Expr} {b : List Stmt} {sa : List S} {px pos apos cpos : Pos} {kk : Nat} (hn : is.Nodup) (hT : TgNames sc nm.N tes is) (he : PE X e (tE X G CA cf W c)) (hb : noSup e = true) (hl : (apos.endLine == cpos.line) = true)
    (ha : ∀ W', Takes X W' → ∀ L, PSs X b (tB X G CA cf W' L sa)) : PS X (.For (.Tuple tes kk px) (.Call (.Attribute e "items" apos) [] [] cpos) b [] pos) (tS X G CA cf W L (.forD (.tup is) (.itm c) sa)) := by
  rw [← B.cx.N] at hT
  exact s_forD (JI := Iti) (xsOf := zipD) B.tk pas B.cx.calm (tg_tup hn) hT.lt walk_itm (fun ρ => by rw [ev] <;> rfl) (by rw [names]) (pi_items (pe_lk he) (base_ok hb) hl) (g_tup B.so B.cx.nd B.cx.calm hT) ha rfl
theorem z_forK (B : En sc X nm G CA cf np bl W) (pas : PassesOwn (model X.prog X.w) X.A X.env X.xe) (i : Nat) {x : Str} {c : C} {e : Expr} {b : List Stmt} {sa : List S} {px pos : Pos} (hx : nm.N[i]? = some x) (hl : locB sc x = true) (hs : noSet e = true) (he : PE X e (tE X G CA cf W c))
    (ha : ∀ W', Takes X W' → ∀ L, PSs X b (tB X G CA cf W' L sa)) : PS X (.For (.Name x px) e b [] pos) (tS X G CA cf W L (.forD (.one i) (.kys c) sa)) := by
  have hx' : X.N[i]? = some x := by rw [B.cx.N]; exact hx
  have hi : PI X (.Name x px) e (fun σ H R => tLk X (tE X G CA cf W c) σ H fun x H1 => ∃ d o kvs, x = .ref d ∧ H1 d = some (.frz o (.dK kvs)) ∧ R (Itk d o kvs) H1) :=
    ⟨fun pins s σ H R I h => (pi_keys (pe_lk he)).run pins s σ H R I (by
      refine tE.mono (fun v H1 ⟨d, e1, h1⟩ => ⟨d, e1, ?_⟩) h
      rcases h1 with ⟨o, u, e2, d', o', kvs, e3, e4, q⟩ | ⟨u, e2, mu, q⟩
      · exact .inl ⟨o, u, e2, d', o', e3, .inl ⟨kvs, e4, q⟩⟩
      · refine .inr ⟨u, e2, mu, fun od hn => ?_⟩
        obtain ⟨d', o', kvs, e3, e4, q⟩ := q od hn
        exact ⟨d', o', e3, .inl ⟨kvs, e4, q⟩⟩)⟩
  have hlt : i < X.N.length := (List.getElem?_eq_some_iff.mp hx').1
  exact s_forD (JI := Itk) (xsOf := fun ks _ => ks) B.tk pas B.cx.calm tg_one (fun j hj => by simp [Tg.is] at hj; subst hj; exact hlt) (fun hk _ ha => walk_kys hk ha) (fun ρ => by rw [ev] <;> rfl) (by rw [names]) hi (g_one B.so B.cx.nd hx' (loc_or hl)) ha hs
end
/-! ### for simp -/
section
variable (G : Glo) (cf : Runs) (ρ : Env)
@[simp] theorem ev_itm (e : C) : ev G cf ρ (.itm e) = (ev G cf ρ e).bind fun x => match x.1 with | .dct ks vs => .ok (.lst (zipD ks vs), if x.1.mdep ≤ x.2 then 9 else 0) | _ => .bad := by rw [ev] <;> rfl
@[simp] theorem ev_kys (e : C) : ev G cf ρ (.kys e) = (ev G cf ρ e).bind fun x => match x.1 with | .dct ks vs => .ok (.lst ks, if x.1.mdep ≤ x.2 then 9 else 0) | _ => .bad := by rw [ev] <;> rfl
variable (L : List Nat)
def forDS (tg : Tg) (it : C) (b : List S) (p : D × Nat) : OS := match itemsOf p.1 with
  | none => .bad
  | some xs => onJ cf.io tg.is <| if full p = true then forL (fun ρ d => putS ρ tg d fun ρ => exB G cf L ρ b) xs ρ
    else forL (fun ρ d => putS ρ tg d fun ρ => exB G cf (names it ++ L) ρ b) xs (frz ρ (names it))
theorem exS_forD (tg : Tg) (it : C) (b : List S) : exS G cf L ρ (.forD tg it b) = onE (ev G cf ρ it) ρ (forDS G cf ρ L tg it b) := by rw [exS] <;> rfl
end
end Vy

namespace Vy
/-! ## dicts from texts -/
def DT (m : List (Cs × D)) : D := .dct (m.map fun p => .str p.1) (m.map (·.2))
theorem DT_eq (m : List (Cs × D)) : DT m = .dct (m.map fun p => .str p.1) (m.map (·.2)) := rfl
def getT : List (Cs × D) → Cs → Option D
  | [], _ => none
  | (a, b) :: r, k => if a == k then some b else getT r k
def putT : List (Cs × D) → Cs → D → List (Cs × D)
  | [], k, d => [(k, d)]
  | (a, b) :: r, k, d => if a == k then (a, d) :: r else (a, b) :: putT r k d
def hasT (m : List (Cs × D)) (k : Cs) : Bool := (getT m k).isSome
theorem getT_put (m : List (Cs × D)) (k j : Cs) (d : D) : getT (putT m k d) j = if k == j then some d else getT m j := by
  induction m with
  | nil => simp [putT, getT]
  | cons p r ih =>
    obtain ⟨a, b⟩ := p
    rw [putT]
    by_cases h : a = k
    · subst h
      simp only [beq_self_eq_true, if_true, getT]
      by_cases h2 : a = j <;> simp [h2]
    · have h' : (a == k) = false := by simpa using h
      simp only [h', Bool.false_eq_true, if_false, getT, ih]
      by_cases h2 : a = j
      · subst h2
        have : (k == a) = false := by simpa using fun z : k = a => h z.symm
        simp [this]
      · have : (a == j) = false := by simpa using h2
        simp [this]
theorem hasT_put (m : List (Cs × D)) (k j : Cs) (d : D) : hasT (putT m k d) j = (k == j || hasT m j) := by
  unfold hasT
  rw [getT_put]
  cases k == j <;> simp
theorem hasT_mem {m : List (Cs × D)} {k : Cs} : hasT m k = true ↔ k ∈ m.map (·.1) := by
  induction m with
  | nil => simp [hasT, getT]
  | cons p r ih =>
    obtain ⟨a, b⟩ := p
    unfold hasT at ih ⊢
    rw [getT]
    by_cases h : a = k
    · simp [h]
    · have h' : (a == k) = false := by simpa using h
      simp only [h', Bool.false_eq_true, if_false, ih, List.map_cons, List.mem_cons]
      exact ⟨.inr, fun z => z.resolve_left fun z => h z.symm⟩
theorem getT_mem {m : List (Cs × D)} {k : Cs} {d : D} (h : getT m k = some d) : (k, d) ∈ m := by
  induction m with
  | nil => cases h
  | cons p r ih =>
    obtain ⟨a, b⟩ := p
    rw [getT] at h
    by_cases e : a = k
    · subst e; simp at h; subst h; simp
    · have h' : (a == k) = false := by simpa using e
      rw [h'] at h
      exact List.mem_cons_of_mem _ (ih h)
theorem getT_of {m : List (Cs × D)} (nd : (m.map (·.1)).Nodup) {k : Cs} {d : D} (h : (k, d) ∈ m) : getT m k = some d := by
  induction m with
  | nil => cases h
  | cons p r ih =>
    obtain ⟨a, b⟩ := p
    simp only [List.map_cons, List.nodup_cons] at nd
    rw [getT]
    rcases List.mem_cons.mp h with e | e
    · cases e; simp
    · have : a ≠ k := fun z => nd.1 (z ▸ List.mem_map.mpr ⟨_, e, rfl⟩)
      have h' : (a == k) = false := by simpa using this
      rw [h']
      exact ih nd.2 e
theorem keys_put (m : List (Cs × D)) (k : Cs) (d : D) : (putT m k d).map (·.1) = if hasT m k then m.map (·.1) else m.map (·.1) ++ [k] := by
  induction m with
  | nil => simp [putT, hasT, getT]
  | cons p r ih =>
    obtain ⟨a, b⟩ := p
    rw [putT]
    unfold hasT at ih ⊢
    rw [getT]
    by_cases h : a = k
    · simp [h]
    · have h' : (a == k) = false := by simpa using h
      simp only [h', Bool.false_eq_true, if_false, List.map_cons, ih]
      split <;> simp
theorem nodup_put {m : List (Cs × D)} (nd : (m.map (·.1)).Nodup) (k : Cs) (d : D) : ((putT m k d).map (·.1)).Nodup := by
  rw [keys_put]
  by_cases h : hasT m k = true
  · rw [if_pos h]; exact nd
  · rw [if_neg h, List.nodup_append]
    exact ⟨nd, by simp, fun a ha b hb => by simp at hb; subst hb; exact fun z => h (hasT_mem.mpr (z ▸ ha))⟩
theorem len_put (m : List (Cs × D)) (k : Cs) (d : D) : (putT m k d).length ≤ m.length + 1 := by
  have := congrArg List.length (keys_put m k d)
  simp only [List.length_map] at this
  rw [this]; split <;> simp
/-! ### for simp -/
theorem mdep_DT (m : List (Cs × D)) : (DT m).mdep = mdepL (m.map (·.2)) + 1 := by rw [DT_eq, mdep_dct]
@[simp] theorem norm_DT (m : List (Cs × D)) (n : Nat) : norm (DT m, n) = (DT m, n) := by simp [norm, mdep_DT]
theorem bind_DT {ρ : Env} {i n : Nat} {m : List (Cs × D)} {ns : List Nat} (h : mdepL (m.map (·.2)) + 1 ≤ n) : bindV ρ i (DT m, n) ns = ρ.set i (some (DT m, n)) := by
  rw [bind_full (by simp [full, mdep_DT]; omega)]; simp [setV]
@[simp] theorem len_DT (m : List (Cs × D)) (n : Nat) : bifD .len [(DT m, n)] = some (.int m.length, 9) := by
  show some (D.int ((m.map fun p => D.str p.1).length : Nat), 9) = _
  rw [List.length_map]
theorem any_keys (m : List (Cs × D)) (k : Cs) : ((m.map fun p => D.str p.1).any fun j => pyEq j (.str k)) = hasT m k := by
  induction m with
  | nil => rfl
  | cons p r ih =>
    obtain ⟨a, b⟩ := p
    unfold hasT at ih ⊢
    rw [List.map_cons, List.any_cons, ih, getT]
    show (a == k || _) = _
    cases h : a == k <;> simp
@[simp] theorem in_DT (k : Cs) (m : List (Cs × D)) : cmpD .isin (.str k) (DT m) = some (hasT m k) := by
  show go ((vKey (D.str k)).isSome = true) (some ((m.map fun p => D.str p.1).any fun j => pyEq j (.str k))) = _
  rw [go_pos (show (vKey (D.str k)).isSome = true from rfl), any_keys]
@[simp] theorem notin_DT (k : Cs) (m : List (Cs × D)) : cmpD .notin (.str k) (DT m) = some (!hasT m k) := by
  have := in_DT k m
  simp only [cmpD] at this ⊢
  rw [this]; rfl
theorem find_DT (m : List (Cs × D)) (k : Cs) : (((m.map fun p => D.str p.1).zip (m.map (·.2))).find? fun p => pyEq p.1 (.str k)).map (·.2) = getT m k := by
  induction m with
  | nil => rfl
  | cons p r ih =>
    obtain ⟨a, b⟩ := p
    rw [List.map_cons, List.map_cons, List.zip_cons_cons, List.find?_cons, getT]
    have : pyEq (D.str a) (.str k) = (a == k) := rfl
    simp only [this]
    cases h : a == k
    · simpa using ih
    · simp
theorem sub_DT {m : List (Cs × D)} {k : Cs} {d : D} (h : getT m k = some d) : subD (DT m) (.str k) = some (d.unfz, 0) := by
  show go ((vKey (D.str k)).isSome = true) _ = _
  rw [go_pos (show (vKey (D.str k)).isSome = true from rfl)]
  have := find_DT m k
  rw [h] at this
  obtain ⟨p, h1, h2⟩ := Option.map_eq_some_iff.mp this
  rw [h1, ← h2]
  rfl
theorem get_DT (m : List (Cs × D)) (k : Cs) (d : D) (n n1 n2 : Nat) : methD .get (DT m, n) [(.str k, n1), (d, n2)] = some (match getT m k with | some x => (x.unfz, 0) | none => (d, n2)) := by
  show go ((vKey (D.str k)).isSome = true) _ = _
  rw [go_pos (show (vKey (D.str k)).isSome = true from rfl)]
  have := find_DT m k
  cases h : (((m.map fun p => D.str p.1).zip (m.map (·.2))).find? fun p => pyEq p.1 (.str k)) with
  | none => rw [h] at this; rw [← this]; rfl
  | some p => rw [h] at this; rw [← this]; rfl
@[simp] theorem recv_DT (m : List (Cs × D)) : recvOk .get (DT m) = true := id rfl
@[simp] theorem list_DT (m : List (Cs × D)) (n : Nat) : bifD .list [(DT m, n)] = some (LS (m.map (·.1)), 9) := by
  show some (D.lst (m.map fun p => D.str p.1), lv1 (m.map fun p => D.str p.1)) = _
  have : (m.map fun p => D.str p.1) = (m.map (·.1)).map D.str := by rw [List.map_map]; rfl
  rw [this, lv1_strs]; rfl
theorem dict_DT (m : List (Cs × D)) (n : Nat) : bifD .dict [(DT m, n)] = some (DT m, lv1 (m.map (·.2))) := id rfl
theorem dct0 : D.dct [] [] = DT [] := rfl
theorem disp0 : dispD [] = some (DT [], 10) := rfl
@[simp] theorem isiOk_DT (m : List (Cs × D)) (k : IK) (h : ikOk k = true) : isiOk (DT m) k = true := isiOk_dct _ _ _ h
theorem putKD_DT (m : List (Cs × D)) (k : Cs) (d : D) : putKD (m.map fun p => .str p.1) (m.map (·.2)) (.str k) d = ((putT m k d).map fun p => .str p.1, (putT m k d).map (·.2)) := by
  induction m with
  | nil => rfl
  | cons p r ih =>
    obtain ⟨a, b⟩ := p
    have h : pyEq (D.str a) (.str k) = (a == k) := rfl
    unfold putKD at ih ⊢
    simp only [List.map_cons, List.findIdx?_cons, h]
    by_cases e : a = k
    · subst e; simp [putT]
    · have h' : (a == k) = false := by simpa using e
      simp only [h', Bool.false_eq_true, if_false, putT]
      cases f : (r.map fun p => D.str p.1).findIdx? fun y => pyEq y (.str k) with
      | none => rw [f] at ih; simpa using ih
      | some j => rw [f] at ih; simpa using ih
theorem st_DT {G : Glo} {cf : Runs} {L : List Nat} {ρ : Env} {i n m1 m2 : Nat} {m : List (Cs × D)} {k : Cs} {d : D} {ck e : C} (h : (ρ[i]?).bind id = some (DT m, n + 1)) (hL : i ∉ L) (hl : m.length + 1 < SZ) (hk : ev G cf ρ ck = .ok (.str k, m1)) (he : ev G cf ρ e = .ok (d, m2)) (hd : full (d, m2) = true) :
    exS G cf L ρ (.st ⟨i, []⟩ ck e) = .nx (ρ.set i (some (DT (putT m k d), lvIn (n + 1) (d, m2)))) := by
  have hx := putKD_DT m k d
  have hlv : lvIn (n + 1) (d, m2) ≤ n + 1 := lvIn_le
  rw [exS_st, he]
  simp only [onE_ok, rsv_nil, hk, noX_ok, mopX, if_neg hL, h, Option.bind_some, getP, DT_eq, stOp, hx]
  rw [go_pos ⟨rfl, by rw [List.length_map]; exact hl⟩]
  simp only [Option.map_some, List.all_cons, List.all_nil, hd, Bool.and_self, if_true, chgP, h, Option.bind_some, getP, OX.of_some, onX_ok, putP, setV, List.length_nil, Nat.add_zero, Nat.min_eq_right hlv]
  rw [← DT_eq (putT m k d), norm_DT]
/-! ### two alike -/
theorem zip_keys (m : List (Cs × D)) : (m.map fun p => D.str p.1).zip (m.map (·.2)) = m.map fun p => (D.str p.1, p.2) := by
  induction m with
  | nil => rfl
  | cons p r ih => rw [List.map_cons, List.map_cons, List.zip_cons_cons, ih]; rfl
theorem pyEq_self_strs : ∀ l : List Cs, pyEqL (l.map D.str) (l.map D.str) = true := fun l => by rw [pyEqL_strs]; simp
/-- the same keys and values -/
theorem eq_DT {m : List (Cs × D)} (nd : (m.map (·.1)).Nodup) (ok : ∀ p ∈ m, eqOk p.2 = true ∧ p.2.dep ≤ 50 ∧ pyEq p.2 p.2 = true) : cmpD .eq (DT m) (DT m) = some true := by
  have h1 : eqOkL (m.map (·.2)) = true := by
    clear nd
    induction m with
    | nil => rfl
    | cons p r ih => rw [List.map_cons, eqOkL, (ok p (by simp)).1, ih fun q hq => ok q (by simp [hq])]; rfl
  have h2 : depL (m.map (·.2)) ≤ 50 := by
    clear nd h1
    induction m with
    | nil => exact Nat.zero_le _
    | cons p r ih =>
      rw [List.map_cons, depL]
      have a := (ok p (by simp)).2.1
      have b := ih fun q hq => ok q (by simp [hq])
      omega
  show go _ (some (dctEq _ _ _ _)) = _
  rw [go_pos ⟨h1, h1, h2⟩]
  congr 1
  unfold dctEq
  rw [zip_keys, Bool.and_eq_true]
  refine ⟨by simp, List.all_eq_true.mpr fun q hq => ?_⟩
  obtain ⟨p, hp, rfl⟩ := List.mem_map.mp hq
  have g := getT_of nd hp
  have f := find_DT m p.1
  rw [zip_keys, g] at f
  obtain ⟨q, f1, f2⟩ := Option.map_eq_some_iff.mp f
  rw [f1]
  show pyEq p.2 q.2 = true
  rw [f2]
  exact (ok p hp).2.2
/-! ### walked -/
theorem itm_DT (m : List (Cs × D)) : zipD (m.map fun p => .str p.1) (m.map (·.2)) = m.map fun p => .tup [.str p.1, p.2] := by
  unfold zipD
  rw [zip_keys, List.map_map]
  rfl
end Vy

namespace Vy
/-! ## what is asked of a block's end -/
structure Post where
  nx : Env → Prop
  rt : D × Nat → Env → Prop
  ex : Exn → Env → Prop
def Sat (o : OS) (Q : Post) : Prop := match o with
  | .nx ρ => Q.nx ρ
  | .rt p ρ => Q.rt p ρ
  | .exc e ρ => Q.ex e ρ
  | .bad => False
@[simp] theorem Sat_nx (ρ : Env) (Q : Post) : Sat (.nx ρ) Q = Q.nx ρ := id rfl
@[simp] theorem Sat_rt (p : D × Nat) (ρ : Env) (Q : Post) : Sat (.rt p ρ) Q = Q.rt p ρ := id rfl
@[simp] theorem Sat_exc (e : Exn) (ρ : Env) (Q : Post) : Sat (.exc e ρ) Q = Q.ex e ρ := id rfl
@[simp] theorem Sat_bad (Q : Post) : Sat .bad Q = False := id rfl
theorem Sat.mono {o : OS} {Q Q' : Post} (h : Sat o Q) (h1 : ∀ ρ, Q.nx ρ → Q'.nx ρ) (h2 : ∀ p ρ, Q.rt p ρ → Q'.rt p ρ) (h3 : ∀ e ρ, Q.ex e ρ → Q'.ex e ρ) : Sat o Q' := by
  cases o with
  | nx ρ => exact h1 ρ h
  | rt p ρ => exact h2 p ρ h
  | exc e ρ => exact h3 e ρ h
  | bad => exact h
/-- ends by giving something like R -/
def Gives (R : D × Nat → Prop) : Post := ⟨fun _ => R (.non, 9), fun p _ => R p, fun _ _ => False⟩
@[simp] theorem Gives_nx (R : D × Nat → Prop) (ρ : Env) : (Gives R).nx ρ = R (.non, 9) := id rfl
@[simp] theorem Gives_rt (R : D × Nat → Prop) (p : D × Nat) (ρ : Env) : (Gives R).rt p ρ = R p := id rfl
@[simp] theorem Gives_ex (R : D × Nat → Prop) (e : Exn) (ρ : Env) : (Gives R).ex e ρ = False := id rfl
theorem Sat.some {o : OS} {R : D × Nat → Prop} (h : Sat o (Gives R)) : ∃ p, outS o = .ok p ∧ R p := by
  cases o with
  | nx ρ => exact ⟨_, rfl, h⟩
  | rt p ρ => exact ⟨_, rfl, h⟩
  | exc e ρ => exact h.elim
  | bad => exact h.elim
theorem Sat.eq {o : OS} {q : D × Nat} (h : Sat o (Gives fun p => p = q)) : outS o = .ok q := by
  obtain ⟨p, e, h⟩ := h.some
  rw [e, h]
/-- ends by going on, the slots like I -/
def Goes (I : Env → Prop) : Post := ⟨I, fun _ _ => False, fun _ _ => False⟩
@[simp] theorem Goes_nx (R : Env → Prop) (ρ : Env) : (Goes R).nx ρ = R ρ := id rfl
@[simp] theorem Goes_rt (R : Env → Prop) (p : D × Nat) (ρ : Env) : (Goes R).rt p ρ = False := id rfl
@[simp] theorem Goes_ex (R : Env → Prop) (e : Exn) (ρ : Env) : (Goes R).ex e ρ = False := id rfl
theorem Sat.goes {o : OS} {I : Env → Prop} (h : Sat o (Goes I)) : ∃ ρ, o = .nx ρ ∧ I ρ := by
  cases o with
  | nx ρ => exact ⟨_, rfl, h⟩
  | rt p ρ => exact h.elim
  | exc e ρ => exact h.elim
  | bad => exact h.elim
section
variable (G : Glo) (cf : Runs) (L : List Nat) (ρ : Env)
def thenR (o : OS) (r : List S) : OS := match o with
  | .nx ρ => exB G cf L ρ r
  | o => o
@[simp] theorem thenR_nx (r : List S) : thenR G cf L (.nx ρ) r = exB G cf L ρ r := id rfl
@[simp] theorem thenR_rt (p : D × Nat) (r : List S) : thenR G cf L (.rt p ρ) r = .rt p ρ := id rfl
@[simp] theorem thenR_exc (e : Exn) (r : List S) : thenR G cf L (.exc e ρ) r = .exc e ρ := id rfl
@[simp] theorem thenR_bad (r : List S) : thenR G cf L .bad r = .bad := id rfl
theorem exB_R (s : S) (r : List S) : exB G cf L ρ (s :: r) = thenR G cf L (exS G cf L ρ s) r := by rw [exB] <;> rfl
theorem thenR_exB (a r : List S) : thenR G cf L (exB G cf L ρ a) r = exB G cf L ρ (a ++ r) := by
  rw [exB_app]
  cases exB G cf L ρ a <;> rfl
@[simp] theorem thenR_R (o : OS) (a r : List S) : thenR G cf L (thenR G cf L o a) r = thenR G cf L o (a ++ r) := by
  cases o with
  | nx ρ => rw [thenR_nx, thenR_nx, thenR_exB]
  | _ => rfl
theorem thenR_0 (o : OS) : thenR G cf L o [] = o := by
  cases o with
  | nx ρ => rw [thenR_nx, exB_nil]
  | _ => rfl
def ifR (c : Out Bool) (a b : List S) : OS := onE c ρ fun c => if c = true then exB G cf L ρ a else exB G cf L ρ b
theorem exS_ifR (t : C) (a b : List S) : exS G cf L ρ (.ife t a b) = ifR G cf L ρ (evB G cf ρ t) a b := by rw [exS] <;> rfl
@[simp] theorem ifR_t (a b : List S) : ifR G cf L ρ (.ok true) a b = exB G cf L ρ a := id rfl
@[simp] theorem ifR_f (a b : List S) : ifR G cf L ρ (.ok false) a b = exB G cf L ρ b := id rfl
@[simp] theorem ifR_exc (e : Exn) (a b : List S) : ifR G cf L ρ (.exc e) a b = .exc e ρ := id rfl
theorem exS_for' (tg : Tg) (it : C) (b : List S) : exS G cf L ρ (.for_ tg it b) = onE (ev G cf ρ it) ρ (forS G cf ρ L tg it b) := exS_for G cf ρ L tg it b
def whlR (n : Nat) (t : C) (b : List S) : OS := whileL (fun ρ => evB G cf ρ t) (fun ρ => exB G cf L ρ b) n ρ
theorem exS_whlR (n : Nat) (t : C) (b : List S) : exS G cf L ρ (.whl n t b) = whlR G cf L ρ n t b := by rw [exS] <;> rfl
def orO (x y : Out (D × Nat)) : Out (D × Nat) := x.bind fun p => (Out.of (truth p.1)).bind fun r => if r = true then .ok p else y
def andO (x y : Out (D × Nat)) : Out (D × Nat) := x.bind fun p => (Out.of (truth p.1)).bind fun r => if r = true then y else .ok p
theorem ev_orO (a b : C) : ev G cf ρ (.or a b) = orO (ev G cf ρ a) (ev G cf ρ b) := by rw [ev] <;> rfl
theorem ev_andO (a b : C) : ev G cf ρ (.and a b) = andO (ev G cf ρ a) (ev G cf ρ b) := by rw [ev] <;> rfl
end
@[simp] theorem orO_t (n : Nat) (y : Out (D × Nat)) : orO (.ok (.bl true, n)) y = .ok (.bl true, n) := id rfl
@[simp] theorem orO_f (n : Nat) (y : Out (D × Nat)) : orO (.ok (.bl false, n)) y = y := id rfl
@[simp] theorem andO_t (n : Nat) (y : Out (D × Nat)) : andO (.ok (.bl true, n)) y = y := id rfl
@[simp] theorem andO_f (n : Nat) (y : Out (D × Nat)) : andO (.ok (.bl false, n)) y = .ok (.bl false, n) := id rfl
@[simp] theorem orO_b (p q : Bool) (n : Nat) : orO (.ok (.bl p, n)) (.ok (.bl q, n)) = .ok (.bl (p || q), n) := by cases p <;> rfl
@[simp] theorem andO_b (p q : Bool) (n : Nat) : andO (.ok (.bl p, n)) (.ok (.bl q, n)) = .ok (.bl (p && q), n) := by cases p <;> rfl
section
variable {G : Glo} {cf : Runs} {L : List Nat} {ρ : Env} {Q : Post}
theorem w_if {c : Bool} {a b r : List S} (h1 : c = true → Sat (exB G cf L ρ (a ++ r)) Q) (h2 : c = false → Sat (exB G cf L ρ (b ++ r)) Q) : Sat (thenR G cf L (ifR G cf L ρ (.ok c) a b) r) Q := by
  cases c with
  | true => rw [ifR_t, thenR_exB]; exact h1 rfl
  | false => rw [ifR_f, thenR_exB]; exact h2 rfl
theorem w_if0 {c : Bool} {a b : List S} (h1 : c = true → Sat (exB G cf L ρ a) Q) (h2 : c = false → Sat (exB G cf L ρ b) Q) : Sat (ifR G cf L ρ (.ok c) a b) Q := by
  cases c with
  | true => exact h1 rfl
  | false => exact h2 rfl
theorem sat_forL {f : Env → D → OS} : ∀ {xs : List D} {I : Nat → Env → Prop}, (∀ i x ρ, xs[i]? = some x → I i ρ → Sat (f ρ x) ⟨I (i + 1), Q.rt, Q.ex⟩) → ∀ ρ, I 0 ρ → Sat (forL f xs ρ) ⟨I xs.length, Q.rt, Q.ex⟩
  | [], I, _, ρ, h => h
  | x :: xs, I, hf, ρ, h => by
    have h1 := hf 0 x ρ rfl h
    rw [forL]
    cases e : f ρ x with
    | nx ρ1 =>
      rw [e] at h1
      exact sat_forL (xs := xs) (I := fun i => I (i + 1)) (fun i y ρ hy hi => hf (i + 1) y ρ (by simpa using hy) hi) ρ1 h1
    | rt p ρ1 => rw [e] at h1; exact h1
    | exc p ρ1 => rw [e] at h1; exact h1
    | bad => rw [e] at h1; exact h1
theorem sat_thenR {o : OS} {r : List S} {I : Env → Prop} (h : Sat o ⟨I, Q.rt, Q.ex⟩) (k : ∀ ρ, I ρ → Sat (exB G cf L ρ r) Q) : Sat (thenR G cf L o r) Q := by
  cases o with
  | nx ρ => exact k ρ h
  | rt p ρ => exact h
  | exc e ρ => exact h
  | bad => exact h
variable {tg : Tg} {it : C} {b r : List S} {p : D × Nat} {xs : List D}
/-- a for over what is one's own (or new) -/
theorem w_for (I : Nat → Env → Prop) (hx : itemsOf p.1 = some xs) (hf : full p = true) (hio : okJ cf.io tg.is = true) (h0 : I 0 ρ) (hs : ∀ i x ρ, xs[i]? = some x → I i ρ → Sat (putS ρ tg x fun ρ => exB G cf L ρ b) ⟨I (i + 1), Q.rt, Q.ex⟩) (hk : ∀ ρ, I xs.length ρ → Sat (exB G cf L ρ r) Q) : Sat (thenR G cf L (forS G cf ρ L tg it b p) r) Q := by
  refine sat_thenR ?_ hk
  unfold forS
  rw [hx]
  simp only
  rw [onJ, if_pos hio, if_pos hf]
  exact sat_forL hs ρ h0
/-- .. over a slot's row of things that never change -/
theorem w_forZ (I : Nat → Env → Prop) (hx : itemsOf p.1 = some xs) (hf : full p = false) (hz : mdepL xs = 0) (hio : okJ cf.io tg.is = true) (h0 : I 0 ρ) (hs : ∀ i x ρ, xs[i]? = some x → I i ρ → Sat (putS ρ tg x fun ρ => exB G cf (names it ++ L) ρ b) ⟨I (i + 1), Q.rt, Q.ex⟩) (hk : ∀ ρ, I xs.length ρ → Sat (exB G cf L ρ r) Q) : Sat (thenR G cf L (forS G cf ρ L tg it b p) r) Q := by
  refine sat_thenR ?_ hk
  unfold forS
  rw [hx]
  simp only
  rw [onJ, if_pos hio, hf, if_neg (by simp), if_pos hz]
  exact sat_forL hs ρ h0
/-- .. of things that may change: frozen for good -/
theorem w_forN (I : Nat → Env → Prop) (hx : itemsOf p.1 = some xs) (hf : full p = false) (hz : mdepL xs ≠ 0) (hio : okJ cf.io tg.is = true) (h0 : I 0 (frz ρ (names it))) (hs : ∀ i x ρ, xs[i]? = some x → I i ρ → Sat (putS ρ tg x fun ρ => exB G cf (names it ++ L) ρ b) ⟨I (i + 1), Q.rt, Q.ex⟩) (hk : ∀ ρ, I xs.length ρ → Sat (exB G cf L ρ r) Q) : Sat (thenR G cf L (forS G cf ρ L tg it b p) r) Q := by
  refine sat_thenR ?_ hk
  unfold forS
  rw [hx]
  simp only
  rw [onJ, if_pos hio, hf, if_neg (by simp), if_neg hz]
  exact sat_forL hs _ h0
/-- over none to n -/
theorem w_rng {n : Nat} (I : Nat → Env → Prop) (i : Nat) (hio : okJ cf.io [i] = true) (h0 : I 0 ρ) (hs : ∀ j ρ, j < n → I j ρ → Sat (exB G cf L (ρ.set i (some (.int (j : Int), 9))) b) ⟨I (j + 1), Q.rt, Q.ex⟩) (hk : ∀ ρ, I n ρ → Sat (exB G cf L ρ r) Q) :
    Sat (thenR G cf L (forS G cf ρ L (.one i) it b (.lst ((List.range n).map fun (j : Nat) => D.int (j : Int)), 9)) r) Q := by
  refine w_for I (xs := (List.range n).map fun (j : Nat) => D.int (j : Int)) rfl (full_rng n _) hio h0 (fun j x ρ hx hi => ?_) (by simpa using hk)
  rw [List.getElem?_map] at hx
  obtain ⟨j', hj', rfl⟩ := Option.map_eq_some_iff.mp hx
  obtain ⟨hj, rfl⟩ := List.getElem?_eq_some_iff.mp hj'
  rw [List.length_range] at hj
  simp only [putS, put_int, List.getElem_range]
  exact hs j ρ hj hi
/-- over a row of texts -/
theorem w_LS {l : List Cs} {n : Nat} (I : Nat → Env → Prop) (i : Nat) (hn : 1 ≤ n) (hio : okJ cf.io [i] = true) (h0 : I 0 ρ) (hs : ∀ j s ρ, l[j]? = some s → I j ρ → Sat (exB G cf L (ρ.set i (some (.str s, 9))) b) ⟨I (j + 1), Q.rt, Q.ex⟩) (hk : ∀ ρ, I l.length ρ → Sat (exB G cf L ρ r) Q) :
    Sat (thenR G cf L (forS G cf ρ L (.one i) it b (LS l, n)) r) Q := by
  refine w_for I (xs := l.map D.str) rfl (by simpa using hn) hio h0 (fun j x ρ hx hi => ?_) (by simpa using hk)
  rw [List.getElem?_map] at hx
  obtain ⟨s, hs', rfl⟩ := Option.map_eq_some_iff.mp hx
  simp only [putS, put_str]
  exact hs j s ρ hs' hi
theorem w_LSz {l : List Cs} (I : Nat → Env → Prop) (i : Nat) (hio : okJ cf.io [i] = true) (h0 : I 0 ρ) (hs : ∀ j s ρ, l[j]? = some s → I j ρ → Sat (exB G cf (names it ++ L) (ρ.set i (some (.str s, 9))) b) ⟨I (j + 1), Q.rt, Q.ex⟩) (hk : ∀ ρ, I l.length ρ → Sat (exB G cf L ρ r) Q) :
    Sat (thenR G cf L (forS G cf ρ L (.one i) it b (LS l, 0)) r) Q := by
  refine w_forZ I (xs := l.map D.str) rfl (by simp) (mdepL_strs l) hio h0 (fun j x ρ hx hi => ?_) (by simpa using hk)
  rw [List.getElem?_map] at hx
  obtain ⟨s, hs', rfl⟩ := Option.map_eq_some_iff.mp hx
  simp only [putS, put_str]
  exact hs j s ρ hs' hi
/-- over a text's signs -/
theorem w_str {t : Cs} {n : Nat} (I : Nat → Env → Prop) (i : Nat) (hio : okJ cf.io [i] = true) (h0 : I 0 ρ) (hs : ∀ j c ρ, t[j]? = some c → I j ρ → Sat (exB G cf L (ρ.set i (some (.str [c], 9))) b) ⟨I (j + 1), Q.rt, Q.ex⟩) (hk : ∀ ρ, I t.length ρ → Sat (exB G cf L ρ r) Q) :
    Sat (thenR G cf L (forS G cf ρ L (.one i) it b (.str t, n)) r) Q := by
  refine w_for I (xs := t.map fun c => D.str [c]) rfl (by simp) hio h0 (fun j x ρ hx hi => ?_) (by simpa using hk)
  rw [List.getElem?_map] at hx
  obtain ⟨s, hs', rfl⟩ := Option.map_eq_some_iff.mp hx
  simp only [putS, put_str]
  exact hs j s ρ hs' hi
/-- over the script -/
theorem w_scr {t : List Int} {n : Nat} (I : Nat → Env → Prop) (i : Nat) (hio : okJ cf.io [i] = true) (h0 : I 0 ρ) (hs : ∀ j c ρ, t[j]? = some c → I j ρ → Sat (exB G cf L (ρ.set i (some (.int c, 9))) b) ⟨I (j + 1), Q.rt, Q.ex⟩) (hk : ∀ ρ, I t.length ρ → Sat (exB G cf L ρ r) Q) :
    Sat (thenR G cf L (forS G cf ρ L (.one i) it b (.scr t, n)) r) Q := by
  refine w_for I (xs := t.map D.int) rfl (by simp) hio h0 (fun j x ρ hx hi => ?_) (by simpa using hk)
  rw [List.getElem?_map] at hx
  obtain ⟨s, hs', rfl⟩ := Option.map_eq_some_iff.mp hx
  simp only [putS, put_int]
  exact hs j s ρ hs' hi
/-- while: a measure that falls -/
theorem w_whl (P : Nat → Env → Prop) {t : C} {fuel : Nat} (n : Nat) (hn : n < fuel) (h0 : P n ρ) (hs : ∀ n ρ, P n ρ → (evB G cf ρ t = .ok false ∧ Sat (exB G cf L ρ r) Q) ∨ (evB G cf ρ t = .ok true ∧ Sat (exB G cf L ρ b) ⟨fun ρ' => ∃ n', n' < n ∧ P n' ρ', Q.rt, Q.ex⟩)) : Sat (thenR G cf L (whlR G cf L ρ fuel t b) r) Q := by
  unfold whlR
  induction fuel generalizing n ρ with
  | zero => exact absurd hn (Nat.not_lt_zero _)
  | succ fuel ih =>
    rcases hs n ρ h0 with ⟨h1, h2⟩ | ⟨h1, h2⟩
    · rw [whileL, h1]; exact h2
    · rw [whileL, h1]
      simp only
      cases e : exB G cf L ρ b with
      | nx ρ1 =>
        rw [e] at h2
        obtain ⟨n', h3, h4⟩ := h2
        exact ih n' (by omega) h4
      | rt p ρ1 => rw [e] at h2; exact h2
      | exc p ρ1 => rw [e] at h2; exact h2
      | bad => rw [e] at h2; exact h2
end
theorem putS_one (ρ : Env) (i : Nat) (d : D) (f : Env → OS) : putS ρ (.one i) d f = f (ρ.set i (some (norm (d, 0)))) := by simp [putS, Tg.put, setV]
theorem putS_two (ρ : Env) (i j : Nat) (c d : D) (f : Env → OS) : putS ρ (.tup [i, j]) (.tup [c, d]) f = f ((ρ.set i (some (norm (c, 0)))).set j (some (norm (d, 0)))) := by simp [putS, Tg.put, setV, gd]
theorem putS_three (ρ : Env) (i j k : Nat) (c d e : D) (f : Env → OS) : putS ρ (.tup [i, j, k]) (.tup [c, d, e]) f = f (((ρ.set i (some (norm (c, 0)))).set j (some (norm (d, 0)))).set k (some (norm (e, 0)))) := by simp [putS, Tg.put, setV, gd]
theorem beqd {α : Type} [BEq α] [LawfulBEq α] [DecidableEq α] (a b : α) : (a == b) = decide (a = b) := by rw [Bool.eq_iff_iff]; simp
namespace W
/-! the second way of running: goals of the form Sat, by open Vy.W -/
section
variable (G : Glo) (cf : Runs) (L : List Nat) (ρ : Env)
@[scoped simp high] theorem R_exB (s : S) (r : List S) : exB G cf L ρ (s :: r) = thenR G cf L (exS G cf L ρ s) r := exB_R G cf L ρ s r
@[scoped simp high] theorem R_if (t : C) (a b : List S) : exS G cf L ρ (.ife t a b) = ifR G cf L ρ (evB G cf ρ t) a b := exS_ifR G cf L ρ t a b
@[scoped simp high] theorem R_for (tg : Tg) (it : C) (b : List S) : exS G cf L ρ (.for_ tg it b) = onE (ev G cf ρ it) ρ (forS G cf ρ L tg it b) := exS_for G cf ρ L tg it b
@[scoped simp high] theorem R_whl (n : Nat) (t : C) (b : List S) : exS G cf L ρ (.whl n t b) = whlR G cf L ρ n t b := exS_whlR G cf L ρ n t b
@[scoped simp high] theorem R_or (a b : C) : ev G cf ρ (.or a b) = orO (ev G cf ρ a) (ev G cf ρ b) := ev_orO G cf ρ a b
@[scoped simp high] theorem R_and (a b : C) : ev G cf ρ (.and a b) = andO (ev G cf ρ a) (ev G cf ρ b) := ev_andO G cf ρ a b
end
@[scoped simp] theorem R_put (ρ : Env) (i : Nat) (d : D) (f : Env → OS) : putS ρ (.one i) d f = f (ρ.set i (some (norm (d, 0)))) := putS_one ρ i d f
@[scoped simp high] theorem R_eqI (i j : Int) : cmpD .eq (.int i) (.int j) = some (decide (i = j)) := by rw [eq_int, beqd]
@[scoped simp high] theorem R_neI (i j : Int) : cmpD .ne (.int i) (.int j) = some (!decide (i = j)) := by rw [ne_int, beqd]
@[scoped simp high] theorem R_eqS (i j : Cs) : cmpD .eq (.str i) (.str j) = some (decide (i = j)) := by rw [eq_str, beqd]
@[scoped simp high] theorem R_neS (i j : Cs) : cmpD .ne (.str i) (.str j) = some (!decide (i = j)) := by rw [ne_str, beqd]
@[scoped simp high] theorem R_eqL (l k : List Cs) : cmpD .eq (LS l) (LS k) = some (decide (l = k)) := by rw [eq_LS, beqd]
@[scoped simp high] theorem R_neL (l k : List Cs) : cmpD .ne (LS l) (LS k) = some (!decide (l = k)) := by rw [ne_LS, beqd]
@[scoped simp high] theorem R_inL (s : Cs) (l : List Cs) : cmpD .isin (.str s) (LS l) = some (decide (s ∈ l)) := by rw [in_LS]; simp [List.contains_eq_mem]
@[scoped simp high] theorem R_ninL (s : Cs) (l : List Cs) : cmpD .notin (.str s) (LS l) = some (!decide (s ∈ l)) := by rw [notin_LS]; simp [List.contains_eq_mem]
end W
end Vy

namespace Vy
open PySem PySem.Spec
open PyProof.Rows hiding St
open L2
section
variable {sc : Scope} {X : Cx} {nm : Nm} {G : Glo} {CA : Nat → Addr} {cf : Runs} {np : Nat → Option Nat} {bl : List Str} {W : WX} {L : List Nat}
/-- d.get(k) -/
theorem x_get1 (B : En sc X nm G CA cf np bl W) {o c : C} {eo e : Expr} {apos cpos : Pos} (ho : PE X eo (tE X G CA cf W o)) (he : PE X e (tE X G CA cf W c)) (hs : noStar e = true) (hb : noSup eo = true) (hl : (apos.endLine == cpos.line) = true) :
    PE X (.Call (.Attribute eo "get" apos) [e] [] cpos) (tE X G CA cf W (.mth .get o [c])) := by
  obtain ⟨k0, hr, _⟩ := B.cx.lev
  have hs1 : [e].all noStar = true := by simp [hs]
  refine PE.weak (pe_dget1 (hu_of hr) ho he ⟨base_ok hb, back_few hs1 (by simp), hl, back_one hs⟩) fun σ H Q ⟨S, sr, h⟩ => ?_
  rw [ev] at h
  refine ⟨S, sr, Den.seq (Same.refl H) h fun p x H1 O Z e1 pv hd => ?_⟩
  obtain ⟨hrv, hd⟩ := hd.gd
  obtain ⟨d0, n0⟩ := p
  obtain ⟨ks, ds, rfl⟩ := get_recv hrv
  obtain ⟨a, kvs, O', Z', m', rfl, hrd, hko, hrs, hO, hZ⟩ := pv.rep.dct_inv
  have key : tL X G CA cf W [c] σ H1 fun us H3 => ∃ y, us = [y] ∧ ∃ o, DGet H3 a y o ∧ Q (o.getD .non) H3 := by
    refine ⟨S, sr.same pv.same, DenL.seq pv.same hd fun ps us H3 O3 Z3 e3 s3 pw hd3 => ?_⟩
    obtain ⟨z, hz, hd4⟩ := Den.ofv hd3
    have hp : ∃ q, ps = [q] := by
      simp only [evs] at e3
      obtain ⟨q, _, e3⟩ := Out.bind_eq_ok e3
      obtain ⟨l, e4, e3⟩ := Out.bind_eq_ok e3
      cases e4; cases e3
      exact ⟨q, rfl⟩
    obtain ⟨⟨dk, nk⟩, rfl⟩ := hp
    obtain ⟨y, rfl, p1⟩ := pw.one_inv
    obtain ⟨h1, e'⟩ := go_some (show go _ _ = _ from hz)
    obtain ⟨κ, hk⟩ := Option.isSome_iff_exists.mp h1
    obtain ⟨f1, f2, _⟩ := dct_find hk hko.1 hrs
    refine ⟨y, rfl, _, .inl ⟨kvs, κ, Rd.keep (F := []) hrd (keepS s3) (by simp), vKey_kV hk p1.rep, rfl⟩, ?_⟩
    cases hf : (ks.zip ds).find? fun p => pyEq p.1 dk with
    | none =>
      rw [hf] at e'
      cases e'
      rw [f2 hf]
      exact hd4.val (pv.same.trans s3) .non
    | some q =>
      rw [hf] at e'
      cases e'
      obtain ⟨v, O1, Z1, q1, q2, q3, q4⟩ := f1 q hf
      rw [q1]
      obtain ⟨O2, Z2, q5, l⟩ := q2.low (Nat.zero_le _)
      have := q5.zero
      subst this
      refine hd4 v H3 [] Z2 ⟨pv.same.trans s3, (q5.un0).same s3, by simp, by simp, fun b q => ?_, by simp⟩
      rcases l.all b q with z | z
      · exact .inl (pv.fresh b (hO b (q3 b z)))
      · exact (pv.zin b (hZ b (q4 b z))).imp id fun w => by rw [names]; exact Nod.l w
  exact ⟨a, rfl, .inl ⟨kvs, hrd⟩, (tL_one key).mono fun y H2 ⟨y', e, q⟩ => by cases e; exact q⟩
/-! ### list(d.items()) -/
theorem items_reps {K : PySem.W.Frag} {H : Hp} {m : Nat} : ∀ {ks ds : List D} {kvs : List (Key × V)} {ts : List Addr} {Z : List Addr}, ks.map vKey = kvs.map (fun p => some p.1) → (∀ s, D.str s ∈ ks → Bd s) → Reps K CA H m ds (kvs.map (·.2)) [] Z → Paired (fun (t : Addr) (q : Key × V) => H t = some (.tup [kV q.1, q.2])) ts kvs → Reps K CA H m (zipD ks ds) (ts.map V.ref) [] Z
  | [], ds, [], ts, Z, _, _, r, p => by cases p; cases r; exact .nil
  | [], _, _ :: _, _, _, h, _, _, _ => by simp at h
  | _ :: _, _, [], _, _, h, _, _, _ => by simp at h
  | k :: ks, ds, (κ, v) :: kvs, ts, Z, h, hb, r, p => by
    rw [List.map_cons] at r
    obtain ⟨d, ds', Z1, Z2, rfl, r1, r2, rfl⟩ : ∃ d ds' Z1 Z2, ds = d :: ds' ∧ Rep K CA H m d v [] Z1 ∧ Reps K CA H m ds' (kvs.map (·.2)) [] Z2 ∧ Z = Z1 ++ Z2 := by
      generalize hO : ([] : List Addr) = O at r
      generalize hX : (v :: kvs.map (·.2)) = dd at r
      cases r with
      | nil => cases hX
      | cons r1 r2 =>
        cases hX
        obtain ⟨e1, e2⟩ := List.append_eq_nil_iff.mp hO.symm
        subst e1; subst e2
        exact ⟨_, _, _, _, rfl, r1, r2, rfl⟩
    cases p with
    | cons p1 p2 =>
    rename_i t ts'
    simp only [List.map_cons, List.cons.injEq] at h
    have ih := items_reps h.2 (fun s hs => hb s (by simp [hs])) r2 p2
    have rk : Rep K CA H m k (kV κ) [] [] := by
      cases k <;> first | (simp [vKey] at h; done) | skip
      · have := h.1; simp [vKey] at this; subst this; exact .int _
      · rename_i s
        have := h.1; simp [vKey] at this; subst this; exact .str (hb s (by simp))
    have one : Rep K CA H m (.tup [k, d]) (.ref t) [] Z1 := by
      have := Reps.cons rk (Reps.cons r1 .nil)
      simp only [List.nil_append, List.append_nil] at this
      exact .tup (.inl (.inl p1)) this
    have := Reps.cons one ih
    simpa [zipD] using this
def tLI (te : TE) : TE := fun σ H Q => te σ H fun x H1 => ∃ (d : Addr) (kvs : List (Key × V)), x = .ref d ∧ Rd H1 d (.dK kvs) ∧
  ∀ (H' : Hp) (p : Addr) (ts : List Addr), (∀ b o, H1 b = some o → H' b = some o) → H1 p = none → (∀ t ∈ ts, H1 t = none) → p ∉ ts → H' p = some (.lst (ts.map V.ref)) → Paired (fun (t : Addr) (q : Key × V) => H' t = some (.tup [kV q.1, q.2])) ts kvs → Q (.ref p) H'
theorem pe_li {e : Expr} {te : TE} {p apos cpos pos : Pos} (hc : X.calm = true) (he : PE X e te) (hg : Gl X "list") (hm : X.mg "list" = none) (hb : noSup e = true) (hl : (apos.endLine == cpos.line) = true) :
    PE X (.Call (.Name "list" p) [.Call (.Attribute e "items" apos) [] [] cpos] [] pos) (tLI te) := by
  have hs : starEach [.Call (.Attribute e "items" apos) [] [] cpos] X.env = (false, eval (.Call (.Attribute e "items" apos) [] [] cpos) X.env) :: starEach [] X.env := by rfl
  refine ⟨fun pins s σ H Q I hq => wpAny_Call_Name_kw (ld_blt I hg hm (show bootBuiltins (Str.ofString "list") = some (.type "list") by decide +kernel) (PyProof.Rows.callWith_type1 ?_ hs rfl))⟩
  rw [hs]
  refine Calls.spliced_cons (wpAny_Call_method (T := "dict") (id := "dict.items") (base_ok hb) rfl hl F.plainAttrs_dict F.slot_dict_items F.type_dict_items (thn (he.run pins s σ H _ I hq) fun u s1 q0 => ?_))
  obtain ⟨x, H1, I1, rx, d, kvs, ex, hd, q⟩ := q0
  subst ex
  cases (show u = Value.ref d from rx)
  obtain ⟨hz, hs0, vs, kv, hdo⟩ := dk_rd I1.hok hd
  obtain ⟨ep, hat⟩ := hdo.dictAt
  have lk : kvs.length = vs.length := Paired.length kv
  have I2 : Inv X pins σ H1 { s1 with heap := s1.heap.push { cls := .type "dict_items", data := .fields #[.ref d] } } := I1.kept (t' := s1.toks) fun b ob q => Heap.get?_push_of_some _ q
  refine ⟨hdo.typeIs, hdo.mapOf.noDict, ?_⟩
  refine method_meetsIn F.slot_dict_items F.entry_dict_items rfl (PySem.evalArgs_none ⟨rfl, hdo.typeIs, F.args_dict_items_1 _, _, meets_dict_items (mixKind X.prog X.w) d hs0, ⟨vs, hdo⟩, Calls.spliced_nil ?_⟩)
  refine PySem.W.kdx_call (knd := mixKind X.prog X.w) (kvs := vs) (ep := ep) (I1.ok.hd hc) ⟨_, Heap.get?_push_size _ rfl, rfl, rfl⟩ (hat.push _) (by omega) fun h' tk acc c as hk hS hl2 hG hacc => ?_
  obtain ⟨H', k1, k2, k3, k4, k5, k6, J⟩ := LiI.items_laid (tk := tk) I2 hz kv hk hS hl2 hG hacc
  exact ⟨.ref _, H', J, rfl, q H' _ as k1 k2 k3 k4 k5 k6⟩
theorem x_li (B : En sc X nm G CA cf np bl W) {c : C} {e : Expr} {p apos cpos pos : Pos} (hbl : bl.contains ("list" : Str) = true) (hg : gloB sc "list" = true) (he : PE X e (tE X G CA cf W c)) (hb : noSup e = true) (hl : (apos.endLine == cpos.line) = true) :
    PE X (.Call (.Name "list" p) [.Call (.Attribute e "items" apos) [] [] cpos] [] pos) (tE X G CA cf W (.bif .list [.itm c])) := by
  refine PE.weak (pe_li B.cx.calm he (B.gl hg) (B.cx.blt _ (by simpa using hbl)) hb hl) fun σ H Q ⟨S, sr, h⟩ => ?_
  rw [ev] at h
  have h1 : Den X.K CA W (Nod S (names (.bif .list [.itm c]))) ((ev G cf (envOf S) c).bind fun x => match x.1 with | .dct ks vs => .ok (.lst (zipD ks vs), lv1 (zipD ks vs)) | _ => .bad) σ H Q := by
    rw [evs, ev, evs] at h
    cases e1 : ev G cf (envOf S) c with
    | ok x =>
      rw [e1] at h
      simp only [Out.bind_ok] at h ⊢
      cases e2 : x.1 with
      | dct ks vs => rw [e2] at h; exact h
      | _ => rw [e2] at h; exact h
    | exc x => rw [e1] at h; exact h
    | bad => rw [e1] at h; exact h
  refine ⟨S, sr, Den.seq (Same.refl H) h1 fun x v H1 O Z e1 pv hd => ?_⟩
  obtain ⟨d0, n0⟩ := x
  cases d0 <;> first | (exact hd.elim) | skip
  rename_i ks ds
  obtain ⟨a, kvs, O', Z', m', rfl, hrd, hko, hrs, hO, hZ⟩ := pv.rep.dct_inv
  obtain ⟨Z0, r0, h0⟩ := hrs.zeroed
  refine ⟨a, kvs, rfl, hrd, fun H' p ts k1 k2 k3 k4 k5 k6 => ?_⟩
  have sm : Same H H' := pv.same.trans fun b o e => k1 b o e
  have r1 := items_reps hko.1 hko.2.2 (r0.same fun b o e => k1 b o e) k6
  have z0 : ∀ b ∈ Z0, H b = none ∨ Nod S (names (.bif .list [.itm c])) b := fun b hb => by
    rcases h0 b hb with z | z
    · exact .inl (pv.fresh b (hO b z))
    · exact (pv.zin b (hZ b z)).imp id fun w => by simpa [names, namesL] using w
  have hd : Den X.K CA W (Nod S (names (.bif .list [.itm c]))) (.ok (.lst (zipD ks ds), lv1 (zipD ks ds))) σ H Q := hd
  unfold lv1 at hd
  by_cases hm : mdepL (zipD ks ds) = 0
  · rw [if_pos hm] at hd
    obtain ⟨_, _, r8⟩ := r1.imm (m := 8) hm
    exact hd _ H' [p] [] ⟨sm, .lstO k5 r8, fun a q => by simp at q; subst q; exact same_none pv.same k2, by simp, by simp, by simp⟩
  · rw [if_neg hm] at hd
    exact hd _ H' [p] Z0 ⟨sm, .lstO k5 r1, fun a q => by simp at q; subst q; exact same_none pv.same k2, by simp, z0, fun a q w => by
      simp at w; subst w
      have := (r0.there a (by simpa using q)); exact this k2⟩
/-! ### d.setdefault(k, []).append(x), of names -/
theorem expX_read {x : Xp} {D : Ends} {σ : St} {H : Hp} (h : tS X G CA cf W L (.expX x) D σ H) : tX X G CA cf W L x σ H fun _ H' => D.nx σ H' := by
  obtain ⟨S, sr, fr, h⟩ := h
  rw [exS] at h
  exact ⟨S, sr, fr, h.onX fun p ρ S1 v H1 O Z e sr1 fr1 st1 he xv ho hz hd => hd S1 σ H1 sr1 fr1 st1 he⟩
/-- .. in the language -/
def sdaS (i m j : Nat) : S := .ife (.cmp .lt (.bif .len [.var i]) (.cst (.int 1000000))) [.ife (.cmp .isin (.var m) (.bif .dict [.var i])) [.expX (.mop ⟨i, [.ix (.var m)]⟩ .app [.var j])] [.st ⟨i, []⟩ (.var m) (.lst [.var j])]] [.exp (.neg (.cst .non))]
theorem var_ev {S : Slots} {i : Nat} : ev G cf (envOf S) (.var i) = .bad ∨ ∃ r : Root, S[i]? = some (some r) ∧ ev G cf (envOf S) (.var i) = .ok (r.d, 0) := by
  rw [ev, envOf_get]
  cases h : S[i]? with
  | none => exact .inl rfl
  | some o => cases o with
    | none => exact .inl rfl
    | some r => exact .inr ⟨r, rfl, rfl⟩
theorem exB_one (ρ : Env) (s : S) : exB G cf L ρ [s] = exS G cf L ρ s := by
  rw [exB_cons']
  cases exS G cf L ρ s <;> simp
theorem sda_read {i m j : Nat} {D : Ends} {σ : St} {H : Hp} (h : tS X G CA cf W L (sdaS i m j) D σ H) :
    ∃ a kvs κ x, σ[i]? = some (some (V.ref a)) ∧ Rd H a (.dK kvs) ∧ σ[m]? = some (some (kV κ)) ∧ σ[j]? = some (some x) ∧ kvs.length < sizeLine ∧
      (∀ w, valV kvs κ = some w → H a = some (.dK kvs) ∧ ∃ l ws, w = .ref l ∧ H l = some (.lst ws) ∧ ws.length < sizeLine ∧ D.nx σ (upd H l (.lst (ws ++ [x])))) ∧
      (valV kvs κ = none → ∀ l, H l = none → H a = some (.dK kvs) ∧ D.nx σ (upd (upd H l (.lst [x])) a (.dK (putK kvs κ (.ref l))))) := by
  obtain ⟨S, sr, fr, h⟩ := h
  unfold sdaS at h
  rw [exS] at h
  rcases var_ev (G := G) (cf := cf) (S := S) (i := i) with e' | ⟨ri, hi, e'⟩
  · simp only [evB_eq, ev_cmp, ev_bif, evs_cons, e', Out.bind_bad, onE_bad] at h; exact h.elim
  obtain ⟨di, ni, vi, Oi, Zi⟩ := ri
  simp only [evB_eq, ev_cmp, ev_bif, evs_cons, evs_nil, e', Out.bind_ok] at h
  have hl : ∃ n : Nat, bifD .len [(di, 0)] = some (.int n, 9) ∧ (∀ ks ds, di = .dct ks ds → n = ks.length) := by
    cases di with
    | str s =>
      by_cases hs : s.length ≤ SZ
      · exact ⟨_, go_pos hs, fun _ _ z => by cases z⟩
      · exfalso
        have z : bifD .len [(.str s, 0)] = none := by
          show go (s.length ≤ SZ) _ = none
          unfold go; rw [if_neg hs]
        rw [z] at h
        exact h.elim
    | scr xs => exact ⟨_, rfl, fun _ _ z => by cases z⟩
    | lst xs => exact ⟨_, rfl, fun _ _ z => by cases z⟩
    | tup xs => exact ⟨_, rfl, fun _ _ z => by cases z⟩
    | dct ks xs => exact ⟨_, rfl, fun _ _ z => by cases z; rfl⟩
    | _ => exfalso; exact h.elim
  obtain ⟨n, hl1, hl2⟩ := hl
  simp only [hl1, Out.of_some, Out.bind_ok, ev_cst, lt_int, truth_bl, onE_ok] at h
  by_cases hn : (n : Int) < 1000000
  case neg =>
    rw [if_neg (by simpa using hn), exB_one, exS] at h
    simp only [ev_neg, ev_cst, Out.bind_ok, onE_bad] at h
    exact h.elim
  rw [if_pos (by simpa using hn), exB_one, exS] at h
  rcases var_ev (G := G) (cf := cf) (S := S) (i := m) with e | ⟨rk, hm, e⟩
  · simp only [evB_eq, ev_cmp, e, Out.bind_bad, onE_bad] at h; exact h.elim
  obtain ⟨dk, nk, vk, Ok, Zk⟩ := rk
  simp only [evB_eq, ev_cmp, e, ev_bif, evs_cons, evs_nil, e', Out.bind_ok] at h
  obtain ⟨ks, ds, rfl⟩ : ∃ ks ds, di = .dct ks ds := by
    cases di <;> first | exact ⟨_, _, rfl⟩ | (exfalso; exact h.elim)
  have hk : (vKey dk).isSome = true := by
    cases e2 : (vKey dk).isSome with
    | true => rfl
    | false =>
      exfalso
      have z : cmpD .isin dk (.dct ks ds) = none := by
        show go ((vKey dk).isSome = true) _ = none
        rw [e2]; rfl
      simp only [bifD, Out.of_some, Out.bind_ok, z, Out.of_none, Out.bind_bad, onE_bad] at h
      exact h.elim
  have hc : cmpD .isin dk (.dct ks ds) = some (ks.any fun k => pyEq k dk) := go_pos hk
  simp only [bifD, Out.of_some, Out.bind_ok, hc, truth_bl, onE_ok] at h
  obtain ⟨κ, hκ⟩ := Option.isSome_iff_exists.mp hk
  obtain ⟨sm1, sm2⟩ := sr.rep m _ hm
  obtain ⟨si1, si2⟩ := sr.rep i _ hi
  obtain ⟨a, kvs, O', Z', m', ea, hrd, hko, hrs, _, _⟩ := si2.dct_inv
  have ekv : vk = kV κ := vKey_kV hκ sm2
  simp only at si1 sm1 ea ekv
  subst ea; subst ekv
  obtain ⟨f1, f2, f3⟩ := dct_find hκ hko.1 hrs
  have hkl : kvs.length < sizeLine := by
    have h1 := hl2 ks ds rfl
    have h2 := congrArg List.length hko.1
    simp only [List.length_map] at h2
    rw [SZ_eq]; unfold SZ; omega
  -- the slot's own dict, seen again
  have same_dct : ∀ {S2 : Slots} {r : Root} {H2 : Hp}, SRep X.K CA S2 σ H2 → Rd H2 a (.dK kvs) → S2[i]? = some (some r) → r.v = .ref a := fun {S2 r H2} sr2 _ hr => by
    have := (sr2.rep i r hr).1
    rw [si1] at this
    exact (Option.some.inj (Option.some.inj this)).symm
  by_cases hin : (ks.any fun k => pyEq k dk) = true
  · rw [hin, if_pos rfl, exB_one] at h
    have hv : (valV kvs κ).isSome = true := by rw [← f3]; exact hin
    obtain ⟨w, hw⟩ := Option.isSome_iff_exists.mp hv
    obtain ⟨S2, sr2, hD⟩ := mop_read m_app (expX_read ⟨S, sr, fr, h⟩)
    simp only [rsv_at, rsv_nil] at hD
    rcases var_ev (G := G) (cf := cf) (S := S2) (i := m) with e2 | ⟨rk2, hm2, e2⟩
    · rw [e2] at hD; exact hD.elim
    rw [e2] at hD
    simp only [noX_ok, Out.bind_ok] at hD
    obtain ⟨r, u, hr, hg, q⟩ := hD
    have erv := same_dct sr2 hrd hr
    obtain ⟨d2, n2, v2, O2, Z2⟩ := r
    simp only at erv hg q
    subst erv
    have rr := (sr2.rep i _ hr).2
    cases n2 with
    | zero => cases hg
    | succ n2 =>
    obtain ⟨j', hj', _⟩ := Option.bind_eq_some_iff.mp (show (posP d2 (.at rk2.d)).bind _ = some u from hg)
    have hown : H a = some (.dK kvs) := by
      have rr : Rep X.K CA H (n2 + 1) d2 (.ref a) O2 Z2 := rr
      cases rr with
      | dctO e1 _ _ =>
        rcases hrd with z | ⟨o, z⟩
        · exact z
        · rw [e1] at z; cases z
      | lstO e1 _ => rcases hrd with z | ⟨o, z⟩ <;> (rw [e1] at z; cases z)
      | _ => cases hj'
    have hk2 : vKey rk2.d = some κ := by
      have hs : (vKey rk2.d).isSome = true := by
        cases d2 <;> first | (cases hj'; done) | skip
        · rename_i xs
          cases hrk : rk2.d <;> rw [hrk] at hj' <;> first | (cases hj'; done) | rfl
        · exact (go_some (show go _ _ = _ from hj')).1
      obtain ⟨κ2, hκ2⟩ := Option.isSome_iff_exists.mp hs
      obtain ⟨q1, q2⟩ := sr2.rep m _ hm2
      have e5 := vKey_kV hκ2 q2
      rw [sm1] at q1
      have e6 : kV κ = rk2.v := Option.some.inj (Option.some.inj q1)
      rw [hκ2, L2.kV_inj (e6.trans e5)]
    obtain ⟨_, q⟩ := q w H (Same.refl H) (.cons (.dct hown hk2 hw) .nil)
    obtain ⟨x, hx, l, ws, y, rfl, ey, h1, h2, h3⟩ := var_read (tL_one q)
    cases ey
    refine ⟨a, kvs, κ, x, si1, hrd, sm1, hx, hkl, fun w' hw' => ?_, fun z => by rw [hw] at z; cases z⟩
    rw [hw] at hw'
    cases hw'
    exact ⟨hown, l, ws, rfl, h1, h2, h3⟩
  · rw [if_neg hin, exB_one] at h
    have hv : valV kvs κ = none := by
      have : (valV kvs κ).isSome = false := by rw [← f3]; simpa using hin
      simpa using this
    have h1 := tL_one (lst_read (st_read ⟨S, sr, fr, h⟩))
    obtain ⟨x, hx, _, q⟩ := var_read h1
    refine ⟨a, kvs, κ, x, si1, hrd, sm1, hx, hkl, fun w hw => (by rw [hv] at hw; cases hw), fun _ l hl => ?_⟩
    obtain ⟨S2, sr2, r, u, hr, _, q⟩ := q l hl
    have hal : a ≠ l := fun z => Rd.some hrd (z ▸ hl)
    have erv : r.v = .ref a := by
      have := (sr2.rep i r hr).1
      rw [si1] at this
      exact (Option.some.inj (Option.some.inj this)).symm
    obtain ⟨y, hy, q⟩ := var_read (q _ _ (Same.refl _) .nil)
    rw [sm1] at hy
    cases hy
    rw [erv] at q
    rcases q with ⟨p', xs, k, j', e1, _, e2, _⟩ | ⟨a', H', e1, e2, q⟩
    · cases e1
      rw [upd_ne hal] at e2
      rcases hrd with z | ⟨o, z⟩ <;> (rw [z] at e2; cases e2)
    · cases e1
      rcases e2 with ⟨kvs', k', e3, e4, e5, rfl⟩ | ⟨kvs', k', b, e3, e4, e5, _⟩
      · rw [upd_ne hal] at e3
        have : H a = some (.dK kvs) := by
          rcases hrd with z | ⟨o, z⟩
          · exact z
          · rw [z] at e3; cases e3
        rw [this] at e3
        cases e3
        rw [L2.kV_inj e4]
        exact ⟨this, q⟩
      · rw [upd_ne hal] at e3
        rcases hrd with z | ⟨o, z⟩ <;> (rw [z] at e3; cases e3)
theorem z_sda (B : En sc X nm G CA cf np bl W) (i m j : Nat) {d k x : Str} {dp kp lp xp p1 p2 p3 p4 pos : Pos} (hi : nm.N[i]? = some d) (hm : nm.N[m]? = some k) (hj : nm.N[j]? = some x) (vi : visB sc d = true) (vm : visB sc k = true) (vj : visB sc x = true) (gi : dbg d = true) (gm : dbg k = true) (gj : dbg x = true)
    (hl : (p1.endLine == p2.line) = true) (hl2 : (p3.endLine == p4.line) = true) :
    PS X (.Expr (.Call (.Attribute (.Call (.Attribute (.Name d dp) "setdefault" p1) [.Name k kp, .List [] lp] [] p2) "append" p3) [.Name x xp] [] p4) pos) (tS X G CA cf W L (sdaS i m j)) := by
  have ei : PE X (.Name d dp) (tVar i) := pe_var (by rw [B.cx.N]; exact hi) (B.vis vi) (dbg_ok gi).1 (dbg_ok gi).2.1
  have em : PE X (.Name k kp) (tVar m) := pe_var (by rw [B.cx.N]; exact hm) (B.vis vm) (dbg_ok gm).1 (dbg_ok gm).2.1
  have ej : PE X (.Name x xp) (tVar j) := pe_var (by rw [B.cx.N]; exact hj) (B.vis vj) (dbg_ok gj).1 (dbg_ok gj).2.1
  have h1 : PE X (.Call (.Attribute (.Name d dp) "setdefault" p1) [.Name k kp, .List [] lp] [] p2) (tDSetd (tVar i) (tVar m) (tLst tNil)) :=
    pe_dsetd ei em (pe_lst pa_nil) ⟨base_ok rfl, back_few (by rfl) (by simp), hl, back_two rfl rfl⟩
  have h2 := pe_bm F.plainAttrs_list F.slot_list_append F.type_list_append mt_append h1 (pa_cons ej pa_nil (star_cons rfl)) (base_ok rfl) (back_few (by rfl) (by simp)) hl2 (star_cons rfl) rfl
  refine PS.weak (ps_expr h2 (no_swap rfl)) fun D σ H h => ?_
  have up : ∀ l, H l = none → tS X G CA cf W L (sdaS i m j) D σ (upd H l (.lst [])) := fun l hl => by
    obtain ⟨S, sr, fr, h⟩ := h
    exact ⟨S, sr.same (sameNew hl), fr, DenS.step (Step.same (sameNew hl)) h⟩
  obtain ⟨a, kvs, κ, x, si, hrd, sm, sj, hkl, q1, q2⟩ := sda_read h
  refine ⟨.ref a, si, a, rfl, .inl ⟨kvs, hrd⟩, kV κ, sm, ?_⟩
  refine ⟨by simp, fun l hln => ?_⟩
  have hal : a ≠ l := fun z => Rd.some hrd (z ▸ hln)
  cases hv : valV kvs κ with
  | some w =>
    obtain ⟨hown, _⟩ := q1 w hv
    refine ⟨kvs, κ, by rw [upd_ne hal]; exact hown, rfl, hkl, ⟨fun v hv' => ?_, fun z => by rw [hv] at z; cases z⟩⟩
    rw [hv] at hv'
    cases hv'
    obtain ⟨a', kvs', κ', x', si', hrd', sm', sj', _, q1', _⟩ := sda_read (up l hln)
    rw [si] at si'; cases si'
    rw [sm] at sm'
    have ek : κ = κ' := L2.kV_inj (Option.some.inj (Option.some.inj sm'))
    subst ek
    have e1 : kvs' = kvs := by
      rcases hrd' with z | ⟨o, z⟩ <;> (rw [upd_ne hal, hown] at z; cases z)
      rfl
    subst e1
    obtain ⟨_, l2, ws, rfl, e2, e3, e4⟩ := q1' w hv
    exact ⟨.inl ⟨rfl, ws, .of e2⟩, x', sj', l2, ws, x', rfl, rfl, e2, e3, e4⟩
  | none =>
    obtain ⟨hown, e4⟩ := q2 hv l hln
    refine ⟨kvs, κ, by rw [upd_ne hal]; exact hown, rfl, hkl, ⟨fun v hv' => (by rw [hv] at hv'; cases hv'), fun _ => ?_⟩⟩
    have hla : l ≠ a := fun z => hal z.symm
    have e1 : upd (upd H l (.lst [])) a (.dK (putK kvs κ (.ref l))) l = some (.lst []) := by rw [upd_ne hla, upd_same]
    refine ⟨.inl ⟨rfl, [], .of e1⟩, x, sj, l, [], x, rfl, rfl, e1, by rw [SZ_eq]; decide, ?_⟩
    have e2 : upd (upd (upd H l (.lst [])) a (.dK (putK kvs κ (.ref l)))) l (.lst ([] ++ [x])) = upd (upd H l (.lst [x])) a (.dK (putK kvs κ (.ref l))) := by
      funext b
      by_cases h1 : b = l
      · subst h1; rw [upd_same, upd_ne hla, upd_same]; rfl
      · rw [upd_ne h1]
        by_cases h2 : b = a
        · subst h2; rw [upd_same, upd_same]
        · rw [upd_ne h2, upd_ne h1, upd_ne h2, upd_ne h1]
    show D.nx σ _
    rw [e2]; exact e4
end
end Vy

namespace Vy
open PySem PySem.Spec
open PyProof.Rows hiding St
open L2
/-! ## for over what an expression gives that changes things -/
section
variable {X : Cx} {nm : Nm} {G : Glo} {CA : Nat → Addr} {cf : Runs} {W : WX} {L : List Nat}
theorem lstOf_some {d : D} {xs : List D} (h : lstOf d = some xs) : d = .lst xs := by
  cases d <;> first | (cases h; done) | (cases h; rfl)
theorem s_forX {tg : Tg} {g : TG} {x : Xp} {tge iter : Expr} {b : List Stmt} {sa : List S} {pos : Pos} (pas : PassesOwn (model X.prog X.w) X.A X.env X.xe) (hc : X.calm = true) (hg : TgOk X.K CA tg g) (hlen : ∀ i ∈ tg.is, i < X.N.length) (hi : PE X iter (tX X G CA cf W (xnames x ++ L) x)) (pg : PG X tge g)
    (ha : ∀ L, PSs X b (tB X G CA cf W L sa)) (hs : noSet iter = true) : PS X (.For tge iter b [] pos) (tS X G CA cf W L (.forX tg x sa)) := ⟨fun pins s σ H D I ⟨S, sr, fr, h⟩ => by
  have hN : S.length = X.N.length := by rw [sr.len, I.len]
  rw [exS] at h
  cases e : exX G cf (xnames x ++ L) (envOf S) x with
  | exc z ρ1 =>
    rw [e] at h
    refine (ps_for pas hc (pi_list hi) pg (ha L) (fold_no hs)).run pins s σ H D I ⟨S, sr, fr, ?_⟩
    rw [e]
    exact fun S1 H1 cls dd a b c d x => h S1 σ H1 cls dd a b (c.mono fun j hj => List.mem_append_right _ hj) d x
  | bad => rw [e] at h; exact h.elim
  | ok p ρ1 =>
    rw [e] at h
    simp only [onX_ok] at h
    cases hx : lstOf p.1 with
    | none => rw [hx] at h; exact h.elim
    | some xs =>
      rw [hx] at h
      simp only [Option.map_some, osOf_some] at h
      obtain ⟨hJ, h⟩ := h.onJ
      have hd := lstOf_some hx
      obtain ⟨d, n⟩ := p
      simp only at hd
      subst hd
      by_cases hf : full (.lst xs, n) = true
      · rw [if_pos hf] at h
        refine (ps_for pas hc (pi_list hi) pg (ha L) (fold_no hs)).run pins s σ H D I ⟨S, sr, fr, ?_⟩
        rw [e]
        intro S1 v H1 O Z sr1 fr1 st1 he1 xv ho hz
        obtain ⟨a, vs, O', Z', m, rfl, h1, r, hO, hZ⟩ := xv.rep.lst_inv
        refine ⟨a, rfl, ⟨vs, .of h1⟩, ?_⟩
        obtain ⟨Z0, r0, h0⟩ := r.zeroed
        have haN : a ∈ O ++ Z := by
          have := xv.rep
          cases this with
          | lstO _ _ => simp
          | lstZ _ _ => simp
        have hz0 : Z = [] := xv.rep.full (by simpa [full] using hf)
        have l1 : S1.length = S.length := by rw [sr1.len, sr.len]
        have nn : ∀ b ∈ O ++ Z, ¬ Any S1 b := fun b hb => xv.no b (by rw [hz0] at hb; simpa using hb)
        rw [← he1] at h
        exact for_core hg hlen hJ (fun _ l => by rw [l, hN]) (fun _ h => h) sr1 fr1 l1 (st1.mono fun j hj => List.mem_append_right _ hj)
          ⟨vs, Z0, h1, r0, fun b hb => (h0 b hb).elim (fun z => by simp [hO b z]) fun z => by simp [hZ b z], fun b hb => xv.rep.there b hb⟩ (walk_list haN)
          (fun b hb q => nn b hb q.any) (.inr fun b hb ⟨_, q⟩ => nn b hb q.any) (fun b hb => by
            rcases List.mem_append.mp hb with q | q
            · exact (ho b q).imp (fun w => w.any) id
            · exact hz b q) h
      · rw [if_neg hf] at h
        refine (ps_for pas hc (pi_list hi) pg (ha (xnames x ++ L)) (fold_no hs)).run pins s σ H D I ⟨S, sr, fr, ?_⟩
        rw [e]
        intro S1 v H1 O Z sr1 fr1 st1 he1 xv ho hz
        obtain ⟨a, vs, O', Z', m, rfl, h1, r, hO, hZ⟩ := xv.rep.lst_inv
        refine ⟨a, rfl, ⟨vs, .of h1⟩, ?_⟩
        obtain ⟨Z0, r0, h0⟩ := r.zeroed
        have haN : a ∈ O ++ Z := by
          have := xv.rep
          cases this with
          | lstO _ _ => simp
          | lstZ _ _ => simp
        have l1 : S1.length = S.length := by rw [sr1.len, sr.len]
        have n3 : ∀ b ∈ O ++ Z, Any S b ∨ H b = none := fun b hb => by
            rcases List.mem_append.mp hb with q | q
            · exact (ho b q).imp (fun w => w.any) id
            · exact hz b q
        have hP : ∃ vs Z1, H1 a = some (.lst vs) ∧ Reps X.K CA H1 0 xs vs [] Z1 ∧ (∀ b ∈ Z1, b ∈ O ++ Z) ∧ ∀ b ∈ O ++ Z, H1 b ≠ none := ⟨vs, Z0, h1, r0, fun b hb => (h0 b hb).elim (fun z => by simp [hO b z]) fun z => by simp [hZ b z], fun b hb => xv.rep.there b hb⟩
        by_cases hm : mdepL xs = 0
        · rw [if_pos hm, ← he1] at h
          refine for_core hg hlen hJ (fun _ l => by rw [l, hN]) (fun j hj => List.mem_append_right _ hj) sr1 fr1 l1 st1 hP (walk_list haN) (fun b hb q => ?_) (.inl hm) n3 h
          have qa := q.any
          obtain ⟨k, hk, q⟩ := q
          rcases List.mem_append.mp hb with y | y
          · exact xv.no b y qa
          · rcases xv.nz b y with w | w
            · obtain ⟨j, hj, r, hr, y⟩ := w
              rcases List.mem_append.mp y with y | y
              · have := fr1.sep k j b q ⟨r, hr, y⟩
                subst this
                exact hk (List.mem_append_left _ hj)
              · exact fr1.zo k b q j r hr y
            · exact w qa
        · rw [if_neg hm, ← he1] at h
          obtain ⟨S2, sr2, f2, z⟩ := frz_ok (xnames x) sr1 fr1
          rw [← z.env] at h
          have nn : ∀ b ∈ O ++ Z, ¬ Own S2 b := fun b hb ⟨k, q⟩ => by
            have q1 := z.own k b q
            rcases List.mem_append.mp hb with y | y
            · exact xv.no b y q1.any
            · rcases xv.nz b y with w | w
              · exact z.free fr1 w ⟨k, q⟩
              · exact w q1.any
          exact for_core hg hlen hJ (fun _ l => by rw [l, hN]) (fun j hj => List.mem_append_right _ hj) sr2 f2 (z.len.trans l1) (st1.trans z.step) hP (walk_list haN) (fun b hb q => nn b hb q.own) (.inr nn) n3 h⟩
theorem pop_ev {ρ : Env} {j : Nat} : exX G cf L ρ (.mop ⟨j, []⟩ .pop []) = .bad ∨ ∃ q u, j ∉ L ∧ exX G cf L ρ (.mop ⟨j, []⟩ .pop []) = .ok u (setV ρ j q) := by
  rw [exX]
  simp only [rsv_nil, onO_ok, nodeP]
  cases h1 : (ρ[j]?).bind id with
  | none => exact .inl rfl
  | some q =>
  simp only [Option.bind_some, getP, Option.map_some, OX.of_some, evs_nil, onO_ok]
  by_cases h2 : mTy .pop q = true
  case neg => rw [if_neg h2]; exact .inl rfl
  rw [if_pos h2]
  unfold mopX
  by_cases h3 : j ∈ L
  · rw [if_pos h3]; exact .inl rfl
  rw [if_neg h3, h1]
  simp only [Option.bind_some, getP]
  cases h4 : nodeOp .pop q [] with
  | none => exact .inl rfl
  | some u =>
  simp only [Option.bind_some, List.all_nil, if_true]
  unfold chgP
  rw [h1]
  exact .inr ⟨_, u.2, h3, rfl⟩
/-- d.get(w.pop(), []) -/
def getpop (i j : Nat) : Xp := .get (.var i) (.mop ⟨j, []⟩ .pop []) (.lst [])
theorem x_getpop (hu : X.A.units + 1 < cLine) {i j : Nat} {d w : Str} {dp wp gp pp cp lp pos : Pos} (ei : PE X (.Name d dp) (tVar i)) (ej : PE X (.Name w wp) (tP X G CA cf W ⟨j, []⟩)) (hl : (gp.endLine == pos.line) = true) (hl2 : (pp.endLine == cp.line) = true) (hiL : i ∈ L) :
    PE X (.Call (.Attribute (.Name d dp) "get" gp) [.Call (.Attribute (.Name w wp) "pop" pp) [] [] cp, .List [] lp] [] pos) (tX X G CA cf W L (getpop i j)) := by
  refine PE.weak (pe_dget2 hu ei (x_mpop (G := G) (CA := CA) (cf := cf) (W := W) (L := L) ej rfl hl2) (pe_lst pa_nil) ⟨base_ok rfl, back_few (by rfl) (by simp), hl, back_two rfl rfl⟩) fun σ H Q ⟨S, sr, fr, h⟩ => ?_
  unfold getpop at h
  rw [exX] at h
  rcases var_ev (G := G) (cf := cf) (S := S) (i := i) with e' | ⟨ri, hi, e'⟩
  · rw [e'] at h; exact h.elim
  rw [e'] at h
  simp only [onO_ok] at h
  obtain ⟨si1, si2⟩ := sr.rep i _ hi
  refine ⟨ri.v, si1, ?_⟩
  rcases pop_ev (G := G) (cf := cf) (L := L) (ρ := envOf S) (j := j) with e | ⟨qj, k, hjL, e⟩
  · rw [e] at h; exact h.elim
  rw [e] at h
  simp only [OX.bind_ok, ev_lst, evs_nil, Out.bind_ok, List.map_nil, List.length_nil, lvL_nil] at h
  rw [gd_pos (Nat.zero_le _)] at h
  simp only [onO_ok] at h
  cases hm : methD .get (ri.d, 0) [k, (.lst [], 9 + 1)] with
  | none => rw [hm] at h; exact h.elim
  | some r =>
  rw [hm] at h
  simp only [Option.map_some, OX.of_some] at h
  have hij : i ≠ j := fun z => hjL (z ▸ hiL)
  obtain ⟨ks, ds, hd⟩ : ∃ ks ds, ri.d = .dct ks ds := by
    cases hd : ri.d <;> rw [hd] at hm <;> first | exact ⟨_, _, rfl⟩ | (exfalso; cases hm)
  rw [hd] at hm
  obtain ⟨hk, hm⟩ := go_some (show go _ _ = _ from hm)
  obtain ⟨κ, hκ⟩ := Option.isSome_iff_exists.mp hk
  obtain ⟨a, kvs, O', Z', m', ea, hrd, hko, hrs, hO', hZ'⟩ := (hd ▸ si2 : Rep X.K CA H ri.n (.dct ks ds) ri.v ri.O ri.Z).dct_inv
  refine ⟨a, ea, .inl ⟨kvs, hrd⟩, S, sr, fr, ?_⟩
  rw [e]
  intro S1 v H1 O Z sr1 fr1 st1 he1 xv ho hz
  have ev : v = kV κ := vKey_kV hκ xv.rep
  subst ev
  refine ⟨by simp, fun l hl => ?_⟩
  -- the dict's slot as it is now
  obtain ⟨r1, hr1, hd1⟩ : ∃ r1 : Root, S1[i]? = some (some r1) ∧ r1.d = .dct ks ds := by
    have h1 : ((envOf S1)[i]?).bind id = ((envOf S)[i]?).bind id := by rw [he1]; unfold setV; rw [List.getElem?_set_ne (Ne.symm hij)]
    rw [envOf_get, envOf_get, hi] at h1
    cases h2 : S1[i]? with
    | none => rw [h2] at h1; cases h1
    | some o => rw [h2] at h1; cases o with
      | none => cases h1
      | some r1 =>
        simp only [Option.bind_some, id, Option.map_some, Option.some.injEq, Prod.mk.injEq] at h1
        exact ⟨r1, rfl, by rw [h1.1, hd]⟩
  obtain ⟨s1, s2⟩ := sr1.rep i _ hr1
  rw [si1] at s1
  have ev1 : ri.v = r1.v := Option.some.inj (Option.some.inj s1)
  obtain ⟨a1, kvs1, O1, Z1, m1, ea1, hrd1, hko1, hrs1, hO1, hZ1⟩ := (hd1 ▸ s2 : Rep X.K CA H1 r1.n (.dct ks ds) r1.v r1.O r1.Z).dct_inv
  have eaa : a1 = a := by
    rw [← ev1, ea] at ea1
    cases ea1; rfl
  subst eaa
  have hal : a1 ≠ l := fun z => Rd.some hrd1 (z ▸ hl)
  have sm : Same H1 (upd H1 l (.lst [])) := sameNew hl
  obtain ⟨f1, f2, _⟩ := dct_find hκ hko1.1 hrs1
  refine ⟨_, .inl ⟨kvs1, κ, Rd.keep (F := []) hrd1 (keepS sm) (by simp), rfl, rfl⟩, ?_⟩
  have st2 : Step cf.io L S H S1 (upd H1 l (.lst [])) := st1.trans (Step.same sm)
  cases hf : (ks.zip ds).find? fun p => pyEq p.1 k.1 with
  | none =>
    rw [hf] at hm
    cases hm
    rw [f2 hf]
    refine h S1 (.ref l) _ [l] [] (sr1.same sm) fr1 st2 he1 ⟨.lstO upd_same .nil, by simp, by simp, fun b hb w => ?_, by simp⟩ (fun b hb => ?_) (by simp)
    · simp at hb; subst hb; exact sr1.any w hl
    · simp at hb; subst hb; exact .inr (st1.none hl)
  | some q =>
    rw [hf] at hm
    cases hm
    obtain ⟨w, O2, Z2, q1, q2, q3, q4⟩ := f1 q hf
    rw [q1]
    obtain ⟨O3, Z3, q5, lw⟩ := q2.low (Nat.zero_le _)
    have := q5.zero
    subst this
    have inS : ∀ b ∈ Z3, b ∈ r1.O ++ r1.Z := fun b hb => by
      rcases lw.all b hb with z | z
      · simp [hO1 b (q3 b z)]
      · simp [hZ1 b (q4 b z)]
    refine h S1 w _ [] Z3 (sr1.same sm) fr1 st2 he1 ⟨(q5.un0).same sm, by simp, by simp, by simp, fun b hb => .inl ⟨i, by simp [xnames, names], r1, hr1, inS b hb⟩⟩ (by simp) fun b hb => ?_
    exact st1.any b ⟨i, r1, hr1, inS b hb⟩
end
section
variable {sc : Scope} {X : Cx} {nm : Nm} {G : Glo} {CA : Nat → Addr} {cf : Runs} {np : Nat → Option Nat} {bl : List Str} {W : WX} {L : List Nat}
/-- for t in d.get(w.pop(), []) -/
theorem z_forPop (B : En sc X nm G CA cf np bl W) (pas : PassesOwn (model X.prog X.w) X.A X.env X.xe) (t i j : Nat) {x d w : Str} {b : List Stmt} {sa : List S} {xp dp wp gp pp cp lp fp pos : Pos} (hx : nm.N[t]? = some x) (hi : nm.N[i]? = some d) (hj : nm.N[j]? = some w) (hl : locB sc x = true) (vi : visB sc d = true) (vj : visB sc w = true) (gi : dbg d = true) (gj : dbg w = true)
    (hl1 : (gp.endLine == fp.line) = true) (hl2 : (pp.endLine == cp.line) = true) (ha : ∀ L, PSs X b (tB X G CA cf W L sa)) :
    PS X (.For (.Name x xp) (.Call (.Attribute (.Name d dp) "get" gp) [.Call (.Attribute (.Name w wp) "pop" pp) [] [] cp, .List [] lp] [] fp) b [] pos) (tS X G CA cf W L (.forX (.one t) (getpop i j) sa)) := by
  obtain ⟨k0, hr, _⟩ := B.cx.lev
  have ei : PE X (.Name d dp) (tVar i) := pe_var (by rw [B.cx.N]; exact hi) (B.vis vi) (dbg_ok gi).1 (dbg_ok gi).2.1
  have ej : PE X (.Name w wp) (tP X G CA cf W ⟨j, []⟩) := p_var (by rw [B.cx.N]; exact hj) (B.vis vj) (dbg_ok gj).1 (dbg_ok gj).2.1
  exact s_forX pas B.cx.calm tg_one (fun j' hj' => by simp [Tg.is] at hj'; subst hj'; rw [B.cx.N]; exact (List.getElem?_eq_some_iff.mp hx).1) (x_getpop (hu_of hr) ei ej hl1 hl2 (by simp [getpop, xnames, names])) (g_one B.so B.cx.nd (by rw [B.cx.N]; exact hx) (loc_or hl)) ha rfl
end
end Vy

namespace Vy
open PySem PySem.Spec
open PyProof.Rows hiding St
open L2
/-! ## sorted -/
section
variable {X : Cx} {nm : Nm} {G : Glo} {CA : Nat → Addr} {cf : Runs} {W : WX} {sc : Scope} {np : Nat → Option Nat} {bl : List Str}
theorem strs_keys : ∀ {ks : List D} {ss : List Cs} {kvs : List (Key × V)}, strsOf ks = some ss → ks.map vKey = kvs.map (fun p => some p.1) → kvs.map (·.1) = ss.map fun s => Sum.inr (mkS s)
  | [], ss, [], h, _ => by cases h; rfl
  | [], _, _ :: _, _, h => by simp at h
  | _ :: _, _, [], _, h => by simp at h
  | k :: ks, ss, p :: kvs, h, h2 => by
    cases k <;> first | (cases h; done) | skip
    rename_i s
    obtain ⟨r, hr, rfl⟩ := Option.map_eq_some_iff.mp (show (strsOf ks).map (s :: ·) = some ss from h)
    simp only [List.map_cons, List.cons.injEq] at h2 ⊢
    have e := h2.1
    simp only [vKey, Option.some.injEq] at e
    exact ⟨e.symm, strs_keys hr h2.2⟩
theorem strs_mem : ∀ {ks : List D} {ss : List Cs}, strsOf ks = some ss → ∀ s ∈ ss, D.str s ∈ ks
  | [], ss, h, s, hs => by cases h; cases hs
  | k :: ks, ss, h, s, hs => by
    cases k <;> first | (cases h; done) | skip
    rename_i t
    obtain ⟨r, hr, rfl⟩ := Option.map_eq_some_iff.mp (show (strsOf ks).map (t :: ·) = some ss from h)
    rcases List.mem_cons.mp hs with rfl | hs
    · simp
    · exact List.mem_cons_of_mem _ (strs_mem hr s hs)
theorem c_sorted {σ0 : St} {k : Nat} (hc : X.calm = true) (hr : Room k X.A) : CallR X (.builtin "sorted") (rC X CA W σ0 .sorted) := by
  refine CallR.one (CallR.or (cr_sortedC hr) (cr_sortedD hc hr)) (one_no (fun p q r => by obtain ⟨d, n⟩ := p; cases d <;> rfl) rfl) fun d n x H0 H M Ox Zx z Q pv hz hd => ?_
  have fin : ∀ {ss : List Cs} {p : Addr}, z = (.lst ((ss.mergeSort leS).map .str), 9) → (∀ s ∈ ss, Bd s) → H p = none → Q (.ref p) (upd H p (.lst ((ss.mergeSort leS).map fun s => V.str (mkS s)))) := fun {ss p} ez hb hp => by
    subst ez
    obtain ⟨O, Z, pp⟩ := PVal.newList pv.same (strs_reps (K := X.K) (CA := CA) (H := H) (ss.mergeSort leS) fun s hs => hb s ((List.mergeSort_perm ss leS).subset hs)) (by simp) hp (M := M)
    rw [lv1_strs] at pp
    exact hd _ _ _ _ pp
  cases d <;> first | (cases hz; done) | skip
  · rename_i xs
    obtain ⟨ss, hs, ez⟩ := Option.map_eq_some_iff.mp (show (strsOf xs).map _ = some z from hz)
    obtain ⟨a, vs, Z0, rfl, h1, r, _⟩ := pv.lst_inv
    obtain ⟨e, hb⟩ := str_list r hs
    subst e
    exact .inl ⟨a, ss, rfl, .of h1, fun p hp => fin ez.symm hb hp⟩
  · rename_i ks vs
    obtain ⟨ss, hs, ez⟩ := Option.map_eq_some_iff.mp (show (strsOf ks).map _ = some z from hz)
    obtain ⟨a, kvs, O', Z', m, rfl, h1, h2, _⟩ := pv.rep.dct_inv
    exact .inr ⟨a, kvs, ss, rfl, h1, strs_keys hs h2.1, fun p hp => fin ez.symm (fun s hs' => h2.2.2 s (strs_mem hs s hs')) hp⟩
theorem x_sorted {cs : List C} {e : Expr} {es : List Expr} {p pos : Pos} (B : En sc X nm G CA cf np bl W) (hb : bl.contains ("sorted" : Str) = true) (h : gloB sc "sorted" = true) (hs : (e :: es).all noStar = true) (ha : PA X (e :: es) (tL X G CA cf W cs)) :
    PE X (.Call (.Name "sorted" p) (e :: es) [] pos) (tE X G CA cf W (.bif .sorted cs)) := by
  obtain ⟨k, hr, _⟩ := B.cx.lev
  refine ⟨fun pins s σ H Q I ⟨S, sr, h'⟩ => ?_⟩
  have hm := B.cx.blt ("sorted" : Str) (by simpa using hb)
  have hr := c_sorted (X := X) (CA := CA) (W := W) (σ0 := σ) B.cx.calm hr
  rw [List.all_cons, Bool.and_eq_true] at hs
  rw [ev] at h'
  have key : tCB (rC X CA W σ .sorted) (tL X G CA cf W cs) σ H Q := ⟨S, sr, DenL.seq (Same.refl H) h' fun ps vs H2 O Z e1 s2 pv hd => ⟨H, _, ps, O, Z, s2, pv, hd⟩⟩
  exact (pe_callB hr (B.gl h) hm (by decide +kernel) ha (by decide) (by decide) (star_cons hs.1) (back_any hs.2)).run pins s σ H Q I key
end
end Vy

namespace Vy
open PySem PySem.Spec
open PyProof.Rows hiding St
open L2
/-! ## calls that lend whole slots -/
section
variable {K : PySem.W.Frag} {CA : Nat → Addr}
/-- the arguments as they lie -/
inductive AwV (K : PySem.W.Frag) (CA : Nat → Addr) (S : Slots) (H H2 : Hp) : List Aw → List (D × Nat) → List V → Prop
  | nil : AwV K CA S H H2 [] [] []
  | pu {c : C} {d : D} {v : V} {Z : List Addr} {as ps vs} : Rep K CA H2 0 d v [] Z → (∀ a ∈ Z, H a = none ∨ Nod S (names c) a) → AwV K CA S H H2 as ps vs → AwV K CA S H H2 (.pu c :: as) (norm (d, 0) :: ps) (v :: vs)
  | io {i : Nat} {r : Root} {as ps vs} : S[i]? = some (some r) → AwV K CA S H H2 as ps vs → AwV K CA S H H2 (.io i :: as) (norm (r.d, r.n) :: ps) (r.v :: vs)
theorem AwV.later {S : Slots} {H H1 H2 : Hp} (s : Same H1 H2) {as : List Aw} {ps : List (D × Nat)} {vs : List V} (h : AwV K CA S H H1 as ps vs) : AwV K CA S H H2 as ps vs := by
  induction h with
  | nil => exact .nil
  | pu r z _ ih => exact .pu (r.same s) z ih
  | io e _ ih => exact .io e ih
theorem AwV.ahead {S : Slots} {H H1 H2 : Hp} (s : Same H H1) {as : List Aw} {ps : List (D × Nat)} {vs : List V} (h : AwV K CA S H1 H2 as ps vs) : AwV K CA S H H2 as ps vs := by
  induction h with
  | nil => exact .nil
  | pu r z _ ih => exact .pu r (fun a ha => (z a ha).imp (same_none s) id) ih
  | io e _ ih => exact .io e ih
/-- one of the callee's roots: a value, or what is lent -/
def AwRt (K : PySem.W.Frag) (CA : Nat → Addr) (S : Slots) (H H2 : Hp) (is : List Nat) : Aw → Root → Prop
  | .pu c, r => Rep K CA H2 r.n r.d r.v r.O r.Z ∧ r.O = [] ∧ (r.d.mdep = 0 → r.Z = []) ∧ ∀ a ∈ r.Z, H a = none ∨ Nod S (names c) a
  | .io i, r => ∃ r0 : Root, S[i]? = some (some r0) ∧ r.v = r0.v ∧ r.O = r0.O ∧ r.Z = r0.Z
theorem aw_roots {S : Slots} {H H2 : Hp} {as : List Aw} {ps : List (D × Nat)} {vs : List V} (h : AwV K CA S H H2 as ps vs) {σ : St} (sr : SRep K CA S σ H2) (is : List Nat) :
    ∃ rs : List Root, rs.map (fun r => (r.d, r.n)) = ps ∧ rs.map (·.v) = vs ∧ rs.length = as.length ∧ (∀ (t : Nat) (r : Root), rs[t]? = some r → Rep K CA H2 r.n r.d r.v r.O r.Z) ∧ ∀ (t : Nat) (a : Aw) (r : Root), as[t]? = some a → rs[t]? = some r → AwRt K CA S H H2 is a r := by
  induction h with
  | nil => exact ⟨[], rfl, rfl, rfl, by simp, by simp⟩
  | @pu c d v Z as ps vs r z _ ih =>
    obtain ⟨rs, h1, h2, h3, h4, h5⟩ := ih
    obtain ⟨Z', rr, hz, hz0⟩ : ∃ Z', Rep K CA H2 (norm (d, 0)).2 d v [] Z' ∧ (∀ a ∈ Z', a ∈ Z) ∧ (d.mdep = 0 → Z' = []) := by
      by_cases hm : d.mdep = 0
      · obtain ⟨_, _, q⟩ := r.imm (m := 9) hm
        exact ⟨[], by simpa [norm, hm] using q, by simp, fun _ => rfl⟩
      · exact ⟨Z, by simpa [norm, hm] using r, fun a h => h, fun h => absurd h hm⟩
    refine ⟨⟨d, (norm (d, 0)).2, v, [], Z'⟩ :: rs, ?_, by rw [List.map_cons, h2], by simp [h3], fun t x e => ?_, fun t a x e1 e2 => ?_⟩
    · rw [List.map_cons, h1]
      show (d, (norm (d, 0)).2) :: ps = _
      rw [show norm (d, 0) = ((norm (d, 0)).1, (norm (d, 0)).2) from rfl, norm_fst]
    · cases t with
      | zero => cases e; exact rr
      | succ t => exact h4 t x (by simpa using e)
    · cases t with
      | zero => cases e1; cases e2; exact ⟨rr, rfl, hz0, fun a ha => z a (hz a ha)⟩
      | succ t => exact h5 t a x (by simpa using e1) (by simpa using e2)
  | @io i r as ps vs e _ ih =>
    obtain ⟨rs, h1, h2, h3, h4, h5⟩ := ih
    obtain ⟨_, rep⟩ := sr.rep i r e
    refine ⟨⟨r.d, (norm (r.d, r.n)).2, r.v, r.O, r.Z⟩ :: rs, ?_, by rw [List.map_cons, h2], by simp [h3], fun t x e => ?_, fun t a x e1 e2 => ?_⟩
    · rw [List.map_cons, h1]
      show (r.d, (norm (r.d, r.n)).2) :: ps = _
      rw [show norm (r.d, r.n) = ((norm (r.d, r.n)).1, (norm (r.d, r.n)).2) from rfl, norm_fst]
    · cases t with
      | zero => cases e; exact norm_rep rep
      | succ t => exact h4 t x (by simpa using e)
    · cases t with
      | zero => cases e1; cases e2; exact ⟨r, e, rfl, rfl, rfl⟩
      | succ t => exact h5 t a x (by simpa using e1) (by simpa using e2)
theorem awSep_at {is : List Nat} : ∀ {as : List Aw} {ps : List (D × Nat)}, as.length = ps.length → awSep is as ps = true → ∀ (t : Nat) (c : C) (p : D × Nat), as[t]? = some (.pu c) → ps[t]? = some p → p.1.mdep = 0 ∨ ∀ i ∈ is, i ∉ names c
  | [], _, _, _, t, c, p, h, _ => by simp at h
  | _ :: _, [], h, _, _, _, _, _, _ => by simp at h
  | .pu c0 :: as, p0 :: ps, hl, h, t, c, p, h1, h2 => by
    rw [awSep, Bool.and_eq_true, Bool.or_eq_true] at h
    cases t with
    | zero =>
      cases h1; cases h2
      refine h.1.imp (by simp) fun z i hi => ?_
      have := List.all_eq_true.mp z i hi
      simpa using this
    | succ t => exact awSep_at (by simpa using hl) h.2 t c p (by simpa using h1) (by simpa using h2)
  | .io i0 :: as, p0 :: ps, hl, h, t, c, p, h1, h2 => by
    rw [awSep] at h
    cases t with
    | zero => cases h1
    | succ t => exact awSep_at (by simpa using hl) h t c p (by simpa using h1) (by simpa using h2)
theorem awImm_at : ∀ {as : List Aw} {ps : List (D × Nat)}, as.length = ps.length → awImm as ps = true → ∀ (t : Nat) (c : C) (p : D × Nat), as[t]? = some (.pu c) → ps[t]? = some p → p.1.mdep = 0
  | [], _, _, _, t, c, p, h, _ => by simp at h
  | _ :: _, [], h, _, _, _, _, _, _ => by simp at h
  | .pu c0 :: as, p0 :: ps, hl, h, t, c, p, h1, h2 => by
    rw [awImm, Bool.and_eq_true] at h
    cases t with
    | zero => cases h1; cases h2; simpa using h.1
    | succ t => exact awImm_at (by simpa using hl) h.2 t c p (by simpa using h1) (by simpa using h2)
  | .io i0 :: as, p0 :: ps, hl, h, t, c, p, h1, h2 => by
    rw [awImm] at h
    cases t with
    | zero => cases h1
    | succ t => exact awImm_at (by simpa using hl) h t c p (by simpa using h1) (by simpa using h2)
/-- the slots lent, by the places at which they are handed in -/
theorem aw_pos : ∀ (as : List Aw) (k : Nat), (Aw.pos k as).length = (Aw.ios as).length ∧ (∀ (m t i : Nat), (Aw.pos k as)[m]? = some t → (Aw.ios as)[m]? = some i → k ≤ t ∧ as[t - k]? = some (.io i)) ∧ (∀ (t i : Nat), as[t]? = some (.io i) → ∃ m : Nat, (Aw.pos k as)[m]? = some (k + t) ∧ (Aw.ios as)[m]? = some i)
  | [], k => ⟨rfl, by simp [Aw.pos], by simp⟩
  | .pu c :: as, k => by
    obtain ⟨h1, h2, h3⟩ := aw_pos as (k + 1)
    refine ⟨h1, fun m t i a b => ?_, fun t i a => ?_⟩
    · obtain ⟨g1, g2⟩ := h2 m t i a b
      refine ⟨by omega, ?_⟩
      rw [show t - k = (t - (k + 1)) + 1 by omega]
      simpa using g2
    · cases t with
      | zero => cases a
      | succ t =>
        obtain ⟨m, g1, g2⟩ := h3 t i (by simpa using a)
        exact ⟨m, by rw [show k + (t + 1) = k + 1 + t by omega]; exact g1, g2⟩
  | .io j :: as, k => by
    obtain ⟨h1, h2, h3⟩ := aw_pos as (k + 1)
    refine ⟨by simp [Aw.pos, Aw.ios, h1], fun m t i a b => ?_, fun t i a => ?_⟩
    · cases m with
      | zero =>
        simp only [Aw.pos, Aw.ios, List.getElem?_cons_zero, Option.some.injEq] at a b
        subst a; subst b
        exact ⟨Nat.le_refl _, by simp⟩
      | succ m =>
        obtain ⟨g1, g2⟩ := h2 m t i (by simpa [Aw.pos] using a) (by simpa [Aw.ios] using b)
        refine ⟨by omega, ?_⟩
        rw [show t - k = (t - (k + 1)) + 1 by omega]
        simpa using g2
    · cases t with
      | zero => cases a; exact ⟨0, by simp [Aw.pos], by simp [Aw.ios]⟩
      | succ t =>
        obtain ⟨m, g1, g2⟩ := h3 t i (by simpa using a)
        exact ⟨m + 1, by simp only [Aw.pos, List.getElem?_cons_succ]; rw [show k + (t + 1) = k + 1 + t by omega]; exact g1, by simpa [Aw.ios] using g2⟩
theorem iosOf_at : ∀ {io : List Nat} {ρ : Env} {qs : List (D × Nat)}, iosOf io ρ = some qs → qs.length = io.length ∧ ∀ (m t : Nat) (q : D × Nat), io[m]? = some t → qs[m]? = some q → (ρ[t]?).bind id = some q
  | [], _, _, h => by cases h; exact ⟨rfl, by simp⟩
  | i :: r, ρ, qs, h => by
    obtain ⟨p, hp, h⟩ := Option.bind_eq_some_iff.mp (show ((ρ[i]?).bind id).bind _ = some qs from h)
    obtain ⟨l, hl, rfl⟩ := Option.map_eq_some_iff.mp h
    obtain ⟨h1, h2⟩ := iosOf_at hl
    refine ⟨by simp [h1], fun m t q a b => ?_⟩
    cases m with
    | zero => cases a; cases b; exact hp
    | succ m => exact h2 m t q (by simpa using a) (by simpa using b)
/-- the slots with what came back -/
def putRs : Slots → List (Nat × Root) → Slots
  | S, [] => S
  | S, p :: r => putRs (S.set p.1 (some ⟨p.2.d, (norm (p.2.d, p.2.n)).2, p.2.v, p.2.O, p.2.Z⟩)) r
theorem putRs_len : ∀ (l : List (Nat × Root)) (S : Slots), (putRs S l).length = S.length
  | [], _ => rfl
  | p :: r, S => by rw [putRs, putRs_len r]; simp
theorem putRs_env : ∀ (l : List (Nat × Root)) (S : Slots), envOf (putRs S l) = setL (envOf S) (l.map (·.1)) (l.map fun p => (p.2.d, p.2.n))
  | [], S => by rw [putRs, List.map_nil, setL] <;> simp
  | p :: r, S => by
    rw [putRs, putRs_env r, List.map_cons, List.map_cons, setL]
    congr 1
    unfold envOf setV
    rw [List.map_set]
    congr 2
    show some (p.2.d, (norm (p.2.d, p.2.n)).2) = _
    rw [show norm (p.2.d, p.2.n) = ((norm (p.2.d, p.2.n)).1, (norm (p.2.d, p.2.n)).2) from rfl, norm_fst]
theorem putRs_get : ∀ (l : List (Nat × Root)) (S : Slots), (l.map (·.1)).Nodup → ∀ (k : Nat) (r : Root), (putRs S l)[k]? = some (some r) → (∃ r0 : Root, (k, r0) ∈ l ∧ k < S.length ∧ r = ⟨r0.d, (norm (r0.d, r0.n)).2, r0.v, r0.O, r0.Z⟩) ∨ (k ∉ l.map (·.1) ∧ S[k]? = some (some r))
  | [], S, _, k, r, h => .inr ⟨by simp, h⟩
  | p :: l, S, nd, k, r, h => by
    rw [List.map_cons, List.nodup_cons] at nd
    rw [putRs] at h
    rcases putRs_get l _ nd.2 k r h with ⟨r0, h1, h2, h3⟩ | ⟨h1, h2⟩
    · exact .inl ⟨r0, List.mem_cons_of_mem _ h1, by simpa using h2, h3⟩
    · by_cases e : p.1 = k
      · subst e
        by_cases hk : p.1 < S.length
        · rw [List.getElem?_set_self hk] at h2
          cases h2
          exact .inl ⟨p.2, by simp, hk, rfl⟩
        · rw [List.getElem?_eq_none (by simpa using hk)] at h2; cases h2
      · rw [List.getElem?_set_ne e] at h2
        exact .inr ⟨by simp only [List.map_cons, List.mem_cons, not_or]; exact ⟨fun z => e z.symm, h1⟩, h2⟩
/-- behind the call: the slots, and what is kept -/
theorem iow_back {S : Slots} {σ : St} {H H2 H' : Hp} {J L : List Nat} {as : List Aw} {ps : List (D × Nat)} {vs : List V} {rs : List Root} {A' : Slots} {qs : List (D × Nat)} (sr : SRep K CA S σ H2) (fr : Fr S) (sm : Same H H2) (hS : ∀ a, Any S a → H a ≠ none)
    (hnd : (Aw.ios as).Nodup) (hL : ∀ i ∈ Aw.ios as, i ∉ L) (hsep : awSep (Aw.ios as) as ps = true)
    (h1 : rs.map (fun r => (r.d, r.n)) = ps) (h2 : rs.map (·.v) = vs) (h3 : rs.length = as.length) (h4 : ∀ (t : Nat) (r : Root), rs[t]? = some r → Rep K CA H2 r.n r.d r.v r.O r.Z) (h5 : ∀ (t : Nat) (a : Aw) (r : Root), as[t]? = some a → rs[t]? = some r → AwRt K CA S H H2 (Aw.ios as) a r)
    (sr' : SRep K CA A' (vs.map some) H') (fr' : Fr A') (st : Step (Aw.pos 0 as) [] (rs.map some) H2 A' H') (hm : ∀ (i : Nat) (r : Root), A'[i]? = some (some r) → i ∈ Aw.pos 0 as) (hq : iosOf (Aw.pos 0 as) (envOf A') = some qs) (hlen : qs.length = (Aw.ios as).length) (hf : qs.all full = true ∨ awImm as ps = true) :
    ∃ S', SRep K CA S' σ H' ∧ Fr S' ∧ Step J L S H S' H' ∧ envOf S' = setL (envOf S) (Aw.ios as) qs ∧ (∀ a, Any S' a → Any A' a ∨ Any S a) ∧ (∀ a, Own (rs.map some) a → Ou S L a) ∧ (∀ a, Any (rs.map some) a → Any S a ∨ H a = none) ∧ (∀ a, (Own (rs.map some) a ∨ H2 a = none) → ¬ Any A' a → ¬ Any S' a) := by
  have hsv : as.length = ps.length := by rw [← h1, List.length_map, h3]
  obtain ⟨p1, p2, p3⟩ := aw_pos as 0
  -- the callee's own things are the lent slots' own
  have rs_get : ∀ {t : Nat} {r : Root}, (rs.map some)[t]? = some (some r) → rs[t]? = some r := fun h => get_some h
  have as_get : ∀ {t : Nat} {r : Root}, rs[t]? = some r → ∃ a, as[t]? = some a := fun {t r} h => by
    have := (List.getElem?_eq_some_iff.mp h).1
    exact ⟨as[t]'(by omega), List.getElem?_eq_getElem (by omega)⟩
  have own_io : ∀ {t : Nat} {a : Addr}, OwnAt (rs.map some) t a → ∃ i, as[t]? = some (.io i) ∧ OwnAt S i a := fun {t a} ⟨r, e, q⟩ => by
    have er := rs_get e
    obtain ⟨x, hx⟩ := as_get er
    cases x with
    | pu c => rw [(h5 t _ r hx er).2.1] at q; simp at q
    | io i =>
      obtain ⟨r0, e0, _, eO, _⟩ := h5 t _ r hx er
      exact ⟨i, hx, r0, e0, eO ▸ q⟩
  have mem_io : ∀ {t i : Nat}, as[t]? = some (.io i) → i ∈ Aw.ios as := fun {t i} h => by
    obtain ⟨m, _, e⟩ := p3 t i h
    exact List.mem_of_getElem? e
  have ownS : ∀ a, Own (rs.map some) a → Ou S L a := fun a ⟨t, q⟩ => by
    obtain ⟨i, hi, w⟩ := own_io q
    exact ⟨i, hL i (mem_io hi), w⟩
  have anyS : ∀ a, Any (rs.map some) a → Any S a ∨ H a = none := fun a ⟨t, r, e, q⟩ => by
    have er := rs_get e
    obtain ⟨x, hx⟩ := as_get er
    cases x with
    | pu c =>
      obtain ⟨_, eO, _, z⟩ := h5 t _ r hx er
      rw [eO] at q
      exact (z a (by simpa using q)).elim .inr fun w => .inl w.any
    | io i =>
      obtain ⟨r0, e0, _, eO, eZ⟩ := h5 t _ r hx er
      exact .inl ⟨i, r0, e0, by rw [← eO, ← eZ]; exact q⟩
  -- what came back, by slots
  obtain ⟨q1, q2⟩ := iosOf_at hq
  have ex : ∀ m : Nat, m < (Aw.ios as).length → ∃ (t i : Nat) (r : Root), (Aw.pos 0 as)[m]? = some t ∧ (Aw.ios as)[m]? = some i ∧ as[t]? = some (.io i) ∧ A'[t]? = some (some r) ∧ qs[m]? = some (r.d, r.n) := fun m hm' => by
    have e1 : (Aw.ios as)[m]? = some (Aw.ios as)[m] := List.getElem?_eq_getElem hm'
    have hp : m < (Aw.pos 0 as).length := by omega
    have e2 : (Aw.pos 0 as)[m]? = some (Aw.pos 0 as)[m] := List.getElem?_eq_getElem hp
    have hqm : m < qs.length := by omega
    have e3 : qs[m]? = some qs[m] := List.getElem?_eq_getElem hqm
    have e4 := q2 m _ _ e2 e3
    rw [envOf_get] at e4
    obtain ⟨_, e5⟩ := p2 m _ _ e2 e1
    cases e6 : A'[(Aw.pos 0 as)[m]]? with
    | none => rw [e6] at e4; cases e4
    | some o => rw [e6] at e4; cases o with
      | none => cases e4
      | some r => exact ⟨_, _, r, e2, e1, by simpa using e5, e6, by rw [e3, ← Option.some.inj e4]⟩
  obtain ⟨l, l1, l2, l3⟩ : ∃ l : List (Nat × Root), l.map (·.1) = Aw.ios as ∧ l.map (fun p => (p.2.d, p.2.n)) = qs ∧ ∀ p ∈ l, ∃ t : Nat, as[t]? = some (.io p.1) ∧ A'[t]? = some (some p.2) := by
    have go : ∀ n, n ≤ (Aw.ios as).length → ∃ l : List (Nat × Root), l.map (·.1) = (Aw.ios as).take n ∧ l.map (fun p => (p.2.d, p.2.n)) = qs.take n ∧ ∀ p ∈ l, ∃ t : Nat, as[t]? = some (.io p.1) ∧ A'[t]? = some (some p.2) := by
      intro n
      induction n with
      | zero => exact fun _ => ⟨[], by simp, by simp, by simp⟩
      | succ n ih =>
        intro hn
        obtain ⟨l, a1, a2, a3⟩ := ih (by omega)
        obtain ⟨t, i, r, b1, b2, b3, b4, b5⟩ := ex n (by omega)
        refine ⟨l ++ [(i, r)], ?_, ?_, fun p hp => ?_⟩
        · rw [List.map_append, a1, List.take_add_one, b2]; rfl
        · rw [List.map_append, a2, List.take_add_one, b5]; rfl
        · rcases List.mem_append.mp hp with hp | hp
          · exact a3 p hp
          · simp at hp; subst hp; exact ⟨t, b3, b4⟩
    obtain ⟨l, a1, a2, a3⟩ := go _ (Nat.le_refl _)
    exact ⟨l, by rw [a1, List.take_length], by rw [a2, List.take_of_length_le (by omega)], a3⟩
  have lnd : (l.map (·.1)).Nodup := by rw [l1]; exact hnd
  have get := putRs_get l S lnd
  -- the other slots' things stand
  have other : ∀ (k : Nat) (r : Root), k ∉ Aw.ios as → S[k]? = some (some r) → ∀ a ∈ r.O ++ r.Z, ¬ Own (rs.map some) a := fun k r hk e a ha ⟨t, q⟩ => by
    obtain ⟨i, hi, w⟩ := own_io q
    rcases List.mem_append.mp ha with z | z
    · have := fr.sep i k a w ⟨r, e, z⟩
      exact hk (this ▸ mem_io hi)
    · exact fr.zo i a w k r e z
  have kp : Keep (ownL (rs.map some) []) H2 H' := st.keepF
  have fx : Fix (ownL (rs.map some) []) H2 := fun a ha => by
    obtain ⟨t, _, r, e, q⟩ := ownL_mem.mp ha
    exact (h4 t r (rs_get e)).own_mut a q
  have vv : ∀ {t i : Nat} {r : Root}, as[t]? = some (.io i) → A'[t]? = some (some r) → ∃ r0 : Root, S[i]? = some (some r0) ∧ r.v = r0.v := fun {t i r} a b => by
    have e1 := (sr'.rep t r b).1
    rw [List.getElem?_map] at e1
    obtain ⟨v, e2, e3⟩ := Option.map_eq_some_iff.mp e1
    cases e3
    rw [← h2, List.getElem?_map] at e2
    obtain ⟨r1, e4, e5⟩ := Option.map_eq_some_iff.mp e2
    obtain ⟨r0, e6, e7, _⟩ := h5 t _ r1 a e4
    exact ⟨r0, e6, by rw [← e5, e7]⟩
  -- what is back in a lent slot hangs on no other slot's own
  have zfree : ∀ {t i : Nat} {r : Root}, as[t]? = some (.io i) → A'[t]? = some (some r) → ∀ a ∈ r.Z, ∀ k, k ∉ Aw.ios as → ¬ OwnAt S k a := fun {t i r} ha hA a haz k hk w => by
    rcases hf with hf | hf
    · obtain ⟨m, g1, g2⟩ := p3 t i ha
      have hml := (List.getElem?_eq_some_iff.mp g2).1
      obtain ⟨t', i', r', b1, b2, b3, b4, b5⟩ := ex m hml
      rw [g1] at b1
      have : t = t' := by simpa using b1
      subst this
      rw [hA] at b4
      cases b4
      have hfu := List.all_eq_true.mp hf _ (List.mem_of_getElem? b5)
      have := (sr'.rep t r hA).2.full (by simpa [full] using hfu)
      rw [this] at haz; simp at haz
    · rcases st.any a ⟨t, r, hA, by simp [haz]⟩ with ⟨t2, r2, e2, q2⟩ | z
      · have er := rs_get e2
        obtain ⟨x, hx⟩ := as_get er
        cases x with
        | pu c =>
          obtain ⟨_, eO, ez, _⟩ := h5 t2 _ r2 hx er
          have hp : ps[t2]? = some (r2.d, r2.n) := by rw [← h1, List.getElem?_map, er]; rfl
          have := awImm_at hsv hf t2 c _ hx hp
          rw [eO, ez this] at q2; simp at q2
        | io i2 =>
          obtain ⟨r0, e0, _, eO, eZ⟩ := h5 t2 _ r2 hx er
          rw [eO, eZ] at q2
          rcases List.mem_append.mp q2 with y | y
          · have := fr.sep i2 k a ⟨r0, e0, y⟩ w
            exact hk (this ▸ mem_io hx)
          · exact fr.zo k a w i2 r0 e0 y
      · exact hS a w.any (same_none sm z)
  -- own things of what is back, against other slots
  have osep : ∀ {t : Nat} {a : Addr}, OwnAt A' t a → ∀ k, k ∉ Aw.ios as → ∀ r : Root, S[k]? = some (some r) → a ∉ r.O ++ r.Z := fun {t a} w k hk r e ha => by
    have : Own (rs.map some) a ∨ H2 a = none := by
      rcases st.own t a w with z | z | z
      · exact .inl z.own
      · exact .inl z.own
      · exact .inr z
    rcases this with z | z
    · exact other k r hk e a ha z
    · exact hS a ⟨k, r, e, ha⟩ (same_none sm z)
  refine ⟨putRs S l, ?_, ?_, ?_, by rw [putRs_env, l1, l2], ?_, ownS, anyS, ?_⟩
  · refine ⟨by rw [putRs_len]; exact sr.len, fun k r e => ?_⟩
    rcases get k r e with ⟨r0, g1, g2, rfl⟩ | ⟨g1, g2⟩
    · obtain ⟨t, b1, b2⟩ := l3 _ g1
      obtain ⟨r1, c1, c2⟩ := vv b1 b2
      refine ⟨?_, norm_rep (sr'.rep t r0 b2).2⟩
      show σ[k]? = some (some r0.v)
      rw [c2]
      exact (sr.rep k r1 c1).1
    · rw [l1] at g1
      refine ⟨(sr.rep k r g2).1, (sr.rep k r g2).2.keep kp fx fun a ha w => ?_⟩
      exact other k r g1 g2 a ha (ownL_mem.mp w).own
  · have key : ∀ (k : Nat) (r : Root), (putRs S l)[k]? = some (some r) → (k ∈ Aw.ios as ∧ ∃ (t : Nat) (r0 : Root), as[t]? = some (.io k) ∧ A'[t]? = some (some r0) ∧ r.O = r0.O ∧ r.Z = r0.Z) ∨ (k ∉ Aw.ios as ∧ S[k]? = some (some r)) := fun k r e => by
      rcases get k r e with ⟨r0, g1, g2, rfl⟩ | ⟨g1, g2⟩
      · obtain ⟨t, b1, b2⟩ := l3 _ g1
        exact .inl ⟨mem_io b1, t, r0, b1, b2, rfl, rfl⟩
      · rw [l1] at g1; exact .inr ⟨g1, g2⟩
    have uniq : ∀ {t t2 i : Nat}, as[t]? = some (.io i) → as[t2]? = some (.io i) → t = t2 := fun {t t2 i} a b => by
      obtain ⟨m, a1, a2⟩ := p3 t i a
      obtain ⟨m2, b1, b2⟩ := p3 t2 i b
      have hm1 := (List.getElem?_eq_some_iff.mp a2).1
      have hm2 := (List.getElem?_eq_some_iff.mp b2).1
      have : m = m2 := by
        have e1 := (List.getElem?_eq_some_iff.mp a2).2
        have e2 := (List.getElem?_eq_some_iff.mp b2).2
        exact (List.getElem_inj hnd).mp (e1.trans e2.symm)
      subst this
      rw [a1] at b1
      have := Option.some.inj b1
      omega
    refine ⟨fun k r e => ?_, fun k k2 a ⟨r, e, q⟩ ⟨r2, e2, q2⟩ => ?_, fun k a ⟨r, e, q⟩ k2 r2 e2 => ?_⟩
    · rcases key k r e with ⟨_, t, r0, b1, b2, b3, _⟩ | ⟨_, g⟩
      · rw [b3]; exact fr'.nd t r0 b2
      · exact fr.nd k r g
    · rcases key k r e with ⟨g0, t, r0, b1, b2, b3, _⟩ | ⟨g0, g⟩ <;> rcases key k2 r2 e2 with ⟨f0, t2, r02, c1, c2, c3, _⟩ | ⟨f0, f⟩
      · rw [b3] at q; rw [c3] at q2
        have := fr'.sep t t2 a ⟨r0, b2, q⟩ ⟨r02, c2, q2⟩
        subst this
        rw [b1] at c1; cases c1; rfl
      · rw [b3] at q
        exact absurd (by simp [q2]) (osep ⟨r0, b2, q⟩ k2 f0 r2 f)
      · rw [c3] at q2
        exact absurd (by simp [q]) (osep ⟨r02, c2, q2⟩ k g0 r g)
      · exact fr.sep k k2 a ⟨r, g, q⟩ ⟨r2, f, q2⟩
    · rcases key k r e with ⟨g0, t, r0, b1, b2, b3, _⟩ | ⟨g0, g⟩ <;> rcases key k2 r2 e2 with ⟨f0, t2, r02, c1, c2, _, c4⟩ | ⟨f0, f⟩
      · rw [b3] at q; rw [c4]
        exact fr'.zo t a ⟨r0, b2, q⟩ t2 r02 c2
      · rw [b3] at q
        exact fun z => osep ⟨r0, b2, q⟩ k2 f0 r2 f (by simp [z])
      · rw [c4]
        exact fun z => zfree c1 c2 a z k g0 ⟨r, g, q⟩
      · exact fr.zo k a ⟨r, g, q⟩ k2 r2 f
  · refine ⟨fun a o e n => st.keep a o (sm a o e) fun ⟨t, _, q⟩ => n (ownS a q.own), fun a h => st.there a (same_there sm h), fun k a ⟨r, e, q⟩ => ?_, fun a ⟨k, r, e, q⟩ => ?_, fun k _ r e => ?_⟩
    · rcases get k r e with ⟨r0, g1, g2, rfl⟩ | ⟨g1, g2⟩
      · obtain ⟨t, b1, b2⟩ := l3 _ g1
        rcases st.own t a ⟨r0, b2, q⟩ with z | z | z
        · obtain ⟨i, hi, w⟩ := own_io z
          rw [b1] at hi; cases hi
          exact .inl w
        · exact .inr (.inl (ownS a z.own))
        · exact .inr (.inr (same_none sm z))
      · exact .inl ⟨r, g2, q⟩
    · rcases get k r e with ⟨r0, g1, g2, rfl⟩ | ⟨g1, g2⟩
      · obtain ⟨t, b1, b2⟩ := l3 _ g1
        rcases st.any a ⟨t, r0, b2, q⟩ with z | z
        · exact anyS a z
        · exact .inr (same_none sm z)
      · exact .inl ⟨k, r, g2, q⟩
    · rcases get k r e with ⟨r0, g1, g2, rfl⟩ | ⟨g1, g2⟩
      · obtain ⟨t, b1, b2⟩ := l3 _ g1
        obtain ⟨r1, c1, c2⟩ := vv b1 b2
        exact ⟨r1, c1, c2.symm⟩
      · exact ⟨r, g2, rfl⟩
  · intro a ⟨k, r, e, q⟩
    rcases get k r e with ⟨r0, g1, g2, rfl⟩ | ⟨g1, g2⟩
    · obtain ⟨t, b1, b2⟩ := l3 _ g1
      exact .inl ⟨t, r0, b2, q⟩
    · exact .inr ⟨k, r, g2, q⟩
  · intro a ha hA ⟨k, r, e, q⟩
    rcases get k r e with ⟨r0, g1, g2, rfl⟩ | ⟨g1, g2⟩
    · obtain ⟨t, b1, b2⟩ := l3 _ g1
      exact hA ⟨t, r0, b2, q⟩
    · rw [l1] at g1
      rcases ha with z | z
      · exact other k r g1 g2 a q z
      · exact hS a ⟨k, r, g2, q⟩ (same_none sm z)
end
section
variable {X : Cx} {nm : Nm} {G : Glo} {CA : Nat → Addr} {cf : Runs} {W : WX} {L : List Nat}
/-- the arguments' texts -/
inductive AwE (X : Cx) (G : Glo) (CA : Nat → Addr) (cf : Runs) (W : WX) : List Expr → List Aw → Prop
  | nil : AwE X G CA cf W [] []
  | pu {e : Expr} {c : C} {es as} : noStar e = true → PE X e (tE X G CA cf W c) → AwE X G CA cf W es as → AwE X G CA cf W (e :: es) (.pu c :: as)
  | io {e : Expr} {i : Nat} {es as} : noStar e = true → PE X e (tVar i) → AwE X G CA cf W es as → AwE X G CA cf W (e :: es) (.io i :: as)
def DenAw (K : PySem.W.Frag) (CA : Nat → Addr) (W : WX) (S : Slots) (as : List Aw) (o : Out (List (D × Nat))) (σ : St) (H : Hp) (Q : List V → Hp → Prop) : Prop := match o with
  | .ok ps => ∀ vs H2, Same H H2 → AwV K CA S H H2 as ps vs → Q vs H2
  | .exc e => ∀ cls dd H', Same H H' → ExRep K CA e cls dd H' → W cls dd σ H'
  | .bad => False
def tAw (X : Cx) (G : Glo) (CA : Nat → Addr) (cf : Runs) (W : WX) (as : List Aw) : TA := fun σ H Q => ∃ S, SRep X.K CA S σ H ∧ DenAw X.K CA W S as (evAw G cf (envOf S) as) σ H Q
theorem pa_aw {es : List Expr} {as : List Aw} (h : AwE X G CA cf W es as) : PA X es (tAw X G CA cf W as) := by
  induction h with
  | nil => exact PA.weak pa_nil fun σ H Q ⟨S, sr, h⟩ => h [] H (Same.refl H) .nil
  | @pu e c es as hs he _ ih =>
    refine PA.weak (pa_cons he ih (star_cons hs)) fun σ H Q ⟨S, sr, h⟩ => ⟨S, sr, ?_⟩
    rw [evAw] at h
    cases e1 : ev G cf (envOf S) c with
    | exc x => rw [e1] at h; exact h
    | bad => rw [e1] at h; exact h
    | ok p =>
      rw [e1] at h
      simp only [Out.bind_ok] at h
      intro v H1 O Z pv
      refine ⟨S, sr.same pv.same, ?_⟩
      cases e2 : evAw G cf (envOf S) as with
      | exc x => rw [e2] at h; exact fun cls dd H' s' r => h cls dd H' (pv.same.trans s') r
      | bad => rw [e2] at h; exact h
      | ok ps =>
        rw [e2] at h
        intro vs H2 s2 av
        obtain ⟨Z', p0⟩ := pv.at0
        exact h _ _ (pv.same.trans s2) (.pu (p0.rep.same s2) p0.zin (av.ahead pv.same))
  | @io e i es as hs he _ ih =>
    refine PA.weak (pa_cons he ih (star_cons hs)) fun σ H Q ⟨S, sr, h⟩ => ?_
    rw [evAw, envOf_get] at h
    cases e1 : S[i]? with
    | none => rw [e1] at h; exact h.elim
    | some o => cases o with
      | none => rw [e1] at h; exact h.elim
      | some r =>
        rw [e1] at h
        simp only [Option.bind_some, id, Option.map_some, Out.of_some, Out.bind_ok] at h
        refine ⟨r.v, (sr.rep i r e1).1, S, sr, ?_⟩
        cases e2 : evAw G cf (envOf S) as with
        | exc x => rw [e2] at h; exact h
        | bad => rw [e2] at h; exact h
        | ok ps =>
          rw [e2] at h
          exact fun vs H2 s2 av => h _ _ s2 (.io e1 av)
theorem AwV.len {K : PySem.W.Frag} {S : Slots} {H H2 : Hp} {as : List Aw} {ps : List (D × Nat)} {vs : List V} (h : AwV K CA S H H2 as ps vs) : as.length = vs.length ∧ as.length = ps.length := by
  induction h with
  | nil => exact ⟨rfl, rfl⟩
  | pu _ _ _ ih => simp [ih.1, ih.2]; rw [← ih.1, ← ih.2]
  | io _ _ ih => simp [ih.1, ih.2]; rw [← ih.1, ← ih.2]
/-- .. what the callee asks -/
theorem iow_read {f : Nat} {as : List Aw} (hne : Aw.pos 0 as ≠ []) {σ : St} {H : Hp} {Q : VK} (h : tX X G CA cf W L (.iow f as) σ H Q) : tAw X G CA cf W as σ H fun vs H2 => spI X.K CA cf.ci as.length (Aw.pos 0 as) f vs H2 Q (fun cls dd H' => W cls dd σ H') := by
  obtain ⟨S, sr, fr, h⟩ := h
  refine ⟨S, sr, ?_⟩
  rw [exX] at h
  unfold iowX at h
  cases e1 : evAw G cf (envOf S) as with
  | exc x => rw [e1] at h; exact fun cls dd H' s r => h S H' cls dd (sr.same s) fr (Step.same s) rfl r
  | bad => rw [e1] at h; exact h
  | ok ps =>
  rw [e1] at h
  simp only [onO_ok] at h
  by_cases hc : (Aw.ios as).Nodup ∧ (∀ i ∈ Aw.ios as, i ∉ L) ∧ awSep (Aw.ios as) as ps = true
  case neg => rw [if_neg hc] at h; exact h.elim
  rw [if_pos hc] at h
  obtain ⟨hnd, hL, hsep⟩ := hc
  intro vs H2 sm av
  obtain ⟨l1, l2⟩ := av.len
  obtain ⟨rs, h1, h2, h3, h4, h5⟩ := aw_roots av (sr.same sm) (Aw.ios as)
  obtain ⟨p1, p2, p3⟩ := aw_pos as 0
  have mem_io : ∀ {t i : Nat}, as[t]? = some (.io i) → i ∈ Aw.ios as := fun {t i} h => by
    obtain ⟨m, _, e⟩ := p3 t i h
    exact List.mem_of_getElem? e
  have uniq : ∀ {t t2 i : Nat}, as[t]? = some (.io i) → as[t2]? = some (.io i) → t = t2 := fun {t t2 i} a b => by
    obtain ⟨m, a1, a2⟩ := p3 t i a
    obtain ⟨m2, b1, b2⟩ := p3 t2 i b
    have : m = m2 := by
      have e1 := (List.getElem?_eq_some_iff.mp a2).2
      have e2 := (List.getElem?_eq_some_iff.mp b2).2
      exact (List.getElem_inj hnd).mp (e1.trans e2.symm)
    subst this
    rw [a1] at b1
    have := Option.some.inj b1
    omega
  have as_get : ∀ {t : Nat} {r : Root}, rs[t]? = some r → ∃ a, as[t]? = some a := fun {t r} h => by
    have := (List.getElem?_eq_some_iff.mp h).1
    exact ⟨as[t]'(by omega), List.getElem?_eq_getElem (by omega)⟩
  have own_io : ∀ {t : Nat} {a : Addr}, OwnAt (rs.map some) t a → ∃ i, as[t]? = some (.io i) ∧ OwnAt S i a := fun {t a} ⟨r, e, q⟩ => by
    have er := get_some e
    obtain ⟨x, hx⟩ := as_get er
    cases x with
    | pu c => rw [(h5 t _ r hx er).2.1] at q; simp at q
    | io i =>
      obtain ⟨r0, e0, _, eO, _⟩ := h5 t _ r hx er
      exact ⟨i, hx, r0, e0, eO ▸ q⟩
  have sr0 : SRep X.K CA (rs.map some) (vs.map some) H2 := ⟨by rw [← h2]; simp, fun t r e => by
    have er := get_some e
    refine ⟨?_, h4 t r er⟩
    rw [← h2, List.map_map, List.getElem?_map, er]; rfl⟩
  have fr0 : Fr (rs.map some) := by
    refine ⟨fun t r e => ?_, fun t t2 a q w => ?_, fun t a q t2 r2 e2 => ?_⟩
    · have er := get_some e
      obtain ⟨x, hx⟩ := as_get er
      cases x with
      | pu c => rw [(h5 t _ r hx er).2.1]; simp
      | io i =>
        obtain ⟨r0, e0, _, eO, _⟩ := h5 t _ r hx er
        rw [eO]; exact fr.nd i r0 e0
    · obtain ⟨i, hi, q⟩ := own_io q
      obtain ⟨i2, hi2, w⟩ := own_io w
      have := fr.sep i i2 a q w
      subst this
      exact uniq hi hi2
    · obtain ⟨i, hi, q⟩ := own_io q
      have er2 := get_some e2
      obtain ⟨x, hx⟩ := as_get er2
      cases x with
      | pu c =>
        obtain ⟨_, _, ez, z⟩ := h5 t2 _ r2 hx er2
        have hp : ps[t2]? = some (r2.d, r2.n) := by rw [← h1, List.getElem?_map, er2]; rfl
        rcases awSep_at l2 hsep t2 c _ hx hp with y | y
        · rw [ez y]; simp
        · intro haz
          rcases z a haz with z | ⟨k, hk, r, e, y2⟩
          · exact sr.own ⟨i, q⟩ z
          · have hki : k ≠ i := fun z => y i (mem_io hi) (z ▸ hk)
            rcases List.mem_append.mp y2 with y2 | y2
            · exact hki (fr.sep k i a ⟨r, e, y2⟩ q)
            · exact fr.zo i a q k r e y2
      | io i2 =>
        obtain ⟨r0, e0, _, _, eZ⟩ := h5 t2 _ r2 hx er2
        rw [eZ]; exact fr.zo i a q i2 r0 e0
  refine ⟨l1.symm, rs, sr0, fr0, ?_⟩
  rw [h1]
  cases e2 : cf.ci f ps with
  | bad => rw [e2] at h; exact h.elim
  | ok p qs =>
    rw [e2] at h
    simp only at h
    by_cases hb : qs.length = (Aw.ios as).length ∧ (qs.all full = true ∨ awImm as ps = true)
    case neg => rw [if_neg hb] at h; exact h.elim
    rw [if_pos hb] at h
    intro A' v H' O Z sr' fr' st hm hq rp o1 o2 nd z1 z2 hfull
    obtain ⟨S', s1, s2, s3, s4, s5, s6, s7, s8⟩ := iow_back (J := cf.io) (L := L) (sr.same sm) fr sm (fun a q => sr.any q) hnd hL hsep h1 h2 h3 h4 h5 sr' fr' st hm hq hb.1 hb.2
    have hz : Z = [] := rp.full (by simpa [full] using hfull hne)
    subst hz
    refine h S' v H' O [] s1 s2 s3 s4 ⟨rp, nd, by simp, fun a ha => s8 a (o2 a ha) (o1 a ha), by simp⟩ (fun a ha => ?_) (by simp)
    exact (o2 a ha).imp (s6 a) (same_none sm)
  | exc x qs =>
    rw [e2] at h
    simp only at h
    by_cases hb : qs.length = (Aw.ios as).length ∧ (qs.all full = true ∨ awImm as ps = true)
    case neg => rw [if_neg hb] at h; exact h.elim
    rw [if_pos hb] at h
    intro A' H' cls dd sr' fr' st hm hq ex
    obtain ⟨S', s1, s2, s3, s4, s5, s6, s7, s8⟩ := iow_back (J := cf.io) (L := L) (sr.same sm) fr sm (fun a q => sr.any q) hnd hL hsep h1 h2 h3 h4 h5 sr' fr' st hm hq hb.1 hb.2
    exact h S' H' cls dd s1 s2 s3 s4 ex
end
section
variable {sc : Scope} {X : Cx} {nm : Nm} {G : Glo} {CA : Nat → Addr} {cf : Runs} {np : Nat → Option Nat} {nio : Nat → Option (Nat × List Nat)} {bl : List Str} {W : WX} {L : List Nat}
/-- f(..), some slots lent -/
theorem x_iow (B : En sc X nm G CA cf np bl W) (I : CtxI X nm CA cf nio) (f n : Nat) {x : Str} {as : List Aw} {e : Expr} {es : List Expr} {p pos : Pos} (hf : nio f = some (n, Aw.pos 0 as)) (hn : as.length = n) (hx : x = nm.fn f) (hmt : nm.mt f = none) (hne : (Aw.pos 0 as).isEmpty = false) (h : gloB sc x = true) (hd : dbg x = true) (hs : (e :: es).all noStar = true)
    (ha : AwE X G CA cf W (e :: es) as) : PE X (.Call (.Name x p) (e :: es) [] pos) (tX X G CA cf W L (.iow f as)) := by
  obtain ⟨k, hr, hF⟩ := I.lev
  obtain ⟨a, fd, ps, h1, h2, h3, h4, h5⟩ := hF f n _ hf
  rw [hmt] at h1
  replace h1 : X.mg (nm.fn f) = some (.ref a) := h1
  rw [← hx] at h1
  rw [List.all_cons, Bool.and_eq_true] at hs
  subst hn
  exact PE.weak (pe_callS h5 hr (B.gl h) h1 h2 h3 (fun σ => passAt B.tk σ) (pa_aw ha) (dbg_ok hd).1 (star_cons hs.1) (back_any hs.2)) fun σ H Q h => iow_read (by intro z; rw [z] at hne; cases hne) h
theorem aw_io (B : En sc X nm G CA cf np bl W) (i : Nat) {x : Str} {p : Pos} {es : List Expr} {as : List Aw} (hi : nm.N[i]? = some x) (v : visB sc x = true) (g : dbg x = true) (hr : AwE X G CA cf W es as) : AwE X G CA cf W (.Name x p :: es) (.io i :: as) :=
  .io rfl (pe_var (by rw [B.cx.N]; exact hi) (B.vis v) (dbg_ok g).1 (dbg_ok g).2.1) hr
theorem tt_not {c : Xp} {e : Expr} {pos : Pos} (h : PT X e (tXT X G CA cf W L c)) : PT X (.UnaryOp .Not e pos) (tXT X G CA cf W L (.not c)) := by
  refine PT.weak (pt_not h) fun σ H Q ⟨S, sr, fr, hd⟩ => ⟨S, sr, fr, ?_⟩
  rw [exX] at hd
  cases e1 : exX G cf L (envOf S) c with
  | ok p ρ =>
    rw [e1] at hd
    cases e2 : truth p.1 with
    | none =>
      simp only [OX.bind_ok, e2] at hd
      exact hd.elim
    | some b =>
      simp only [OX.bind_ok, e2, Option.map_some, OX.of_some] at hd
      obtain ⟨b', hb, hd⟩ := hd
      cases hb
      exact ⟨b, e2, hd⟩
  | exc x ρ => rw [e1] at hd; exact hd
  | bad => rw [e1] at hd; exact hd
theorem z_asgXT (B : En sc X nm G CA cf np bl W) (is : List Nat) {tes : List Expr} {c : Xp} {e : Expr} {px pos : Pos} {kk : Nat} (hn : is.Nodup) (hT : TgNames sc nm.N tes is) (hl : noLc e = true) (hw : swappedStores [.Tuple tes kk px] e X.env = pure none) (he : PE X e (tX X G CA cf W L c)) :
    PS X (.Assign [.Tuple tes kk px] e pos) (tS X G CA cf W L (.asgXT is c)) := by
  rw [← B.cx.N] at hT
  exact s_asgXT (tg_tup hn) hT.lt he (g_tup B.so B.cx.nd B.cx.calm hT) (no_swap (t := some (.Tuple tes kk px)) (l := pos.line) (env := X.env) hl) hw rfl
end
end Vy

namespace Vy
open PySem PySem.Spec
open PyProof.Rows hiding St
open L2
/-! ## x.append((y, list(y))), y given away -/
section
variable {X : Cx} {nm : Nm} {G : Glo} {CA : Nat → Addr} {cf : Runs} {W : WX} {L : List Nat}
theorem amv_read {i j : Nat} {E : Ends} {σ : St} {H : Hp} (h : tS X G CA cf W L (.amv i j) E σ H) :
    ∃ a b ws us, σ[i]? = some (some (V.ref a)) ∧ σ[j]? = some (some (V.ref b)) ∧ H a = some (.lst ws) ∧ ws.length < sizeLine ∧ H b = some (.lst us) ∧ us.length ≤ sizeLine + us.length ∧
      ∀ b' p, H b' = none → H p = none → b' ≠ p → E.nx σ (upd (upd (upd H b' (.lst us)) p (.tup [.ref b, .ref b'])) a (.lst (ws ++ [.ref p]))) := by
  obtain ⟨S, sr, fr, h⟩ := h
  rw [exS] at h
  unfold amvD at h
  rw [envOf_get, envOf_get] at h
  cases ei : S[i]? with
  | none => rw [ei] at h; exact h.elim
  | some o => cases o with
  | none => rw [ei] at h; exact h.elim
  | some ri =>
  cases ej : S[j]? with
  | none => rw [ei, ej] at h; simp only [Option.bind_none, Option.map_none] at h; split at h <;> first | (rename_i z; cases z) | exact h.elim
  | some o => cases o with
  | none => rw [ei, ej] at h; simp only [Option.bind_some, id, Option.map_none] at h; split at h <;> first | (rename_i z; cases z) | exact h.elim
  | some rj =>
  obtain ⟨di, ni, vi, Oi, Zi⟩ := ri
  obtain ⟨dj, nj, vj, Oj, Zj⟩ := rj
  rw [ei, ej] at h
  simp only [Option.bind_some, id, Option.map_some] at h
  obtain ⟨xs, rfl⟩ : ∃ xs, di = .lst xs := by
    cases di <;> first | exact ⟨_, rfl⟩ | (exfalso; exact h.elim)
  obtain ⟨ys, rfl⟩ : ∃ ys, dj = .lst ys := by
    cases dj <;> first | exact ⟨_, rfl⟩ | (exfalso; exact h.elim)
  by_cases hc : i ≠ j ∧ i ∉ L ∧ j ∉ L ∧ j ∉ cf.io ∧ 1 ≤ ni ∧ 1 ≤ nj ∧ mdepL ys = 0 ∧ xs.length + 1 ≤ SZ
  case neg => simp only [if_neg hc] at h; exact h.elim
  simp only [if_pos hc] at h
  obtain ⟨hij, hiL, hjL, hjJ, h1i, h1j, hmy, hxl⟩ := hc
  obtain ⟨si1, si2⟩ := sr.rep i _ ei
  obtain ⟨sj1, sj2⟩ := sr.rep j _ ej
  obtain ⟨ki, a, ws, Oi', e1, rfl, hH, rsi, rfl⟩ := (show Rep X.K CA H ni (.lst xs) vi Oi Zi from si2).lst_own h1i
  obtain ⟨kj, b, us, Oj', e2, rfl, hHb, rsj, rfl⟩ := (show Rep X.K CA H nj (.lst ys) vj Oj Zj from sj2).lst_own h1j
  simp only at e1 e2 si1 sj1
  subst e1; subst e2
  obtain ⟨z1, z2, _⟩ := rsj.imm (m := 0) hmy
  subst z1; subst z2
  refine ⟨a, b, ws, us, si1, sj1, hH, by rw [SZ_eq, ← rsi.length]; omega, hHb, by omega, fun b' p hb' hp hbp => ?_⟩
  have hab : a ≠ b := fun z => hij (fr.sep i j a ⟨_, ei, by simp⟩ ⟨_, ej, by simp [z]⟩)
  have hab' : a ≠ b' := fun z => by rw [z, hb'] at hH; cases hH
  have hap : a ≠ p := fun z => by rw [z, hp] at hH; cases hH
  have hbb' : b ≠ b' := fun z => by rw [z, hb'] at hHb; cases hHb
  have hbp' : b ≠ p := fun z => by rw [z, hp] at hHb; cases hHb
  -- the heap
  generalize hH3 : upd (upd (upd H b' (.lst us)) p (.tup [.ref b, .ref b'])) a (.lst (ws ++ [.ref p])) = H3
  have ga : H3 a = some (.lst (ws ++ [.ref p])) := by rw [← hH3, upd_same]
  have gp : H3 p = some (.tup [.ref b, .ref b']) := by rw [← hH3, upd_ne (Ne.symm hap), upd_same]
  have gb' : H3 b' = some (.lst us) := by rw [← hH3, upd_ne (Ne.symm hab'), upd_ne hbp, upd_same]
  have kp : Keep [a] H H3 := fun x o e n => by
    have hxa : x ≠ a := by simpa using n
    have hxp : x ≠ p := fun z => by rw [z, hp] at e; cases e
    have hxb : x ≠ b' := fun z => by rw [z, hb'] at e; cases e
    rw [← hH3, upd_ne hxa, upd_ne hxp, upd_ne hxb]; exact e
  have gb : H3 b = some (.lst us) := kp b _ hHb (by simpa using Ne.symm hab)
  have th : ∀ x, H x ≠ none → H3 x ≠ none := fun x hx => by
    by_cases e : x = a
    · rw [e, ga]; simp
    · cases e2 : H x with
      | none => exact absurd e2 hx
      | some o => rw [kp x o e2 (by simpa using e)]; simp
  have fx : Fix [a] H := fun x hx => by simp at hx; subst hx; rw [hH]; trivial
  have nda := List.nodup_cons.mp (fr.nd i _ ei)
  have zoa : ∀ x ∈ Zi, x ∉ a :: Oi' := fun x hx w => fr.zo i x ⟨_, ei, w⟩ i _ ei hx
  -- the new row
  have one : ∀ m, Rep X.K CA H3 (m + 1) (.tup [.lst ys, .lst ys]) (.ref p) [b, b'] [] := fun m => by
    obtain ⟨_, _, q⟩ := (rsj.keep kp fx (by simp)).imm (m := m) hmy
    have r1 : Rep X.K CA H3 (m + 1) (.lst ys) (.ref b) [b] [] := .lstO gb q
    have r2 : Rep X.K CA H3 (m + 1) (.lst ys) (.ref b') [b'] [] := .lstO gb' q
    have := Reps.cons r1 (Reps.cons r2 .nil)
    exact .tup (.inl (.inl gp)) (by simpa using this)
  have rsi3 : Reps X.K CA H3 ki xs ws Oi' Zi := rsi.keep kp fx fun x hx w => by
    simp at w; subst w
    rcases List.mem_append.mp hx with z | z
    · exact nda.1 z
    · exact zoa _ z (by simp)
  have hOb : b ∉ Oi' := fun z => hij (fr.sep i j b ⟨_, ei, by simp [z]⟩ ⟨_, ej, by simp⟩)
  have hZb : b ∉ Zi := fun z => fr.zo j b ⟨_, ej, by simp⟩ i _ ei z
  have hOb' : b' ∉ Oi' := fun z => rsi.there b' (by simp [z]) hb'
  have hZb' : b' ∉ Zi := fun z => rsi.there b' (by simp [z]) hb'
  obtain ⟨n3, O3, Z3, en3, rr, hO3, hZ3, nd3, zo3⟩ : ∃ n3 O3 Z3, n3 = lvIn (ki + 1) (.tup [.lst ys, .lst ys], 1) ∧ Rep X.K CA H3 n3 (.lst (xs ++ [.tup [.lst ys, .lst ys]])) (.ref a) O3 Z3 ∧ (∀ x ∈ O3, x = a ∨ x ∈ Oi' ∨ x = b ∨ x = b') ∧ (∀ x ∈ Z3, (x ∈ Oi' ∧ x ∉ O3) ∨ x ∈ Zi ∨ ((x = b ∨ x = b') ∧ x ∉ O3)) ∧ O3.Nodup ∧ ∀ x ∈ Z3, x ∉ O3 := by
    have hmd : (D.tup [.lst ys, .lst ys]).mdep ≠ 0 := by simp [hmy]
    have hmin : lvIn (ki + 1) (.tup [.lst ys, .lst ys], 1) = min ki 1 + 1 := by unfold lvIn; rw [if_neg hmd]; omega
    obtain ⟨O2, Z2, r2, lw⟩ := rsi3.low (Nat.min_le_left ki 1)
    have hO2 : ∀ x ∈ O2, x ∈ Oi' := lw.own
    have nd2 : O2.Nodup := lw.nd nda.2
    have zo2 : ∀ x ∈ Z2, x ∉ O2 := lw.zo nda.2 fun x hx w => zoa x hx (by simp [w])
    cases hk : min ki 1 with
    | zero =>
      rw [hk] at hmin r2
      obtain ⟨O4, Z4, r4, lw4⟩ := (one 0).low (Nat.zero_le _)
      have := r4.zero
      subst this
      have := r2.zero
      subst this
      refine ⟨_, [a], Z2 ++ Z4, rfl, by rw [hmin]; exact .lstO ga (by simpa using r2.append (Reps.cons r4 .nil)), by simp, fun x hx => ?_, by simp, fun x hx w => ?_⟩
      · rcases List.mem_append.mp hx with z | z
        · rcases lw.all x z with y | y
          · exact .inl ⟨y, by simp; exact fun e => nda.1 (e ▸ y)⟩
          · exact .inr (.inl y)
        · rcases lw4.all x z with y | y
          · simp at y
            exact .inr (.inr ⟨y, by simp; rcases y with y | y <;> subst y; exact Ne.symm hab; exact Ne.symm hab'⟩)
          · simp at y
      · simp at w; subst w
        rcases List.mem_append.mp hx with z | z
        · rcases lw.all x z with y | y
          · exact nda.1 y
          · exact zoa x y (by simp)
        · rcases lw4.all x z with y | y
          · simp at y; rcases y with y | y
            · exact hab y
            · exact hab' y
          · simp at y
    | succ m =>
      rw [hk] at hmin r2
      have r5 := r2.append (Reps.cons (one m) .nil)
      refine ⟨_, a :: (O2 ++ ([b, b'] ++ [])), Z2 ++ ([] ++ []), rfl, by rw [hmin]; exact .lstO ga r5, fun x hx => ?_, fun x hx => ?_, ?_, fun x hx w => ?_⟩
      · simp at hx
        rcases hx with z | z | z | z
        · exact .inl z
        · exact .inr (.inl (hO2 x z))
        · exact .inr (.inr (.inl z))
        · exact .inr (.inr (.inr z))
      · simp at hx
        rcases lw.all x hx with y | y
        · refine .inl ⟨y, ?_⟩
          simp only [List.append_nil, List.mem_cons, List.mem_append, not_or]
          exact ⟨fun e => nda.1 (e ▸ y), zo2 x hx, fun e => hOb (e ▸ y), fun e => hOb' (e ▸ y), by simp⟩
        · exact .inr (.inl y)
      · rw [List.append_nil, List.nodup_cons, List.nodup_append]
        refine ⟨?_, nd2, by simp [hbb'], ?_⟩
        · simp only [List.mem_append, List.mem_cons, not_or]
          exact ⟨fun z => nda.1 (hO2 a z), hab, hab', by simp⟩
        · intro x hx y hy e
          subst e
          simp at hy
          rcases hy with e | e
          · exact hOb (e ▸ hO2 x hx)
          · exact hOb' (e ▸ hO2 x hx)
      · simp at hx w
        rcases w with w | w | w | w
        · subst w
          rcases lw.all x hx with y | y
          · exact nda.1 y
          · exact zoa x y (by simp)
        · exact zo2 x hx w
        · subst w
          rcases lw.all x hx with y | y
          · exact hOb y
          · exact hZb y
        · subst w
          rcases lw.all x hx with y | y
          · exact hOb' y
          · exact hZb' y
  have hil : i < S.length := (List.getElem?_eq_some_iff.mp ei).1
  have hil2 : i < (S.set j none).length := by simpa using hil
  have get : ∀ (k : Nat) (r : Root), ((S.set j none).set i (some ⟨.lst (xs ++ [.tup [.lst ys, .lst ys]]), n3, .ref a, O3, Z3⟩))[k]? = some (some r) → (k = i ∧ r = ⟨.lst (xs ++ [.tup [.lst ys, .lst ys]]), n3, .ref a, O3, Z3⟩) ∨ (k ≠ i ∧ k ≠ j ∧ S[k]? = some (some r)) := fun k r e => by
    by_cases hk : i = k
    · subst hk
      rw [List.getElem?_set_self hil2] at e
      cases e
      exact .inl ⟨rfl, rfl⟩
    · rw [List.getElem?_set_ne hk] at e
      by_cases hj : j = k
      · subst hj
        rw [List.getElem?_set_self (List.getElem?_eq_some_iff.mp ej).1] at e
        cases e
      · rw [List.getElem?_set_ne hj] at e
        exact .inr ⟨Ne.symm hk, Ne.symm hj, e⟩
  have oth : ∀ {k : Nat} {r : Root}, k ≠ i → k ≠ j → S[k]? = some (some r) → ∀ x ∈ r.O ++ r.Z, x ≠ a ∧ x ∉ Oi' ∧ x ≠ b ∧ x ≠ b' := fun {k r} hk hj e x hx => by
    have no : ∀ {m : Nat} {y : Addr}, k ≠ m → OwnAt S m y → x ≠ y := fun {m y} hm w z => by
      subst z
      rcases List.mem_append.mp hx with q | q
      · exact hm (fr.sep k m x ⟨r, e, q⟩ w)
      · exact fr.zo m x w k r e q
    exact ⟨no hk ⟨_, ei, by simp⟩, fun z => no hk ⟨_, ei, by simp [z]⟩ rfl, no hj ⟨_, ej, by simp⟩, fun z => (sr.rep k r e).2.there x hx (z ▸ hb')⟩
  refine h ((S.set j none).set i (some ⟨.lst (xs ++ [.tup [.lst ys, .lst ys]]), n3, .ref a, O3, Z3⟩)) σ H3 ⟨by simp [sr.len], fun k r e => ?_⟩ ⟨fun k r e => ?_, fun k k2 x ⟨r, e, q⟩ ⟨r2, e2, q2⟩ => ?_, fun k x ⟨r, e, q⟩ k2 r2 e2 => ?_⟩ ⟨fun x o e n => ?_, th, fun k x ⟨r, e, q⟩ => ?_, fun x ⟨k, r, e, q⟩ => ?_, fun k _ r e => ?_⟩ ?_
  · rcases get k r e with ⟨rfl, rfl⟩ | ⟨hk, hj, e⟩
    · exact ⟨si1, rr⟩
    · refine ⟨(sr.rep k r e).1, (sr.rep k r e).2.keep kp fx fun x hx w => ?_⟩
      simp at w
      exact (oth hk hj e x hx).1 w
  · rcases get k r e with ⟨rfl, rfl⟩ | ⟨hk, hj, e⟩
    · exact nd3
    · exact fr.nd k r e
  · rcases get k r e with ⟨rfl, rfl⟩ | ⟨hk, hj, g1⟩ <;> rcases get k2 r2 e2 with ⟨rfl, rfl⟩ | ⟨hk2, hj2, g2⟩
    · rfl
    · obtain ⟨w1, w2, w3, w4⟩ := oth hk2 hj2 g2 x (by simp [q2])
      rcases hO3 x q with z | z | z | z
      · exact absurd z w1
      · exact absurd z w2
      · exact absurd z w3
      · exact absurd z w4
    · obtain ⟨w1, w2, w3, w4⟩ := oth hk hj g1 x (by simp [q])
      rcases hO3 x q2 with z | z | z | z
      · exact absurd z w1
      · exact absurd z w2
      · exact absurd z w3
      · exact absurd z w4
    · exact fr.sep k k2 x ⟨r, g1, q⟩ ⟨r2, g2, q2⟩
  · rcases get k r e with ⟨rfl, rfl⟩ | ⟨hk, hj, g1⟩ <;> rcases get k2 r2 e2 with ⟨rfl, rfl⟩ | ⟨hk2, hj2, g2⟩
    · exact fun z => zo3 x z q
    · intro hz
      obtain ⟨w1, w2, w3, w4⟩ := oth hk2 hj2 g2 x (by simp [hz])
      rcases hO3 x q with z | z | z | z
      · exact w1 z
      · exact w2 z
      · exact w3 z
      · exact w4 z
    · intro hz
      obtain ⟨w1, w2, w3, w4⟩ := oth hk hj g1 x (by simp [q])
      rcases hZ3 x hz with z | z | z
      · exact w2 z.1
      · exact fr.zo k x ⟨r, g1, q⟩ _ _ ei z
      · rcases z.1 with z | z
        · exact w3 z
        · exact w4 z
    · exact fr.zo k x ⟨r, g1, q⟩ k2 r2 g2
  · exact kp x o e fun z => by
      simp at z; subst z
      exact n ⟨i, hiL, _, ei, by simp⟩
  · rcases get k r e with ⟨rfl, rfl⟩ | ⟨hk, hj, e⟩
    · rcases hO3 x q with z | z | z | z
      · exact .inl ⟨_, ei, by simp [z]⟩
      · exact .inl ⟨_, ei, by simp [z]⟩
      · exact .inr (.inl ⟨j, hjL, _, ej, by simp [z]⟩)
      · exact .inr (.inr (z ▸ hb'))
    · exact .inl ⟨r, e, q⟩
  · rcases get k r e with ⟨rfl, rfl⟩ | ⟨hk, hj, e⟩
    · have bb : x = b ∨ x = b' → Any S x ∨ H x = none := fun z => by
        rcases z with z | z
        · exact .inl ⟨j, _, ej, by simp [z]⟩
        · exact .inr (z ▸ hb')
      have oo : x ∈ Oi' ∨ x ∈ Zi → Any S x ∨ H x = none := fun z => by
        rcases z with z | z
        · exact .inl ⟨_, _, ei, by simp [z]⟩
        · exact .inl ⟨_, _, ei, by simp [z]⟩
      rcases List.mem_append.mp q with q | q
      · rcases hO3 x q with z | z | z
        · exact .inl ⟨_, _, ei, by simp [z]⟩
        · exact oo (.inl z)
        · exact bb z
      · rcases hZ3 x q with z | z | z
        · exact oo (.inl z.1)
        · exact oo (.inr z)
        · exact bb z.1
    · exact .inl ⟨k, r, e, q⟩
  · rcases get k r e with ⟨rfl, rfl⟩ | ⟨hk, hj, e⟩
    · exact ⟨_, ei, rfl⟩
    · exact ⟨r, e, rfl⟩
  · unfold envOf
    rw [List.map_set, List.map_set, ← en3]
    rfl
end
section
variable {sc : Scope} {X : Cx} {nm : Nm} {G : Glo} {CA : Nat → Addr} {cf : Runs} {np : Nat → Option Nat} {bl : List Str} {W : WX} {L : List Nat}
theorem z_amv (B : En sc X nm G CA cf np bl W) (i j : Nat) {x y : Str} {xp yp yp2 lp cp tp ap fp pos : Pos} {kk : Nat} (hi : nm.N[i]? = some x) (hj : nm.N[j]? = some y) (vi : visB sc x = true) (vj : visB sc y = true) (gi : dbg x = true) (gj : dbg y = true) (hbl : bl.contains ("list" : Str) = true) (hgl : gloB sc "list" = true) (hl : (ap.endLine == fp.line) = true) :
    PS X (.Expr (.Call (.Attribute (.Name x xp) "append" ap) [.Tuple [.Name y yp, .Call (.Name "list" lp) [.Name y yp2] [] cp] kk tp] [] fp) pos) (tS X G CA cf W L (.amv i j)) := by
  have ei : PE X (.Name x xp) (tVar i) := pe_var (by rw [B.cx.N]; exact hi) (B.vis vi) (dbg_ok gi).1 (dbg_ok gi).2.1
  have ej : ∀ p, PE X (.Name y p) (tVar j) := fun p => pe_var (by rw [B.cx.N]; exact hj) (B.vis vj) (dbg_ok gj).1 (dbg_ok gj).2.1
  have hm := B.cx.blt ("list" : Str) (by simpa using hbl)
  have ec := pe_callTy (p := lp) (pos := cp) call_list_of (B.gl hgl) hm (show bootBuiltins ("list" : Str) = some (.type "list") by decide +kernel) (pa_cons (ej yp2) pa_nil (star_cons rfl)) (by decide) (by decide) (star_cons rfl) rfl
  have h2 := pe_bm F.plainAttrs_list F.slot_list_append F.type_list_append mt_append ei (pa_cons (pe_tup (x1 := kk) (pos := tp) (pa_cons (ej yp) (pa_cons ec pa_nil (star_cons rfl)) (star_cons rfl))) pa_nil (star_cons rfl)) (base_ok rfl) (back_few (by rfl) (by simp)) hl (star_cons rfl) rfl
  refine PS.weak (ps_expr h2 (no_swap rfl)) fun D σ H h => ?_
  obtain ⟨a, b, ws, us, si, sj, hH, hz, hHb, _, q⟩ := amv_read h
  refine ⟨.ref a, si, .inl ⟨rfl, ws, .of hH⟩, .ref b, sj, .ref b, sj, b, us, rfl, .inl (.of hHb), fun b' hb' => ⟨by rw [SZ_eq]; show 2 ≤ SZ; decide, fun p hp => ?_⟩⟩
  have hab' : a ≠ b' := fun z => by rw [z, hb'] at hH; cases hH
  have hap : a ≠ p := fun z => by
    have : upd H b' (.lst us) a = some (.lst ws) := by rw [upd_ne hab']; exact hH
    rw [z, hp] at this; cases this
  have hbp : b' ≠ p := fun z => by rw [← z, upd_same] at hp; cases hp
  have hp0 : H p = none := by rw [upd_ne (Ne.symm hbp)] at hp; exact hp
  refine ⟨a, ws, .ref p, rfl, rfl, by rw [upd_ne hap, upd_ne hab']; exact hH, hz, q b' p hb' hp0 hbp⟩
end
end Vy

namespace Vy
/-! ## dicts from texts to rows of texts, to truths -/
def getN : List (Cs × List Cs) → Cs → Option (List Cs)
  | [], _ => none
  | (a, b) :: r, k => if a = k then some b else getN r k
def putN : List (Cs × List Cs) → Cs → List Cs → List (Cs × List Cs)
  | [], k, d => [(k, d)]
  | (a, b) :: r, k, d => if a = k then (a, d) :: r else (a, b) :: putN r k d
/-- what a name needs -/
def nd (m : List (Cs × List Cs)) (k : Cs) : List Cs := (getN m k).getD []
def dN (m : List (Cs × List Cs)) : List (Cs × D) := m.map fun p => (p.1, LS p.2)
def DN (m : List (Cs × List Cs)) : D := DT (dN m)
theorem getT_dN (m : List (Cs × List Cs)) (k : Cs) : getT (dN m) k = (getN m k).map LS := by
  induction m with
  | nil => rfl
  | cons p r ih =>
    obtain ⟨a, b⟩ := p
    show (if a == k then some (LS b) else getT (dN r) k) = (if a = k then some b else getN r k).map LS
    by_cases h : a = k
    · simp [h]
    · have : (a == k) = false := by simpa using h
      simp [h, this, ih]
theorem putT_dN (m : List (Cs × List Cs)) (k : Cs) (l : List Cs) : putT (dN m) k (LS l) = dN (putN m k l) := by
  induction m with
  | nil => rfl
  | cons p r ih =>
    obtain ⟨a, b⟩ := p
    show (if a == k then (a, LS l) :: dN r else (a, LS b) :: putT (dN r) k (LS l)) = dN (if a = k then (a, l) :: r else (a, b) :: putN r k l)
    by_cases h : a = k
    · simp [h, dN]
    · have : (a == k) = false := by simpa using h
      simp only [this, h, if_false, Bool.false_eq_true, ih]
      rfl
theorem keys_dN (m : List (Cs × List Cs)) : (dN m).map (·.1) = m.map (·.1) := by simp [dN, List.map_map, Function.comp_def]
theorem getN_mem {m : List (Cs × List Cs)} {k : Cs} {l : List Cs} (h : getN m k = some l) : (k, l) ∈ m := by
  induction m with
  | nil => cases h
  | cons p r ih =>
    obtain ⟨a, b⟩ := p
    rw [getN] at h
    by_cases e : a = k
    · subst e; simp at h; subst h; simp
    · rw [if_neg e] at h; exact List.mem_cons_of_mem _ (ih h)
theorem getN_of {m : List (Cs × List Cs)} (hn : (m.map (·.1)).Nodup) {k : Cs} {l : List Cs} (h : (k, l) ∈ m) : getN m k = some l := by
  induction m with
  | nil => cases h
  | cons p r ih =>
    obtain ⟨a, b⟩ := p
    simp only [List.map_cons, List.nodup_cons] at hn
    rw [getN]
    rcases List.mem_cons.mp h with e | e
    · cases e; simp
    · have : a ≠ k := fun z => hn.1 (z ▸ List.mem_map.mpr ⟨_, e, rfl⟩)
      rw [if_neg this]
      exact ih hn.2 e
theorem getN_none {m : List (Cs × List Cs)} {k : Cs} : getN m k = none ↔ k ∉ m.map (·.1) := by
  induction m with
  | nil => simp [getN]
  | cons p r ih =>
    obtain ⟨a, b⟩ := p
    rw [getN]
    by_cases e : a = k
    · simp [e]
    · rw [if_neg e, ih]
      simp only [List.map_cons, List.mem_cons, not_or]
      exact ⟨fun h => ⟨fun z => e z.symm, h⟩, fun h => h.2⟩
theorem getN_put (m : List (Cs × List Cs)) (k j : Cs) (l : List Cs) : getN (putN m k l) j = if k = j then some l else getN m j := by
  induction m with
  | nil => simp [putN, getN]
  | cons p r ih =>
    obtain ⟨a, b⟩ := p
    rw [putN]
    by_cases h : a = k
    · subst h
      simp only [if_true, getN]
      by_cases h2 : a = j <;> simp [h2]
    · simp only [h, if_false, getN, ih]
      by_cases h2 : a = j
      · subst h2; simp [Ne.symm h]
      · simp [h2]
theorem keys_putN (m : List (Cs × List Cs)) (k : Cs) (l : List Cs) : (putN m k l).map (·.1) = if k ∈ m.map (·.1) then m.map (·.1) else m.map (·.1) ++ [k] := by
  induction m with
  | nil => simp [putN]
  | cons p r ih =>
    obtain ⟨a, b⟩ := p
    rw [putN]
    by_cases h : a = k
    · simp [h]
    · have h' : ¬ k = a := fun z => h z.symm
      simp only [h, if_false, List.map_cons, ih, List.mem_cons, h', false_or]
      split <;> simp
theorem nodup_putN {m : List (Cs × List Cs)} (hn : (m.map (·.1)).Nodup) (k : Cs) (l : List Cs) : ((putN m k l).map (·.1)).Nodup := by
  rw [keys_putN]
  by_cases h : k ∈ m.map (·.1)
  · rw [if_pos h]; exact hn
  · rw [if_neg h, List.nodup_append]
    exact ⟨hn, by simp, fun a ha b hb => by simp at hb; subst hb; exact fun z => h (z ▸ ha)⟩
theorem len_putN (m : List (Cs × List Cs)) (k : Cs) (l : List Cs) : (putN m k l).length ≤ m.length + 1 := by
  have := congrArg List.length (keys_putN m k l)
  simp only [List.length_map] at this
  rw [this]; split <;> simp
theorem mem_putN {m : List (Cs × List Cs)} {k : Cs} {l : List Cs} {p : Cs × List Cs} (h : p ∈ putN m k l) : p = (k, l) ∨ p ∈ m := by
  induction m with
  | nil => simp [putN] at h; exact .inl h
  | cons q r ih =>
    obtain ⟨a, b⟩ := q
    rw [putN] at h
    by_cases e : a = k
    · rw [if_pos e] at h
      rcases List.mem_cons.mp h with h | h
      · subst e; exact .inl h
      · exact .inr (List.mem_cons_of_mem _ h)
    · rw [if_neg e] at h
      rcases List.mem_cons.mp h with h | h
      · exact .inr (by simp [h])
      · exact (ih h).imp id (List.mem_cons_of_mem _)
theorem mdepN (m : List (Cs × List Cs)) : mdepL ((dN m).map (·.2)) ≤ 1 := mdepL_le fun d hd => by
  obtain ⟨p, hp, rfl⟩ := List.mem_map.mp hd
  obtain ⟨q, _, rfl⟩ := List.mem_map.mp hp
  simp
theorem mdep_DN (m : List (Cs × List Cs)) : (DN m).mdep ≤ 2 ∧ (DN m).mdep ≠ 0 := by
  unfold DN; rw [mdep_DT]; have := mdepN m; omega
@[simp] theorem norm_DN (m : List (Cs × List Cs)) (n : Nat) : norm (DN m, n) = (DN m, n) := norm_DT _ _
theorem full_DN {m : List (Cs × List Cs)} {n : Nat} (h : 2 ≤ n) : full (DN m, n) = true := by
  have := (mdep_DN m).1
  simp [full]; omega
theorem full_DN0 (m : List (Cs × List Cs)) : full (DN m, 0) = false := by
  have := (mdep_DN m).2
  simp [full]; omega
theorem bind_DN {ρ : Env} {i n : Nat} {m : List (Cs × List Cs)} {ns : List Nat} (h : 2 ≤ n) : bindV ρ i (DN m, n) ns = ρ.set i (some (DN m, n)) := by
  rw [bind_full (full_DN h)]; simp [setV]
@[simp] theorem len_DN (m : List (Cs × List Cs)) (n : Nat) : bifD .len [(DN m, n)] = some (.int m.length, 9) := by
  unfold DN; rw [len_DT]; simp [dN]
theorem has_dN (m : List (Cs × List Cs)) (k : Cs) : hasT (dN m) k = decide (k ∈ m.map (·.1)) := by
  rw [Bool.eq_iff_iff, hasT_mem, keys_dN]; simp
@[simp] theorem in_DN (k : Cs) (m : List (Cs × List Cs)) : cmpD .isin (.str k) (DN m) = some (decide (k ∈ m.map (·.1))) := by unfold DN; rw [in_DT, has_dN]
@[simp] theorem notin_DN (k : Cs) (m : List (Cs × List Cs)) : cmpD .notin (.str k) (DN m) = some (!decide (k ∈ m.map (·.1))) := by unfold DN; rw [notin_DT, has_dN]
theorem sub_DN {m : List (Cs × List Cs)} {k : Cs} {l : List Cs} (h : getN m k = some l) : subD (DN m) (.str k) = some (LS l, 0) :=
  sub_DT (m := dN m) (d := LS l) (by rw [getT_dN, h]; rfl)
theorem get_DN (m : List (Cs × List Cs)) (k : Cs) (d : D) (n n1 n2 : Nat) : methD .get (DN m, n) [(.str k, n1), (d, n2)] = some (match getN m k with | some x => (LS x, 0) | none => (d, n2)) := by
  unfold DN
  rw [get_DT, getT_dN]
  cases getN m k <;> rfl
@[simp] theorem recv_DN (m : List (Cs × List Cs)) : recvOk .get (DN m) = true := id rfl
@[simp] theorem list_DN (m : List (Cs × List Cs)) (n : Nat) : bifD .list [(DN m, n)] = some (LS (m.map (·.1)), 9) := by unfold DN; rw [list_DT, keys_dN]
theorem DN_nil : D.dct [] [] = DN [] := rfl
@[simp] theorem isiOk_DN (m : List (Cs × List Cs)) (k : IK) (h : ikOk k = true) : isiOk (DN m) k = true := isiOk_dct _ _ _ h
theorem eqOkN (m : List (Cs × List Cs)) : eqOkL ((dN m).map (·.2)) = true ∧ depL ((dN m).map (·.2)) ≤ 50 := by
  induction m with
  | nil => exact ⟨rfl, Nat.zero_le _⟩
  | cons p r ih =>
    refine ⟨?_, ?_⟩
    · show eqOkL (LS p.2 :: (dN r).map (·.2)) = true
      rw [eqOkL, ih.1, Bool.and_true]
      exact eqOkL_strs p.2
    · show depL (LS p.2 :: (dN r).map (·.2)) ≤ 50
      rw [depL]
      have : (LS p.2).dep = 1 := by
        show depL (p.2.map D.str) + 1 = 1
        rw [depL_strs]
      have := ih.2
      omega
theorem eq_DN {m : List (Cs × List Cs)} (hn : (m.map (·.1)).Nodup) : cmpD .eq (DN m) (DN m) = some true := by
  unfold DN
  refine eq_DT (by rw [keys_dN]; exact hn) fun p hp => ?_
  obtain ⟨q, _, rfl⟩ := List.mem_map.mp hp
  refine ⟨eqOkL_strs q.2, ?_, ?_⟩
  · show depL (q.2.map D.str) + 1 ≤ 50
    rw [depL_strs]; omega
  · exact pyEq_self_strs q.2
theorem itm_DN (m : List (Cs × List Cs)) : zipD ((dN m).map fun p => .str p.1) ((dN m).map (·.2)) = m.map fun p => .tup [.str p.1, LS p.2] := by
  rw [itm_DT]; simp [dN, List.map_map, Function.comp_def]
/-- ev of d.items() -/
theorem evi_DN {G : Glo} {cf : Runs} {ρ : Env} {e : C} {m : List (Cs × List Cs)} {n : Nat} (h : ev G cf ρ e = .ok (DN m, n)) : ev G cf ρ (.itm e) = .ok (.lst (m.map fun p => .tup [.str p.1, LS p.2]), if (DN m).mdep ≤ n then 9 else 0) := by
  rw [ev, h]
  simp only [Out.bind_ok]
  rw [← itm_DN]
  rfl
/-! ### truths -/
def dB (l : List Cs) : List (Cs × D) := l.map fun s => (s, .bl true)
def DB (l : List Cs) : D := DT (dB l)
/-- one name more -/
def addB (l : List Cs) (s : Cs) : List Cs := if s ∈ l then l else l ++ [s]
theorem keys_dB (l : List Cs) : (dB l).map (·.1) = l := by simp [dB, List.map_map, Function.comp_def]
theorem getT_dB (l : List Cs) (k : Cs) : getT (dB l) k = if k ∈ l then some (.bl true) else none := by
  induction l with
  | nil => rfl
  | cons a r ih =>
    show (if a == k then some (D.bl true) else getT (dB r) k) = _
    by_cases h : a = k
    · simp [h]
    · have h1 : (a == k) = false := by simpa using h
      have h2 : ¬ k = a := fun z => h z.symm
      simp [h1, ih, h2]
theorem putT_dB (l : List Cs) (s : Cs) : putT (dB l) s (.bl true) = dB (addB l s) := by
  induction l with
  | nil => rfl
  | cons a r ih =>
    show (if a == s then (a, D.bl true) :: dB r else (a, D.bl true) :: putT (dB r) s (.bl true)) = _
    by_cases h : a = s
    · simp [h, addB, dB]
    · have h1 : (a == s) = false := by simpa using h
      have h2 : ¬ s = a := fun z => h z.symm
      simp only [h1, Bool.false_eq_true, if_false, ih]
      unfold addB
      by_cases h3 : s ∈ r
      · simp [h3, dB]
      · simp [h3, h2, dB]
theorem mem_addB {l : List Cs} {s t : Cs} : t ∈ addB l s ↔ t ∈ l ∨ t = s := by
  unfold addB
  by_cases h : s ∈ l
  · rw [if_pos h]; exact ⟨.inl, fun z => z.elim id fun e => e ▸ h⟩
  · rw [if_neg h]; simp
theorem nodup_addB {l : List Cs} (h : l.Nodup) (s : Cs) : (addB l s).Nodup := by
  unfold addB
  by_cases e : s ∈ l
  · rw [if_pos e]; exact h
  · rw [if_neg e, List.nodup_append]
    exact ⟨h, by simp, fun a ha b hb => by simp at hb; subst hb; exact fun z => e (z ▸ ha)⟩
theorem len_addB (l : List Cs) (s : Cs) : (addB l s).length ≤ l.length + 1 := by unfold addB; split <;> simp
theorem mdepB (l : List Cs) : mdepL ((dB l).map (·.2)) = 0 := mdepL_zero fun d hd => by
  obtain ⟨p, hp, rfl⟩ := List.mem_map.mp hd
  obtain ⟨q, _, rfl⟩ := List.mem_map.mp hp
  simp
@[simp] theorem norm_DB (l : List Cs) (n : Nat) : norm (DB l, n) = (DB l, n) := norm_DT _ _
theorem full_DB {l : List Cs} {n : Nat} (h : 1 ≤ n) : full (DB l, n) = true := by
  simp [full, DB, mdep_DT, mdepB]; exact h
theorem bind_DB {ρ : Env} {i n : Nat} {l : List Cs} {ns : List Nat} (h : 1 ≤ n) : bindV ρ i (DB l, n) ns = ρ.set i (some (DB l, n)) := by
  rw [bind_full (full_DB h)]; simp [setV]
@[simp] theorem len_DB (l : List Cs) (n : Nat) : bifD .len [(DB l, n)] = some (.int l.length, 9) := by
  unfold DB; rw [len_DT]; simp [dB]
theorem has_dB (l : List Cs) (k : Cs) : hasT (dB l) k = decide (k ∈ l) := by
  rw [Bool.eq_iff_iff, hasT_mem, keys_dB]; simp
@[simp] theorem in_DB (k : Cs) (l : List Cs) : cmpD .isin (.str k) (DB l) = some (decide (k ∈ l)) := by unfold DB; rw [in_DT, has_dB]
@[simp] theorem notin_DB (k : Cs) (l : List Cs) : cmpD .notin (.str k) (DB l) = some (!decide (k ∈ l)) := by unfold DB; rw [notin_DT, has_dB]
theorem DB_nil : D.dct [] [] = DB [] := rfl
theorem disp_N : dispD [] = some (DN [], 10) := rfl
theorem disp_B : dispD [] = some (DB [], 10) := rfl
theorem sorted_LS (l : List Cs) (n : Nat) : bifD .sorted [(LS l, n)] = some (LS (l.mergeSort leS), 9) := by
  show (strsOf (l.map D.str)).map _ = _
  rw [strsOf_map]; rfl
theorem sorted_DB (l : List Cs) (n : Nat) : bifD .sorted [(DB l, n)] = some (LS (l.mergeSort leS), 9) := by
  show (strsOf ((dB l).map fun p => D.str p.1)).map _ = _
  have : (dB l).map (fun p => D.str p.1) = l.map D.str := by simp [dB, List.map_map, Function.comp_def]
  rw [this, strsOf_map]; rfl
/-! ### stores -/
section
variable {G : Glo} {cf : Runs} {L : List Nat} {ρ : Env}
theorem st_DB {i n m1 m2 : Nat} {l : List Cs} {k : Cs} {ck e : C} (h : (ρ[i]?).bind id = some (DB l, n)) (hL : i ∉ L) (hn : 1 ≤ n) (hl : l.length + 1 < 16777216) (hk : ev G cf ρ ck = .ok (.str k, m1)) (he : ev G cf ρ e = .ok (.bl true, m2)) :
    exS G cf L ρ (.st ⟨i, []⟩ ck e) = .nx (ρ.set i (some (DB (addB l k), n))) := by
  obtain ⟨n, rfl⟩ : ∃ n', n = n' + 1 := ⟨n - 1, by omega⟩
  rw [st_DT (m := dB l) (n := n) (k := k) (d := .bl true) h hL (by simpa [dB, SZ] using hl) hk he (by simp), putT_dB]
  simp [lvIn, DB]
theorem st_DN {i n m1 m2 : Nat} {m : List (Cs × List Cs)} {k : Cs} {l : List Cs} {ck e : C} (h : (ρ[i]?).bind id = some (DN m, n)) (hL : i ∉ L) (hn : 2 ≤ n) (hn2 : n ≤ 10) (hm : 9 ≤ m2) (hl : m.length + 1 < 16777216) (hk : ev G cf ρ ck = .ok (.str k, m1)) (he : ev G cf ρ e = .ok (LS l, m2)) :
    exS G cf L ρ (.st ⟨i, []⟩ ck e) = .nx (ρ.set i (some (DN (putN m k l), n))) := by
  obtain ⟨n, rfl⟩ : ∃ n', n = n' + 1 := ⟨n - 1, by omega⟩
  rw [st_DT (m := dN m) (n := n) (k := k) (d := LS l) h hL (by simpa [dN, SZ] using hl) hk he (by simp; omega), putT_dN]
  have : lvIn (n + 1) (LS l, m2) = n + 1 := by unfold lvIn; simp; omega
  rw [this]; rfl
/-- one more row's end -/
def addN (m : List (Cs × List Cs)) (x y : Cs) : List (Cs × List Cs) := putN m x (nd m x ++ [y])
/-- d.setdefault(x, []).append(y) -/
theorem exS_sda {i j k n m1 m2 : Nat} {m : List (Cs × List Cs)} {x y : Cs} (h : (ρ[i]?).bind id = some (DN m, n)) (hx : (ρ[j]?).bind id = some (.str x, m1)) (hy : (ρ[k]?).bind id = some (.str y, m2)) (hL : i ∉ L) (hn : 2 ≤ n) (hn2 : n ≤ 10) (hl : m.length < 1000000) (hr : ∀ p ∈ m, p.2.length < 1000000) :
    exS G cf L ρ (sdaS i j k) = .nx (ρ.set i (some (DN (addN m x y), n))) := by
  have ei : ev G cf ρ (.var i) = .ok (DN m, 0) := by rw [ev_var, h]; rfl
  have ex : ev G cf ρ (.var j) = .ok (.str x, 0) := by rw [ev_var, hx]; rfl
  have ey : ev G cf ρ (.var k) = .ok (.str y, 0) := by rw [ev_var, hy]; rfl
  unfold sdaS
  rw [exS_ife]
  have hlt : ((m.length : Nat) : Int) < 1000000 := by omega
  have ed : bifD .dict [(DN m, 0)] = some (DN m, lv1 ((dN m).map (·.2))) := id rfl
  simp only [evB_eq, ev_cmp, ev_bif, evs_cons, evs_nil, ei, ex, ed, Out.bind_ok, len_DN, Out.of_some, ev_cst, lt_int, hlt, decide_true, truth_bl, onE_ok, if_true, exB_one, exS_ife, in_DN]
  by_cases hk : x ∈ m.map (·.1)
  · simp only [hk, decide_true, if_true, exB_one]
    obtain ⟨l, hl0⟩ : ∃ l, getN m x = some l := by
      cases e : getN m x with
      | none => exact absurd hk (getN_none.mp e)
      | some l => exact ⟨l, rfl⟩
    obtain ⟨n, rfl⟩ : ∃ n', n = n' + 1 := ⟨n - 1, by omega⟩
    have hany : ((dN m).map fun p => D.str p.1).any (fun j => pyEq j (.str x)) = true := by rw [any_keys, has_dN]; simpa using hk
    obtain ⟨t, ht⟩ : ∃ t, ((dN m).map fun p => D.str p.1).findIdx? (fun y => pyEq y (.str x)) = some t := by
      cases e : ((dN m).map fun p => D.str p.1).findIdx? (fun y => pyEq y (.str x)) with
      | some t => exact ⟨t, rfl⟩
      | none =>
        rw [List.findIdx?_eq_none_iff] at e
        obtain ⟨z, hz, hz2⟩ := List.any_eq_true.mp hany
        rw [e z hz] at hz2; cases hz2
    have hkd : ∀ d, ((dN m).map (·.2)).set t d = (putT (dN m) x d).map (·.2) ∧ (dN m).map (fun p => D.str p.1) = (putT (dN m) x d).map fun p => D.str p.1 := fun d => by
      have := putKD_DT (dN m) x d
      unfold putKD at this
      rw [ht] at this
      simp only [Prod.mk.injEq] at this
      exact ⟨this.2, this.1⟩
    have hkid : ((dN m).map (·.2))[t]? = some (LS l) := by
      have h1 := (hkd (.bl true)).1
      have ht2 : t < ((dN m).map (·.2)).length := by
        have := (List.findIdx?_eq_some_iff_getElem.mp ht).1
        simpa using this
      have hg := find_DT (dN m) x
      rw [getT_dN, hl0] at hg
      obtain ⟨p, hp1, hp2⟩ := Option.map_eq_some_iff.mp hg
      rw [List.find?_eq_some_iff_getElem] at hp1
      obtain ⟨q1, i', q2, q3, q4⟩ := hp1
      obtain ⟨q5, q6, q7⟩ := List.findIdx?_eq_some_iff_getElem.mp ht
      have hi1 : i' < ((dN m).map fun p => D.str p.1).length := by
        have := q2; simp at this ⊢; exact this
      have e1 : i' = t := by
        rcases Nat.lt_trichotomy i' t with z | z | z
        · have q1' : pyEq p.1 (.str x) = true := q1
          rw [← q3] at q1'
          simp only [List.getElem_zip] at q1'
          exact absurd q1' (q7 i' z)
        · exact z
        · have := q4 t z
          simp only [List.getElem_zip] at this
          rw [q6] at this; cases this
      subst e1
      rw [List.getElem?_eq_getElem ht2]
      rw [← hp2, ← q3]
      simp [List.getElem_zip]
    have hpos : posP (DN m) (.at (.str x)) = some t := by
      show go _ _ = _
      rw [go_pos (show (vKey (D.str x)).isSome = true from rfl)]; exact ht
    have hget : getP (DN m, n + 1) [.at (.str x)] = some (LS l, n) := by
      show (posP (DN m) (.at (.str x))).bind _ = _
      rw [hpos]
      simp only [Option.bind_some]
      show (((dN m).map (·.2))[t]?).bind _ = _
      rw [hkid]; rfl
    obtain ⟨n, rfl⟩ : ∃ n', n = n' + 1 := ⟨n - 1, by omega⟩
    have hll := hr _ (getN_mem hl0)
    have happ : nodeOp .app (LS l, n + 1) [(.str y, 0)] = some ((LS (l ++ [y]), n + 1), (.non, 9)) := by
      show go _ _ = _
      rw [go_pos (by simp [SZ]; simp at hll; omega)]
      simp [lvIn, LS_eq]
    have hty : mTy .app (LS l, n + 1) = true := by
      show (decide (1 ≤ n + 1) && true) = true
      simp
    have hput : putP (DN m) [.at (.str x)] (LS (l ++ [y])) = DN (addN m x y) := by
      show (match posP (DN m) (.at (.str x)) with | some j => _ | none => _) = _
      rw [hpos]
      simp only
      show (match ((dN m).map (·.2))[t]? with | some d' => setK (DN m) t (putP d' [] (LS (l ++ [y]))) | none => _) = _
      rw [hkid]
      simp only
      show D.dct ((dN m).map fun p => D.str p.1) (((dN m).map (·.2)).set t (LS (l ++ [y]))) = _
      rw [(hkd _).1, (hkd (LS (l ++ [y]))).2, ← DT_eq, putT_dN]
      simp [addN, nd, hl0, DN]
    rw [exS_expX, exX_mop]
    simp only [rsv_at, rsv_nil, ex, noX_ok, Out.bind_ok, onO_ok, nodeP, h, Option.bind_some, hget, Option.map_some, OX.of_some, hty, if_true, evs_cons, evs_nil, ey]
    unfold mopX
    rw [if_neg hL, h]
    simp only [Option.bind_some, hget, happ, List.all_cons, List.all_nil, full_str, Bool.and_self, if_true]
    unfold chgP
    rw [h]
    simp only [Option.bind_some, hget, Option.map_some, OX.of_some, onX_ok, hput]
    have : min (n + 1 + 1) (n + 1 + [Rtp.at (D.str x)].length) = n + 1 + 1 := by simp
    rw [this]
    simp [setV]
  · have hk' : decide (x ∈ m.map (·.1)) = false := by simpa using hk
    simp only [hk', Bool.false_eq_true, if_false, exB_one]
    rw [st_DN (m := m) (n := n) (k := x) (l := [y]) (m1 := 0) (m2 := 10) h hL hn hn2 (by omega) (by omega) ex (by rw [ev_lst]; simp only [evs_cons, evs_nil, ey, Out.bind_ok, List.map_cons, List.map_nil]; rw [gd_pos (by simp [SZ])]; simp [LS_one])]
    have : getN m x = none := getN_none.mpr hk
    simp [addN, nd, this]
end
section
variable {G : Glo} {cf : Runs} {L : List Nat} {ρ : Env} {Q : Post}
/-- for a, b in d.items(), d another's (or a slot's, frozen for good) -/
theorem w_items {m : List (Cs × List Cs)} {a b : Nat} {e : C} {body r : List S} (I : Nat → Env → Prop) (he : ev G cf ρ e = .ok (DN m, 0)) (hio : okJ cf.io [a, b] = true) (h0 : I 0 (frz ρ (names e)))
    (hs : ∀ i p ρ, m[i]? = some p → I i ρ → Sat (exB G cf (names e ++ L) ((ρ.set a (some (.str p.1, 9))).set b (some (LS p.2, 0))) body) ⟨I (i + 1), Q.rt, Q.ex⟩) (hk : ∀ ρ, I m.length ρ → Sat (exB G cf L ρ r) Q) :
    Sat (thenR G cf L (exS G cf L ρ (.forD (.tup [a, b]) (.itm e) body)) r) Q := by
  refine sat_thenR ?_ hk
  rw [exS_forD, evi_DN he, if_neg (by have := (mdep_DN m).2; omega)]
  simp only [onE_ok]
  unfold forDS
  simp only [itemsOf]
  rw [onJ, show okJ cf.io (Tg.tup [a, b]).is = true from hio]
  simp only [if_true]
  cases m with
  | nil =>
    by_cases hf : full (.lst (([] : List (Cs × List Cs)).map fun p => D.tup [.str p.1, LS p.2]), 0) = true
    · simp [full] at hf
    · rw [if_neg hf]; exact h0
  | cons q m =>
    have hf : full (.lst ((q :: m).map fun p => D.tup [.str p.1, LS p.2]), 0) = false := by simp [full]
    rw [hf, if_neg (by simp)]
    have := sat_forL (Q := Q) (xs := (q :: m).map fun p => D.tup [.str p.1, LS p.2]) (I := I) (f := fun ρ d => putS ρ (.tup [a, b]) d fun ρ => exB G cf (names (.itm e) ++ L) ρ body) (fun i x ρ hx hi => by
      rw [List.getElem?_map] at hx
      obtain ⟨p, hp, rfl⟩ := Option.map_eq_some_iff.mp hx
      rw [putS_two, norm_str, norm_LS]
      exact hs i p ρ hp hi) _ h0
    rw [List.length_map] at this
    exact this
end
end Vy

namespace Vy
/-! ## for t in d.get(w.pop(), []) -/
section
variable {G : Glo} {cf : Runs} {L : List Nat} {ρ : Env} {Q : Post}
theorem ev_getpop {i j n n2 : Nat} {b : List (Cs × List Cs)} {w : List Cs} {x : Cs} (hi : (ρ[i]?).bind id = some (DN b, n)) (hj : (ρ[j]?).bind id = some (LS (w ++ [x]), n2 + 1)) (hL : j ∉ L) (hij : i ≠ j) :
    exX G cf L ρ (getpop i j) = .ok (match getN b x with | some l => (LS l, 0) | none => (LS [], 10)) (ρ.set j (some (LS w, n2 + 1))) := by
  have ei : ev G cf ρ (.var i) = .ok (DN b, 0) := by rw [ev_var, hi]; rfl
  unfold getpop
  rw [exX, ei]
  simp only [onO_ok]
  have hp : exX G cf L ρ (.mop ⟨j, []⟩ .pop []) = .ok (.str x, n2) (ρ.set j (some (LS w, n2 + 1))) := by
    have h1 : nodeOp .pop (LS (w ++ [x]), n2 + 1) [] = some ((LS w, n2 + 1), (.str x, n2)) := by
      have e1 : ((w ++ [x]).map D.str).getLast? = some (D.str x) := by simp
      have e2 : ((w ++ [x]).map D.str).dropLast = w.map D.str := by simp
      show (((w ++ [x]).map D.str).getLast?).bind _ = _
      rw [e1]
      simp only [Option.bind_some]
      rw [go_pos (by simp), e2]; rfl
    have h2 : mTy .pop (LS (w ++ [x]), n2 + 1) = true := by
      show (decide (1 ≤ n2 + 1) && true) = true
      simp
    rw [exX_mop]
    simp only [rsv_nil, onO_ok, nodeP, hj, Option.bind_some, getP, Option.map_some, OX.of_some, h2, if_true, evs_nil]
    unfold mopX
    rw [if_neg hL, hj]
    simp only [Option.bind_some, getP, h1, List.all_nil, if_true]
    unfold chgP
    rw [hj]
    simp [putP, setV, getP]
  rw [hp]
  simp only [OX.bind_ok, ev_lst, evs_nil, Out.bind_ok, List.map_nil, List.length_nil, lvL_nil]
  rw [gd_pos (Nat.zero_le _)]
  simp only [onO_ok]
  rw [LS_nil, get_DN]
  cases getN b x <;> rfl
theorem w_forPop {t i j n n2 : Nat} {b : List (Cs × List Cs)} {w : List Cs} {x : Cs} {body r : List S} (I : Nat → Env → Prop) (hi : (ρ[i]?).bind id = some (DN b, n)) (hj : (ρ[j]?).bind id = some (LS (w ++ [x]), n2 + 1)) (hL : j ∉ L) (hij : i ≠ j) (hio : okJ cf.io [t] = true)
    (h0 : I 0 (ρ.set j (some (LS w, n2 + 1)))) (hs : ∀ k s ρ, (nd b x)[k]? = some s → I k ρ → Sat (exB G cf (i :: L) (ρ.set t (some (.str s, 9))) body) ⟨I (k + 1), Q.rt, Q.ex⟩) (hk : ∀ ρ, I (nd b x).length ρ → Sat (exB G cf L ρ r) Q) :
    Sat (thenR G cf L (exS G cf L ρ (.forX (.one t) (getpop i j) body)) r) Q := by
  refine sat_thenR ?_ hk
  rw [exS, show xnames (getpop i j) = [i] from rfl, List.singleton_append, ev_getpop hi hj (by simp; exact ⟨Ne.symm hij, hL⟩) hij]
  simp only [onX_ok]
  unfold nd at *
  cases e : getN b x with
  | none =>
    rw [e] at hs
    simp only [Option.getD_none, List.length_nil]
    show Sat (osOf ((lstOf (LS [])).map _)) _
    simp only [show lstOf (LS []) = some [] from rfl, Option.map_some, osOf_some]
    rw [onJ, show okJ cf.io (Tg.one t).is = true from hio]
    simp only [if_true]
    rw [show full (LS [], 10) = true by simp]
    simp only [if_true]
    exact h0
  | some l =>
    rw [e] at hs
    simp only [Option.getD_some] at hs ⊢
    show Sat (osOf ((lstOf (LS l)).map _)) _
    simp only [show lstOf (LS l) = some (l.map D.str) from rfl, Option.map_some, osOf_some]
    rw [onJ, show okJ cf.io (Tg.one t).is = true from hio]
    simp only [if_true]
    rw [show full (LS l, 0) = false by simp, if_neg (by simp), if_pos (mdepL_strs l)]
    have := sat_forL (Q := Q) (xs := l.map D.str) (I := I) (f := fun ρ d => putS ρ (.one t) d fun ρ => exB G cf (i :: L) ρ body) (fun k y ρ hy hI => by
      rw [List.getElem?_map] at hy
      obtain ⟨s, hs', rfl⟩ := Option.map_eq_some_iff.mp hy
      rw [putS_one, norm_str]
      exact hs k s ρ hs' hI) _ h0
    rw [List.length_map] at this
    exact this
end
/-- simp leaves alone what is asked -/
theorem Sat_congr {o o' : OS} {Q : Post} (h : o = o') : Sat o Q = Sat o' Q := by rw [h]
theorem sat_nx {ρ : Env} {Q : Post} (h : Q.nx ρ) : Sat (.nx ρ) Q := h
theorem sat_rt {p : D × Nat} {ρ : Env} {Q : Post} (h : Q.rt p ρ) : Sat (.rt p ρ) Q := h
theorem sat_exc {e : Exn} {ρ : Env} {Q : Post} (h : Q.ex e ρ) : Sat (.exc e ρ) Q := h
theorem andO_n (n : Nat) (y : Out (D × Nat)) : andO (.ok (LS [], n)) y = .ok (LS [], n) := id rfl
theorem andO_c {l : List Cs} (h : l ≠ []) (n : Nat) (y : Out (D × Nat)) : andO (.ok (LS l, n)) y = y := by
  cases l with
  | nil => exact absurd rfl h
  | cons a l => rfl
end Vy

namespace Vy
/-! ## the rules once more: what is asked stays hidden from simp -/
theorem fin_nx {Q : Post} {I : Env → Prop} {rt : D × Nat → Env → Prop} {ex : Exn → Env → Prop} {ρ : Env} (hQ : Q = ⟨I, rt, ex⟩) (h : I ρ) : Q.nx ρ := hQ ▸ h
theorem fin_rt {Q : Post} {I : Env → Prop} {rt : D × Nat → Env → Prop} {ex : Exn → Env → Prop} {ρ : Env} {p : D × Nat} (hQ : Q = ⟨I, rt, ex⟩) (h : rt p ρ) : Q.rt p ρ := hQ ▸ h
theorem fin_ex {Q : Post} {I : Env → Prop} {rt : D × Nat → Env → Prop} {ex : Exn → Env → Prop} {ρ : Env} {e : Exn} (hQ : Q = ⟨I, rt, ex⟩) (h : ex e ρ) : Q.ex e ρ := hQ ▸ h
theorem giv {Q : Post} {R : D × Nat → Prop} {ρ : Env} {p : D × Nat} (hQ : Q = Gives R) (h : R p) : Q.rt p ρ := by rw [hQ]; exact h
theorem giv_nx {Q : Post} {R : D × Nat → Prop} {ρ : Env} (hQ : Q = Gives R) (h : R (.non, 9)) : Q.nx ρ := by rw [hQ]; exact h
theorem some_of {o : OS} {R : D × Nat → Prop} (h : ∀ Q, Q = Gives R → Sat o Q) : ∃ p, outS o = .ok p ∧ R p := (h _ rfl).some
theorem eq_of {o : OS} {q : D × Nat} (h : ∀ Q, Q = Gives (fun p => p = q) → Sat o Q) : outS o = .ok q := (h _ rfl).eq
section
variable {G : Glo} {cf : Runs} {L : List Nat} {ρ : Env} {Q : Post} {it : C} {b r : List S}
theorem v_for {tg : Tg} {p : D × Nat} {xs : List D} (I : Nat → Env → Prop) (hx : itemsOf p.1 = some xs) (hf : full p = true) (hio : okJ cf.io tg.is = true) (h0 : I 0 ρ) (hs : ∀ i x ρ, xs[i]? = some x → I i ρ → ∀ Q', Q' = Post.mk (I (i + 1)) Q.rt Q.ex → Sat (putS ρ tg x fun ρ => exB G cf L ρ b) Q') (hk : ∀ ρ, I xs.length ρ → Sat (exB G cf L ρ r) Q) : Sat (thenR G cf L (forS G cf ρ L tg it b p) r) Q :=
  w_for I hx hf hio h0 (fun i x ρ a c => hs i x ρ a c _ rfl) hk
theorem v_forZ {tg : Tg} {p : D × Nat} {xs : List D} (I : Nat → Env → Prop) (hx : itemsOf p.1 = some xs) (hf : full p = false) (hz : mdepL xs = 0) (hio : okJ cf.io tg.is = true) (h0 : I 0 ρ) (hs : ∀ i x ρ, xs[i]? = some x → I i ρ → ∀ Q', Q' = Post.mk (I (i + 1)) Q.rt Q.ex → Sat (putS ρ tg x fun ρ => exB G cf (names it ++ L) ρ b) Q') (hk : ∀ ρ, I xs.length ρ → Sat (exB G cf L ρ r) Q) : Sat (thenR G cf L (forS G cf ρ L tg it b p) r) Q :=
  w_forZ I hx hf hz hio h0 (fun i x ρ a c => hs i x ρ a c _ rfl) hk
theorem v_forN {tg : Tg} {p : D × Nat} {xs : List D} (I : Nat → Env → Prop) (hx : itemsOf p.1 = some xs) (hf : full p = false) (hz : mdepL xs ≠ 0) (hio : okJ cf.io tg.is = true) (h0 : I 0 (frz ρ (names it))) (hs : ∀ i x ρ, xs[i]? = some x → I i ρ → ∀ Q', Q' = Post.mk (I (i + 1)) Q.rt Q.ex → Sat (putS ρ tg x fun ρ => exB G cf (names it ++ L) ρ b) Q') (hk : ∀ ρ, I xs.length ρ → Sat (exB G cf L ρ r) Q) : Sat (thenR G cf L (forS G cf ρ L tg it b p) r) Q :=
  w_forN I hx hf hz hio h0 (fun i x ρ a c => hs i x ρ a c _ rfl) hk
theorem v_rng {n : Nat} (I : Nat → Env → Prop) (i : Nat) (hio : okJ cf.io [i] = true) (h0 : I 0 ρ) (hs : ∀ j ρ, j < n → I j ρ → ∀ Q', Q' = Post.mk (I (j + 1)) Q.rt Q.ex → Sat (exB G cf L (ρ.set i (some (.int (j : Int), 9))) b) Q') (hk : ∀ ρ, I n ρ → Sat (exB G cf L ρ r) Q) :
    Sat (thenR G cf L (forS G cf ρ L (.one i) it b (.lst ((List.range n).map fun (j : Nat) => D.int (j : Int)), 9)) r) Q := w_rng I i hio h0 (fun i ρ a c => hs i ρ a c _ rfl) hk
theorem v_LS {l : List Cs} {n : Nat} (I : Nat → Env → Prop) (i : Nat) (hn : 1 ≤ n) (hio : okJ cf.io [i] = true) (h0 : I 0 ρ) (hs : ∀ j s ρ, l[j]? = some s → I j ρ → ∀ Q', Q' = Post.mk (I (j + 1)) Q.rt Q.ex → Sat (exB G cf L (ρ.set i (some (.str s, 9))) b) Q') (hk : ∀ ρ, I l.length ρ → Sat (exB G cf L ρ r) Q) :
    Sat (thenR G cf L (forS G cf ρ L (.one i) it b (LS l, n)) r) Q := w_LS I i hn hio h0 (fun i x ρ a c => hs i x ρ a c _ rfl) hk
theorem v_LSz {l : List Cs} (I : Nat → Env → Prop) (i : Nat) (hio : okJ cf.io [i] = true) (h0 : I 0 ρ) (hs : ∀ j s ρ, l[j]? = some s → I j ρ → ∀ Q', Q' = Post.mk (I (j + 1)) Q.rt Q.ex → Sat (exB G cf (names it ++ L) (ρ.set i (some (.str s, 9))) b) Q') (hk : ∀ ρ, I l.length ρ → Sat (exB G cf L ρ r) Q) :
    Sat (thenR G cf L (forS G cf ρ L (.one i) it b (LS l, 0)) r) Q := w_LSz I i hio h0 (fun i x ρ a c => hs i x ρ a c _ rfl) hk
theorem v_str {t : Cs} {n : Nat} (I : Nat → Env → Prop) (i : Nat) (hio : okJ cf.io [i] = true) (h0 : I 0 ρ) (hs : ∀ j c ρ, t[j]? = some c → I j ρ → ∀ Q', Q' = Post.mk (I (j + 1)) Q.rt Q.ex → Sat (exB G cf L (ρ.set i (some (.str [c], 9))) b) Q') (hk : ∀ ρ, I t.length ρ → Sat (exB G cf L ρ r) Q) :
    Sat (thenR G cf L (forS G cf ρ L (.one i) it b (.str t, n)) r) Q := w_str I i hio h0 (fun i x ρ a c => hs i x ρ a c _ rfl) hk
theorem v_scr {t : List Int} {n : Nat} (I : Nat → Env → Prop) (i : Nat) (hio : okJ cf.io [i] = true) (h0 : I 0 ρ) (hs : ∀ j c ρ, t[j]? = some c → I j ρ → ∀ Q', Q' = Post.mk (I (j + 1)) Q.rt Q.ex → Sat (exB G cf L (ρ.set i (some (.int c, 9))) b) Q') (hk : ∀ ρ, I t.length ρ → Sat (exB G cf L ρ r) Q) :
    Sat (thenR G cf L (forS G cf ρ L (.one i) it b (.scr t, n)) r) Q := w_scr I i hio h0 (fun i x ρ a c => hs i x ρ a c _ rfl) hk
theorem v_items {m : List (Cs × List Cs)} {a b : Nat} {e : C} {body r : List S} (I : Nat → Env → Prop) (he : ev G cf ρ e = .ok (DN m, 0)) (hio : okJ cf.io [a, b] = true) (h0 : I 0 (frz ρ (names e)))
    (hs : ∀ i p ρ, m[i]? = some p → I i ρ → ∀ Q', Q' = Post.mk (I (i + 1)) Q.rt Q.ex → Sat (exB G cf (names e ++ L) ((ρ.set a (some (.str p.1, 9))).set b (some (LS p.2, 0))) body) Q') (hk : ∀ ρ, I m.length ρ → Sat (exB G cf L ρ r) Q) :
    Sat (thenR G cf L (exS G cf L ρ (.forD (.tup [a, b]) (.itm e) body)) r) Q := w_items I he hio h0 (fun i x ρ a c => hs i x ρ a c _ rfl) hk
theorem v_whl (P : Nat → Env → Prop) {t : C} {fuel : Nat} (n : Nat) (hn : n < fuel) (h0 : P n ρ) (hs : ∀ n ρ, P n ρ → (evB G cf ρ t = .ok false ∧ Sat (exB G cf L ρ r) Q) ∨ (evB G cf ρ t = .ok true ∧ ∀ Q', Q' = Post.mk (fun ρ' => ∃ n', n' < n ∧ P n' ρ') Q.rt Q.ex → Sat (exB G cf L ρ b) Q')) : Sat (thenR G cf L (whlR G cf L ρ fuel t b) r) Q :=
  w_whl P n hn h0 fun n ρ hp => (hs n ρ hp).imp id fun ⟨a, c⟩ => ⟨a, c _ rfl⟩
end
end Vy

namespace Vy
open PySem PySem.W PySem.W.KIN PySem.NumText
/-! ## figures -/
theorem codes_inj {m n : Nat} (h : codesOfInt (m : Int) = codesOfInt (n : Int)) : m = n := by
  have h1 : (Nat.toDigits 10 m).map Char.toNat = (Nat.toDigits 10 n).map Char.toNat := by
    rw [← signs_num, ← signs_num]; exact h
  have h2 := congrArg digitsVal h1
  rw [val_back, val_back] at h2
  exact h2
theorem codes_len (m : Nat) (h : m < 10007) : (codesOfInt (m : Int)).length ≤ 5 := by
  have : codesOfInt (m : Int) = (Nat.toDigits 10 m).map Char.toNat := signs_num m
  rw [this, List.length_map]
  exact (Nat.length_toDigits_le_iff (by omega) (by omega)).mpr (by omega)
theorem str_nat (m n : Nat) (h : m < 1000000000) : bifD .str [(.int (m : Int), n)] = some (.str (codesOfInt (m : Int)), 9) := by
  refine go_pos ?_
  have : (m : Int).natAbs = m := rfl
  rw [this]
  have h2 : m < 2 ^ 30 := by omega
  have := (Nat.log2_lt (n := m) (k := 30))
  by_cases e : m = 0
  · subst e; decide
  · have := (Nat.log2_lt e).mpr h2
    omega
end Vy

namespace Vy
/-! ## dicts from texts to plain values -/
variable {α : Type}
def getE : List (Cs × α) → Cs → Option α
  | [], _ => none
  | (a, b) :: r, k => if a = k then some b else getE r k
def putE : List (Cs × α) → Cs → α → List (Cs × α)
  | [], k, d => [(k, d)]
  | (a, b) :: r, k, d => if a = k then (a, d) :: r else (a, b) :: putE r k d
def dE (e : α → D) (m : List (Cs × α)) : List (Cs × D) := m.map fun p => (p.1, e p.2)
def DE (e : α → D) (m : List (Cs × α)) : D := DT (dE e m)
theorem getT_dE (e : α → D) (m : List (Cs × α)) (k : Cs) : getT (dE e m) k = (getE m k).map e := by
  induction m with
  | nil => rfl
  | cons p r ih =>
    obtain ⟨a, b⟩ := p
    show (if a == k then some (e b) else getT (dE e r) k) = (if a = k then some b else getE r k).map e
    by_cases h : a = k
    · simp [h]
    · have : (a == k) = false := by simpa using h
      simp [h, this, ih]
theorem putT_dE (e : α → D) (m : List (Cs × α)) (k : Cs) (l : α) : putT (dE e m) k (e l) = dE e (putE m k l) := by
  induction m with
  | nil => rfl
  | cons p r ih =>
    obtain ⟨a, b⟩ := p
    show (if a == k then (a, e l) :: dE e r else (a, e b) :: putT (dE e r) k (e l)) = dE e (if a = k then (a, l) :: r else (a, b) :: putE r k l)
    by_cases h : a = k
    · simp [h, dE]
    · have : (a == k) = false := by simpa using h
      simp only [this, h, if_false, Bool.false_eq_true, ih]
      rfl
theorem keys_dE (e : α → D) (m : List (Cs × α)) : (dE e m).map (·.1) = m.map (·.1) := by simp [dE, List.map_map, Function.comp_def]
theorem getE_mem {m : List (Cs × α)} {k : Cs} {l : α} (h : getE m k = some l) : (k, l) ∈ m := by
  induction m with
  | nil => cases h
  | cons p r ih =>
    obtain ⟨a, b⟩ := p
    rw [getE] at h
    by_cases e : a = k
    · subst e; simp at h; subst h; simp
    · rw [if_neg e] at h; exact List.mem_cons_of_mem _ (ih h)
theorem getE_of {m : List (Cs × α)} (hn : (m.map (·.1)).Nodup) {k : Cs} {l : α} (h : (k, l) ∈ m) : getE m k = some l := by
  induction m with
  | nil => cases h
  | cons p r ih =>
    obtain ⟨a, b⟩ := p
    simp only [List.map_cons, List.nodup_cons] at hn
    rw [getE]
    rcases List.mem_cons.mp h with e | e
    · cases e; simp
    · have : a ≠ k := fun z => hn.1 (z ▸ List.mem_map.mpr ⟨_, e, rfl⟩)
      rw [if_neg this]
      exact ih hn.2 e
theorem getE_none {m : List (Cs × α)} {k : Cs} : getE m k = none ↔ k ∉ m.map (·.1) := by
  induction m with
  | nil => simp [getE]
  | cons p r ih =>
    obtain ⟨a, b⟩ := p
    rw [getE]
    by_cases e : a = k
    · simp [e]
    · rw [if_neg e, ih]
      simp only [List.map_cons, List.mem_cons, not_or]
      exact ⟨fun h => ⟨fun z => e z.symm, h⟩, fun h => h.2⟩
theorem getE_put (m : List (Cs × α)) (k j : Cs) (l : α) : getE (putE m k l) j = if k = j then some l else getE m j := by
  induction m with
  | nil => simp [putE, getE]
  | cons p r ih =>
    obtain ⟨a, b⟩ := p
    rw [putE]
    by_cases h : a = k
    · subst h
      simp only [if_true, getE]
      by_cases h2 : a = j <;> simp [h2]
    · simp only [h, if_false, getE, ih]
      by_cases h2 : a = j
      · subst h2; simp [Ne.symm h]
      · simp [h2]
theorem keys_putE (m : List (Cs × α)) (k : Cs) (l : α) : (putE m k l).map (·.1) = if k ∈ m.map (·.1) then m.map (·.1) else m.map (·.1) ++ [k] := by
  induction m with
  | nil => simp [putE]
  | cons p r ih =>
    obtain ⟨a, b⟩ := p
    rw [putE]
    by_cases h : a = k
    · simp [h]
    · have h' : ¬ k = a := fun z => h z.symm
      simp only [h, if_false, List.map_cons, ih, List.mem_cons, h', false_or]
      split <;> simp
theorem nodup_putE {m : List (Cs × α)} (hn : (m.map (·.1)).Nodup) (k : Cs) (l : α) : ((putE m k l).map (·.1)).Nodup := by
  rw [keys_putE]
  by_cases h : k ∈ m.map (·.1)
  · rw [if_pos h]; exact hn
  · rw [if_neg h, List.nodup_append]
    exact ⟨hn, by simp, fun a ha b hb => by simp at hb; subst hb; exact fun z => h (z ▸ ha)⟩
theorem len_putE (m : List (Cs × α)) (k : Cs) (l : α) : (putE m k l).length ≤ m.length + 1 := by
  have := congrArg List.length (keys_putE m k l)
  simp only [List.length_map] at this
  rw [this]; split <;> simp
theorem mem_putE {m : List (Cs × α)} {k : Cs} {l : α} {p : Cs × α} (h : p ∈ putE m k l) : p = (k, l) ∨ p ∈ m := by
  induction m with
  | nil => simp [putE] at h; exact .inl h
  | cons q r ih =>
    obtain ⟨a, b⟩ := q
    rw [putE] at h
    by_cases e : a = k
    · rw [if_pos e] at h
      rcases List.mem_cons.mp h with h | h
      · subst e; exact .inl h
      · exact .inr (List.mem_cons_of_mem _ h)
    · rw [if_neg e] at h
      rcases List.mem_cons.mp h with h | h
      · exact .inr (by simp [h])
      · exact (ih h).imp id (List.mem_cons_of_mem _)
/-- a plain value's way of being told -/
class Enc (e : α → D) : Prop where
  md : ∀ a, (e a).mdep = 0
  uf : ∀ a, (e a).unfz = e a
  ok : ∀ a, eqOk (e a) = true ∧ (e a).dep ≤ 50 ∧ pyEq (e a) (e a) = true
section
variable (e : α → D) [I : Enc e]
theorem mdepE (m : List (Cs × α)) : mdepL ((dE e m).map (·.2)) = 0 := mdepL_zero fun d hd => by
  obtain ⟨p, hp, rfl⟩ := List.mem_map.mp hd
  obtain ⟨q, _, rfl⟩ := List.mem_map.mp hp
  exact I.md _
theorem mdep_DE (m : List (Cs × α)) : (DE e m).mdep = 1 := by unfold DE; rw [mdep_DT, mdepE e m]
@[simp] theorem norm_DE (m : List (Cs × α)) (n : Nat) : norm (DE e m, n) = (DE e m, n) := norm_DT _ _
theorem full_DE {m : List (Cs × α)} {n : Nat} (h : 1 ≤ n) : full (DE e m, n) = true := by
  have := mdep_DE e m
  simp [full]; omega
theorem full_DE0 (m : List (Cs × α)) : full (DE e m, 0) = false := by
  have := mdep_DE e m
  simp [full]; omega
theorem bind_DE {ρ : Env} {i n : Nat} {m : List (Cs × α)} {ns : List Nat} (h : 1 ≤ n) : bindV ρ i (DE e m, n) ns = ρ.set i (some (DE e m, n)) := by
  rw [bind_full (full_DE e h)]; simp [setV]
@[simp] theorem len_DE (m : List (Cs × α)) (n : Nat) : bifD .len [(DE e m, n)] = some (.int m.length, 9) := by
  unfold DE; rw [len_DT]; simp [dE]
theorem has_dE (m : List (Cs × α)) (k : Cs) : hasT (dE e m) k = decide (k ∈ m.map (·.1)) := by
  rw [Bool.eq_iff_iff, hasT_mem, keys_dE]; simp
@[simp] theorem in_DE (k : Cs) (m : List (Cs × α)) : cmpD .isin (.str k) (DE e m) = some (decide (k ∈ m.map (·.1))) := by unfold DE; rw [in_DT, has_dE]
@[simp] theorem notin_DE (k : Cs) (m : List (Cs × α)) : cmpD .notin (.str k) (DE e m) = some (!decide (k ∈ m.map (·.1))) := by unfold DE; rw [notin_DT, has_dE]
theorem sub_DE {m : List (Cs × α)} {k : Cs} {l : α} (h : getE m k = some l) : subD (DE e m) (.str k) = some (e l, 0) := by
  unfold DE
  rw [sub_DT (m := dE e m) (d := e l) (by rw [getT_dE, h]; rfl), I.uf]
theorem get_DE (m : List (Cs × α)) (k : Cs) (d : D) (n n1 n2 : Nat) : methD .get (DE e m, n) [(.str k, n1), (d, n2)] = some (match getE m k with | some x => (e x, 0) | none => (d, n2)) := by
  unfold DE
  rw [get_DT, getT_dE]
  cases getE m k <;> simp [I.uf]
theorem get1_DE (m : List (Cs × α)) (k : Cs) (n n1 : Nat) : methD .get (DE e m, n) [(.str k, n1)] = some (match getE m k with | some x => (e x, 0) | none => (.non, 9)) := by
  have h := get_DE e m k .non n n1 9
  simp only [methD] at h ⊢
  exact h
@[simp] theorem recv_DE (m : List (Cs × α)) : recvOk .get (DE e m) = true := id rfl
@[simp] theorem list_DE (m : List (Cs × α)) (n : Nat) : bifD .list [(DE e m, n)] = some (LS (m.map (·.1)), 9) := by unfold DE; rw [list_DT, keys_dE]
theorem DE_nil : D.dct [] [] = DE e [] := rfl
theorem disp_E : dispD [] = some (DE e [], 10) := rfl
@[simp] theorem isiOk_DE (m : List (Cs × α)) (k : IK) (h : ikOk k = true) : isiOk (DE e m) k = true := isiOk_dct _ _ _ h
theorem eq_DE {m : List (Cs × α)} (hn : (m.map (·.1)).Nodup) : cmpD .eq (DE e m) (DE e m) = some true := by
  unfold DE
  refine eq_DT (by rw [keys_dE]; exact hn) fun p hp => ?_
  obtain ⟨q, _, rfl⟩ := List.mem_map.mp hp
  exact I.ok _
theorem st_DE {G : Glo} {cf : Runs} {L : List Nat} {ρ : Env} {i n m1 m2 : Nat} {m : List (Cs × α)} {k : Cs} {l : α} {ck c : C} (h : (ρ[i]?).bind id = some (DE e m, n)) (hL : i ∉ L) (hn : 1 ≤ n) (hl : m.length + 1 < 16777216) (hk : ev G cf ρ ck = .ok (.str k, m1)) (he : ev G cf ρ c = .ok (e l, m2)) :
    exS G cf L ρ (.st ⟨i, []⟩ ck c) = .nx (ρ.set i (some (DE e (putE m k l), n))) := by
  obtain ⟨n, rfl⟩ : ∃ n', n = n' + 1 := ⟨n - 1, by omega⟩
  rw [st_DT (m := dE e m) (n := n) (k := k) (d := e l) h hL (by simpa [dE, SZ] using hl) hk he (by simp [full, I.md]), putT_dE]
  have : lvIn (n + 1) (e l, m2) = n + 1 := by unfold lvIn; simp [I.md]
  rw [this]; rfl
end
/-- a rank, or none -/
def rkD : Option Nat → D
  | none => .non
  | some n => .int (n : Int)
instance : Enc rkD where
  md a := by cases a <;> simp [rkD]
  uf a := by cases a <;> rfl
  ok a := by cases a <;> simp [rkD, eqOk, D.dep, pyEq]
end Vy

namespace Vy
/-! ## lists of rows of texts -/
def WL (ws : List (List Cs)) : D := .lst (ws.map LS)
theorem mdep_WL (ws : List (List Cs)) : (WL ws).mdep ≤ 2 ∧ (WL ws).mdep ≠ 0 := by
  have : mdepL (ws.map LS) ≤ 1 := mdepL_le fun d hd => by
    obtain ⟨q, _, rfl⟩ := List.mem_map.mp hd
    simp
  unfold WL
  rw [D.mdep]
  omega
@[simp] theorem norm_WL (ws : List (List Cs)) (n : Nat) : norm (WL ws, n) = (WL ws, n) := by unfold WL; exact norm_lst _ _
theorem full_WL {ws : List (List Cs)} {n : Nat} (h : 2 ≤ n) : full (WL ws, n) = true := by
  have := (mdep_WL ws).1
  simp [full]; omega
theorem full_WL0 (ws : List (List Cs)) : full (WL ws, 0) = false := by
  have := (mdep_WL ws).2
  simp [full]; omega
theorem bind_WL {ρ : Env} {i n : Nat} {ws : List (List Cs)} {ns : List Nat} (h : 2 ≤ n) : bindV ρ i (WL ws, n) ns = ρ.set i (some (WL ws, n)) := by
  rw [bind_full (full_WL h)]; simp [setV]
@[simp] theorem len_WL (ws : List (List Cs)) (n : Nat) : bifD .len [(WL ws, n)] = some (.int ws.length, 9) := by
  unfold WL; rw [len_lst, List.length_map]
theorem WL_nil : D.lst [] = WL [] := rfl
@[simp] theorem isiOk_WL (ws : List (List Cs)) (k : IK) (h : ikOk k = true) : isiOk (WL ws) k = true := isiOk_lst _ _ h
@[simp] theorem items_WL (ws : List (List Cs)) : itemsOf (WL ws) = some (ws.map LS) := id rfl
theorem sub_WL {ws : List (List Cs)} {j : Nat} {l : List Cs} (h : ws[j]? = some l) : subD (WL ws) (.int (j : Int)) = some (LS l, 0) := by
  have h2 : (ws.map LS)[(j : Int).toNat]? = some (LS l) := by simp [h]
  have := sub_lst (xs := ws.map LS) (i := (j : Int)) (by omega) h2
  exact this
/-- a row more -/
theorem app_WL {G : Glo} {cf : Runs} {L : List Nat} {ρ : Env} {i m n : Nat} {ws : List (List Cs)} {l : List Cs} {e : C} (h : (ρ[i]?).bind id = some (WL ws, m)) (hL : i ∉ L) (hm : 2 ≤ m) (hm2 : m ≤ n + 1) (hn : 1 ≤ n) (hl : ws.length + 1 ≤ SZ) (he : ev G cf ρ e = .ok (LS l, n)) :
    exS G cf L ρ (.app i e) = .nx (ρ.set i (some (WL (ws ++ [l]), m))) := by
  rw [exS_app, h]
  unfold WL
  simp only [he, onE_ok]
  unfold appD
  rw [if_neg hL, h]
  unfold WL
  simp only [List.length_map]
  rw [if_pos ⟨by omega, hl⟩, if_neg (by simp), if_pos (by simp [full, hn]), setV, norm_lst, List.map_append, Nat.min_eq_left hm2]
  rfl
/-- a text more in one of them -/
theorem appAt_WL {G : Glo} {cf : Runs} {L : List Nat} {ρ : Env} {i n j m1 m2 : Nat} {ws : List (List Cs)} {l : List Cs} {y : Cs} {ck e : C} (h : (ρ[i]?).bind id = some (WL ws, n)) (hL : i ∉ L) (hn : 2 ≤ n) (hj : ws[j]? = some l) (hl : l.length + 1 ≤ SZ) (hk : ev G cf ρ ck = .ok (.int (j : Int), m1)) (he : ev G cf ρ e = .ok (.str y, m2)) :
    exS G cf L ρ (.expX (.mop ⟨i, [.ix ck]⟩ .app [e])) = .nx (ρ.set i (some (WL (ws.set j (l ++ [y])), n))) := by
  obtain ⟨n, rfl⟩ : ∃ n', n = n' + 1 := ⟨n - 1, by omega⟩
  have hjl : j < ws.length := (List.getElem?_eq_some_iff.mp hj).1
  have hpos : posP (WL ws) (.at (.int (j : Int))) = some j := by
    show ix (ws.map LS).length (j : Int) = some j
    unfold ix
    rw [if_pos (by omega), List.length_map, if_pos (by omega)]
    simp
  have hkid : (ws.map LS)[j]? = some (LS l) := by simp [hj]
  have hget : getP (WL ws, n + 1) [.at (.int (j : Int))] = some (LS l, n) := by
    show (posP (WL ws) (.at (.int (j : Int)))).bind _ = _
    rw [hpos]
    simp only [Option.bind_some]
    show ((ws.map LS)[j]?).bind _ = _
    rw [hkid]; rfl
  obtain ⟨n, rfl⟩ : ∃ n', n = n' + 1 := ⟨n - 1, by omega⟩
  have happ : nodeOp .app (LS l, n + 1) [(.str y, m2)] = some ((LS (l ++ [y]), n + 1), (.non, 9)) := by
    show go _ _ = _
    rw [go_pos (by simpa using hl)]
    simp [lvIn, LS_eq]
  have hty : mTy .app (LS l, n + 1) = true := by
    show (decide (1 ≤ n + 1) && true) = true
    simp
  have hput : putP (WL ws) [.at (.int (j : Int))] (LS (l ++ [y])) = WL (ws.set j (l ++ [y])) := by
    show (match posP (WL ws) (.at (.int (j : Int))) with | some j => _ | none => _) = _
    rw [hpos]
    simp only
    show (match (ws.map LS)[j]? with | some d' => setK (WL ws) j (putP d' [] (LS (l ++ [y]))) | none => _) = _
    rw [hkid]
    simp only
    show D.lst ((ws.map LS).set j (LS (l ++ [y]))) = _
    unfold WL
    rw [List.map_set]
  rw [exS_expX, exX_mop]
  simp only [rsv_at, rsv_nil, hk, noX_ok, Out.bind_ok, onO_ok, nodeP, h, Option.bind_some, hget, Option.map_some, OX.of_some, hty, if_true, evs_cons, evs_nil, he]
  unfold mopX
  rw [if_neg hL, h]
  simp only [Option.bind_some, hget, happ, List.all_cons, List.all_nil, full_str, Bool.and_self, if_true]
  unfold chgP
  rw [h]
  simp only [Option.bind_some, hget, Option.map_some, OX.of_some, onX_ok, hput]
  have : min (n + 1 + 1) (n + 1 + [Rtp.at (D.int (j : Int))].length) = n + 1 + 1 := by simp
  rw [this]
  simp [setV]
section
variable {G : Glo} {cf : Runs} {L : List Nat} {ρ : Env} {Q : Post} {α : Type}
theorem evi_DE (e : α → D) [Enc e] {c : C} {m : List (Cs × α)} {n : Nat} (h : ev G cf ρ c = .ok (DE e m, n)) : ev G cf ρ (.itm c) = .ok (.lst (m.map fun p => .tup [.str p.1, e p.2]), if 1 ≤ n then 9 else 0) := by
  have hm := mdep_DE e m
  rw [ev, h]
  simp only [Out.bind_ok]
  have : zipD ((dE e m).map fun p => .str p.1) ((dE e m).map (·.2)) = m.map fun p => .tup [.str p.1, e p.2] := by
    rw [itm_DT]; simp [dE, List.map_map, Function.comp_def]
  rw [← this, ← hm]
  rfl
theorem itE_md (e : α → D) [I : Enc e] (m : List (Cs × α)) : mdepL (m.map fun p => D.tup [.str p.1, e p.2]) = 0 := mdepL_zero fun d hd => by
  obtain ⟨p, _, rfl⟩ := List.mem_map.mp hd
  simp [D.mdep, mdepL, I.md]
/-- for a, b in d.items(), plain values, d one's own or a call's -/
theorem v_itE (e : α → D) [N : Enc e] {m : List (Cs × α)} {a b n : Nat} {c : C} {body r : List S} (I : Nat → Env → Prop) (hn : 1 ≤ n) (he : ev G cf ρ c = .ok (DE e m, n)) (hio : okJ cf.io [a, b] = true) (h0 : I 0 ρ)
    (hs : ∀ i p ρ, m[i]? = some p → I i ρ → ∀ Q', Q' = Post.mk (I (i + 1)) Q.rt Q.ex → Sat (exB G cf L ((ρ.set a (some (.str p.1, 9))).set b (some (e p.2, 9))) body) Q') (hk : ∀ ρ, I m.length ρ → Sat (exB G cf L ρ r) Q) :
    Sat (thenR G cf L (exS G cf L ρ (.forD (.tup [a, b]) (.itm c) body)) r) Q := by
  refine sat_thenR ?_ hk
  have hf : full (.lst (m.map fun p => D.tup [.str p.1, e p.2]), 9) = true := by
    have := itE_md e m
    simp [full, D.mdep, this]
  rw [exS_forD, evi_DE e he, if_pos hn]
  simp only [onE_ok]
  unfold forDS
  simp only [itemsOf]
  rw [onJ, show okJ cf.io (Tg.tup [a, b]).is = true from hio]
  simp only [if_true, hf]
  have := sat_forL (Q := Q) (xs := m.map fun p => D.tup [.str p.1, e p.2]) (I := I) (f := fun ρ d => putS ρ (.tup [a, b]) d fun ρ => exB G cf L ρ body) (fun i x ρ hx hi => by
    rw [List.getElem?_map] at hx
    obtain ⟨p, hp, rfl⟩ := Option.map_eq_some_iff.mp hx
    have : norm (e p.2, 0) = (e p.2, 9) := by unfold norm; rw [if_pos (N.md _)]
    rw [putS_two, norm_str, this]
    exact hs i p ρ hp hi _ rfl) _ h0
  rw [List.length_map] at this
  exact this
end
end Vy

namespace Vy
open PySem PySem.Spec
open PyProof.Rows hiding St
open L2
/-! ## comprehensions over a dict's keys -/
section
variable {X : Cx} {nm : Nm} {G : Glo} {CA : Nat → Addr} {cf : Runs} {W : WX}
/-- the turns of a comprehension, from where its walk begins -/
theorem lc_loop {is0 : List Nat} {tg : Tg} {t : Option C} {e : C} {g : TG} {σ : St} {H1 : Hp} {Q : VK} {S : Slots} {xs : List D} {J : It} {Ns : List Addr} {P : Hp → Prop} {ps : List (D × Nat)} {f : D → Out (Option (D × Nat))} (hg : TgOk X.K CA tg g) (nd : ∀ l, tg = .tup l → l.Nodup) (hi : ∀ i ∈ tg.is, i < σ.length)
    (sr : SRep X.K CA S σ H1) (hP : P H1) (w : Walk X.K CA J xs Ns P) (hf : (fun d => (tg.put (envOf S) d).bind fun ρ' => (evt G cf ρ' t).bind fun b => if b = true then (ev G cf ρ' e).bind fun y => .ok (some y) else .ok none) = f) (e2 : compL f xs = .ok ps) (Dd : Addr) (hDn : H1 Dd = none)
    (fin : ∀ Hc vs O Z, Hc Dd = some (.lst vs) → PVs X.K CA (fun a => Nod S (is0 ++ (namesO t ++ names e)) a ∨ a ∈ Ns) H1 Hc ps vs O Z → Dd ∉ O ++ Z → Same H1 Hc → P Hc → Q (.ref Dd) Hc) :
    ∃ V : Nat → Nat → Hp → Prop, (∃ m, V 0 m (upd H1 Dd (.lst []))) ∧ ∀ i m H, V i m H →
      (J.stop i H ∧ Q (.ref Dd) H) ∨ (J.go i H ∧ ∃ Nx : Hp → Prop, (∀ H', Nx H' → ∃ m', m' < m ∧ V (i + 1) m' H') ∧ ∀ x H', J.yld i H x H' → g x (wipe σ tg.is) H' fun σ2 H2 => wipe σ2 tg.is = wipe σ tg.is ∧ tTo X G CA cf W0 t σ2 H2 fun b H3 =>
        if b = true then tE X G CA cf W0 e σ2 H3 fun y H4 => ∃ acc, H4 Dd = some (.lst acc) ∧ acc.length < sizeLine ∧ Nx (upd H4 Dd (.lst (acc ++ [y]))) else Nx H3) := by
  have hlen := compL_len e2
  let M1 : Addr → Prop := fun a => Nod S (is0 ++ (namesO t ++ names e)) a ∨ a ∈ Ns
  have hN0 : ∀ a ∈ Ns, H1 a ≠ none := w.there H1 hP
  have hDN : Dd ∉ Ns := fun z => hN0 Dd z hDn
  have sNod : ∀ {is : List Nat} {a : Addr}, Nod S is a → H1 a ≠ none := fun h => h.there' sr
  refine ⟨fun i m Hc => m = xs.length - i ∧ i ≤ xs.length ∧ ∃ done rest vs O Z, ps = done ++ rest ∧ compL f (xs.drop i) = .ok rest ∧ Hc Dd = some (.lst vs) ∧ PVs X.K CA M1 H1 Hc done vs O Z ∧ Dd ∉ O ++ Z ∧ Same H1 Hc ∧ P Hc, ?_, ?_⟩
  · refine ⟨xs.length, rfl, Nat.zero_le _, [], ps, [], [], [], rfl, e2, upd_same, .nil, by simp, sameNew hDn, ?_⟩
    exact w.keep [] H1 _ hP (keepS (sameNew hDn)) (fun a z => by simp at z) (by simp)
  · rintro i m Hc ⟨rfl, hil, done, rest, vs, O, Z, hps, hr, hD, pv, hDO, sc, hPc⟩
    have srw : SRep X.K CA (wipeS S tg.is) (wipe σ tg.is) Hc := (sr.same sc).wipe tg.is
    by_cases hlt : i < xs.length
    · right
      refine ⟨w.go i Hc hlt hPc, fun H' => ∃ done rest vs O Z, ps = done ++ rest ∧ compL f (xs.drop (i + 1)) = .ok rest ∧ H' Dd = some (.lst vs) ∧ PVs X.K CA M1 H1 H' done vs O Z ∧ Dd ∉ O ++ Z ∧ Same H1 H' ∧ P H', fun H' hx => ⟨xs.length - (i + 1), by omega, rfl, by omega, hx⟩, fun x H2 hy => ?_⟩
      have hxi : xs[i]? = some xs[i] := List.getElem?_eq_getElem hlt
      obtain ⟨s2, Zx, rx, hZx⟩ := w.yld i Hc x H2 xs[i] hPc hxi hy
      rw [List.drop_eq_getElem_cons hlt] at hr
      have hput : ∀ ρ', tg.put (envOf S) xs[i] = .ok ρ' → (evt G cf ρ' t).bind (fun b => if b = true then (ev G cf ρ' e).bind fun y => .ok (some y) else .ok none) = f xs[i] → g x (wipe σ tg.is) H2 fun σ2 H2 => wipe σ2 tg.is = wipe σ tg.is ∧ tTo X G CA cf W0 t σ2 H2 fun b H3 =>
          if b = true then tE X G CA cf W0 e σ2 H3 fun y H4 => ∃ acc, H4 Dd = some (.lst acc) ∧ acc.length < sizeLine ∧ (fun H' => ∃ done rest vs O Z, ps = done ++ rest ∧ compL f (xs.drop (i + 1)) = .ok rest ∧ H' Dd = some (.lst vs) ∧ PVs X.K CA M1 H1 H' done vs O Z ∧ Dd ∉ O ++ Z ∧ Same H1 H' ∧ P H') (upd H4 Dd (.lst (acc ++ [y])))
          else (fun H' => ∃ done rest vs O Z, ps = done ++ rest ∧ compL f (xs.drop (i + 1)) = .ok rest ∧ H' Dd = some (.lst vs) ∧ PVs X.K CA M1 H1 H' done vs O Z ∧ Dd ∉ O ++ Z ∧ Same H1 H' ∧ P H') H3 := by
        intro ρ' hp hfx
        refine hg (wipeS S tg.is) (wipe σ tg.is) H2 xs[i] x Zx ρ' _ (srw.same s2) rx (by rw [put_wipe nd]; exact hp) (fun j hj => by rw [wipeS_len, sr.len]; exact hi j hj) fun S' σ' sr' hρ pu => ?_
        refine ⟨by rw [pu.wipe, wipe_wipe], S', sr', ?_⟩
        rw [hρ]
        have keepP : ∀ {H4 : Hp} {o : HO}, Same Hc H4 → P (upd H4 Dd o) ∧ P H4 := fun {H4 o} s => by
          have p4 : P H4 := w.keep [] Hc _ hPc (keepS s) (fun a z => by simp at z) (by simp)
          refine ⟨w.keep [Dd] H4 _ p4 (fun c u e hc => by rw [upd_ne (by simpa using hc)]; exact e) (fun c hc => ?_) (fun a ha z => ?_), p4⟩
          · simp at hc; subst hc; rw [s _ _ hD]; trivial
          · simp at z; subst z; exact hDN ha
        cases e3 : evt G cf ρ' t with
        | exc y => rw [e3] at hfx; exact (compL_hd hr).elim (fun z => by rw [← hfx] at z; cases z) fun ⟨_, z⟩ => by rw [← hfx] at z; cases z
        | bad => rw [e3] at hfx; exact (compL_hd hr).elim (fun z => by rw [← hfx] at z; cases z) fun ⟨_, z⟩ => by rw [← hfx] at z; cases z
        | ok b =>
        rw [e3] at hfx
        simp only [Out.bind_ok] at hfx
        intro H3 s3
        cases b with
        | false =>
          simp only [Bool.false_eq_true, if_false] at hfx ⊢
          rcases compL_cons hr with ⟨y, ys, z, _⟩ | ⟨_, z⟩
          · rw [← hfx] at z; cases z
          · have s23 : Same Hc H3 := s2.trans s3
            exact ⟨done, rest, vs, O, Z, hps, z, s23 _ _ hD, pv.later s23, hDO, sc.trans s23, (keepP (o := .lst []) s23).2⟩
        | true =>
          simp only [if_true] at hfx ⊢
          refine ⟨S', sr'.same s3, ?_⟩
          rw [hρ]
          cases e4 : ev G cf ρ' e with
          | exc y => rw [e4] at hfx; exact (compL_hd hr).elim (fun z => by rw [← hfx] at z; cases z) fun ⟨_, z⟩ => by rw [← hfx] at z; cases z
          | bad => rw [e4] at hfx; exact (compL_hd hr).elim (fun z => by rw [← hfx] at z; cases z) fun ⟨_, z⟩ => by rw [← hfx] at z; cases z
          | ok y =>
          rw [e4] at hfx
          simp only [Out.bind_ok] at hfx
          intro yv H4 Oy Zy py
          rcases compL_cons hr with ⟨y', ys, z, z2, z3, _⟩ | ⟨z, _⟩
          rotate_left
          · rw [← hfx] at z; cases z
          · rw [← hfx] at z; cases z
            subst z3
            have s23 : Same Hc H3 := s2.trans s3
            have s24 : Same Hc H4 := s23.trans py.same
            have h13 : Same H1 H3 := sc.trans s23
            have hD4 : H4 Dd = some (.lst vs) := s24 _ _ hD
            have M1of : ∀ a, Nod S' (names e) a → M1 a := fun a hn => by
              rcases pu.nod hn with z | z
              · exact .inl (Nod.r (Nod.r z.wipe))
              · exact .inr (hZx a z)
            have M1th : ∀ a, M1 a → H1 a ≠ none := fun a z => z.elim (fun z => sNod z) (hN0 a)
            have pvl : vs.length = done.length := pv.length.symm
            refine ⟨vs, hD4, ?_, ?_⟩
            · rw [SZ_eq, pvl]
              have := congrArg List.length hps
              simp at this
              omega
            · have py1 : PVal X.K CA M1 H1 H4 y.1 y.2 yv Oy Zy := (py.mono M1of).ahead h13
              have hDy : Dd ∉ Oy ++ Zy := fun z => by
                rcases List.mem_append.mp z with z | z
                · have := py.fresh Dd z; rw [s23 _ _ hD] at this; cases this
                · rcases py.zin Dd z with z | z
                  · rw [s23 _ _ hD] at z; cases z
                  · exact M1th Dd (M1of _ z) hDn
              refine ⟨done ++ [y], ys, vs ++ [yv], O ++ Oy, Z ++ Zy, by rw [hps]; simp, z2, upd_same, ?_, ?_, ?_, (keepP s24).1⟩
              · refine PVs.snoc ((pv.later s24).updD hD4 hDn hDO) (py1.updD hD4 hDn hDy) (fun a ha z => ?_) (fun a ha z => ?_)
                · exact same_there s23 (pv.there a z) (py.fresh a ha)
                · have h1 := pv.fresh a ha
                  have h3 : H3 a ≠ none := same_there s23 (pv.there a (by simp [ha]))
                  rcases py.zin a z with q | q
                  · exact h3 q
                  · exact M1th a (M1of _ q) h1
              · intro z
                simp only [List.mem_append] at z hDO hDy
                rcases z with (z | z) | z | z
                · exact hDO (.inl z)
                · exact hDy (.inl z)
                · exact hDO (.inr z)
                · exact hDy (.inr z)
              · intro c u hc
                have : c ≠ Dd := fun q => by rw [q, hDn] at hc; cases hc
                rw [upd_ne this]
                exact (sc.trans s24) c u hc
      have key : ∃ ρ', tg.put (envOf S) xs[i] = .ok ρ' ∧ (evt G cf ρ' t).bind (fun b => if b = true then (ev G cf ρ' e).bind fun y => .ok (some y) else .ok none) = f xs[i] := by
        have hfx : f xs[i] = (tg.put (envOf S) xs[i]).bind fun ρ' => (evt G cf ρ' t).bind fun b => if b = true then (ev G cf ρ' e).bind fun y => .ok (some y) else .ok none := by rw [← hf]
        cases e3 : tg.put (envOf S) xs[i] with
        | ok ρ' => rw [e3] at hfx; exact ⟨ρ', rfl, hfx.symm⟩
        | exc y => rw [e3] at hfx; unfold compL at hr; rw [hfx] at hr; cases hr
        | bad => rw [e3] at hfx; unfold compL at hr; rw [hfx] at hr; cases hr
      obtain ⟨ρ', k1, k2⟩ := key
      exact hput ρ' k1 k2
    · left
      have hie : i = xs.length := by omega
      subst hie
      refine ⟨w.stop Hc hPc, ?_⟩
      rw [List.drop_length] at hr
      cases hr
      rw [List.append_nil] at hps
      subst hps
      exact fin Hc vs O Z hD pv hDO sc hPc
end
/-! ### values do not hang on levels -/
def zL (ρ : Env) : Env := ρ.map fun o => o.map fun p => (p.1, 0)
theorem zL_get (ρ : Env) (i : Nat) : (((zL ρ)[i]?).bind id).map (fun p => (p.1, (0 : Nat))) = ((ρ[i]?).bind id).map fun p => (p.1, 0) := by
  unfold zL
  rw [List.getElem?_map]
  cases ρ[i]? with
  | none => rfl
  | some o => cases o <;> rfl
theorem zL_set (ρ : Env) (i : Nat) (q : D × Nat) : zL (setV (zL ρ) i q) = zL (setV ρ i q) := by
  unfold zL setV
  rw [List.map_set, List.map_set, List.map_map]
  congr 1
  refine List.map_congr_left fun o _ => ?_
  cases o <;> rfl
theorem zL_fold : ∀ (l : List (Nat × D)) (ρ ρ' : Env), zL ρ = zL ρ' → zL (l.foldl (fun r p => setV r p.1 (p.2, 0)) ρ) = zL (l.foldl (fun r p => setV r p.1 (p.2, 0)) ρ')
  | [], ρ, ρ', h => h
  | p :: l, ρ, ρ', h => zL_fold l _ _ (by rw [← zL_set ρ, h, zL_set ρ'])
theorem zL_z (ρ : Env) : zL (zL ρ) = zL ρ := by
  unfold zL
  rw [List.map_map]
  refine List.map_congr_left fun o _ => ?_
  cases o <;> rfl
theorem put_z {β : Type} (tg : Tg) (ρ : Env) (d : D) (F : Env → Out β) (hF : ∀ r, F r = F (zL r)) : (tg.put ρ d).bind F = (tg.put (zL ρ) d).bind F := by
  cases tg with
  | one i =>
    show F _ = F _
    rw [hF, hF (setV (zL ρ) i _), zL_set]
  | tup is =>
    cases d <;> try rfl
    rename_i ds
    show (gd _ _).bind F = (gd _ _).bind F
    unfold gd
    split
    · show F _ = F _
      rw [hF, hF (List.foldl _ (zL ρ) _)]
      congr 1
      exact zL_fold _ _ _ (zL_z ρ).symm
    · rfl
section
variable (G : Glo) (cf : Runs)
mutual
theorem ev_z : ∀ (c : C) (ρ : Env), ev G cf ρ c = ev G cf (zL ρ) c
  | .cst d, ρ => by rw [ev, ev]
  | .var i, ρ => by rw [ev, ev, zL_get]
  | .glb g, ρ => by rw [ev, ev]
  | .bin o a b, ρ => by rw [ev, ev, ev_z a ρ, ev_z b ρ]
  | .cmp o a b, ρ => by rw [ev, ev, ev_z a ρ, ev_z b ρ]
  | .chn o p a b c, ρ => by rw [ev, ev, ev_z a ρ, ev_z b ρ, ev_z c ρ]
  | .not a, ρ => by rw [ev, ev, ev_z a ρ]
  | .neg a, ρ => by rw [ev, ev, ev_z a ρ]
  | .and a b, ρ => by rw [ev, ev, ev_z a ρ, ev_z b ρ]
  | .or a b, ρ => by rw [ev, ev, ev_z a ρ, ev_z b ρ]
  | .ife t a b, ρ => by rw [ev, ev, ev_z t ρ, ev_z a ρ, ev_z b ρ]
  | .tup es, ρ => by rw [ev, ev, evs_z es ρ]
  | .lst es, ρ => by rw [ev, ev, evs_z es ρ]
  | .dct xs es, ρ => by rw [ev, ev, evs_z es ρ]
  | .sub a i, ρ => by rw [ev, ev, ev_z a ρ, ev_z i ρ]
  | .slc a lo hi, ρ => by rw [ev, ev, ev_z a ρ, evo_z lo ρ, evo_z hi ρ]
  | .rev a, ρ => by rw [ev, ev, ev_z a ρ]
  | .rvl a, ρ => by rw [ev, ev, ev_z a ρ]
  | .cal f es, ρ => by rw [ev, ev, evs_z es ρ]
  | .bif f es, ρ => by rw [ev, ev, evs_z es ρ]
  | .mth m o es, ρ => by rw [ev, ev, ev_z o ρ, evs_z es ρ]
  | .fld a f, ρ => by rw [ev, ev, ev_z a ρ]
  | .isi a k, ρ => by rw [ev, ev, ev_z a ρ]
  | .lc it tg t e, ρ => by
    rw [ev, ev, ev_z it ρ]
    have : (fun d => (tg.put ρ d).bind fun ρ' => (evt G cf ρ' t).bind fun b => if b = true then (ev G cf ρ' e).bind fun y => .ok (some y) else .ok none) = fun d => (tg.put (zL ρ) d).bind fun ρ' => (evt G cf ρ' t).bind fun b => if b = true then (ev G cf ρ' e).bind fun y => .ok (some y) else .ok none := by
      funext d
      exact put_z tg ρ d _ fun r => by rw [evt_z t r, ev_z e r]
    rw [this]
  | .rng es, ρ => by rw [ev, ev, evs_z es ρ]
  | .enu e, ρ => by rw [ev, ev, ev_z e ρ]
  | .zip a b, ρ => by rw [ev, ev, ev_z a ρ, ev_z b ρ]
  | .itm e, ρ => by rw [ev, ev, ev_z e ρ] <;> rfl
  | .kys e, ρ => by rw [ev, ev, ev_z e ρ] <;> rfl
  | .rvs e, ρ => by rw [ev, ev, ev_z e ρ] <;> rfl
theorem evs_z : ∀ (es : List C) (ρ : Env), evs G cf ρ es = evs G cf (zL ρ) es
  | [], ρ => by rw [evs, evs]
  | e :: es, ρ => by rw [evs, evs, ev_z e ρ, evs_z es ρ]
theorem evo_z : ∀ (o : Option C) (ρ : Env), evo G cf ρ o = evo G cf (zL ρ) o
  | none, ρ => by rw [evo, evo]
  | some e, ρ => by rw [evo, evo, ev_z e ρ] <;> rfl
theorem evt_z : ∀ (o : Option C) (ρ : Env), evt G cf ρ o = evt G cf (zL ρ) o
  | none, ρ => by rw [evt, evt]
  | some e, ρ => by rw [evt, evt, ev_z e ρ]
end
end
/-! ### slots that own nothing -/
section
variable {K : PySem.W.Frag} {CA : Nat → Addr} {H : Hp}
theorem zS0 : ∀ (S : Slots), (∀ (i : Nat) (r : Root), S[i]? = some (some r) → ∃ Z', Rep K CA H 0 r.d r.v [] Z' ∧ ∀ a ∈ Z', a ∈ r.O ++ r.Z) →
    ∃ S1 : Slots, S1.length = S.length ∧ ∀ i : Nat, (S[i]? = some none → S1[i]? = some none) ∧ ∀ r : Root, S[i]? = some (some r) → ∃ Z', S1[i]? = some (some ⟨r.d, 0, r.v, [], Z'⟩) ∧ Rep K CA H 0 r.d r.v [] Z' ∧ ∀ a ∈ Z', a ∈ r.O ++ r.Z
  | [], _ => ⟨[], rfl, fun i => ⟨fun h => by simp at h, fun r h => by simp at h⟩⟩
  | o :: S, h => by
    obtain ⟨S1, h1, h2⟩ := zS0 S fun i r e => h (i + 1) r (by simpa using e)
    cases o with
    | none =>
      refine ⟨none :: S1, by simp [h1], fun i => ?_⟩
      cases i with
      | zero => exact ⟨fun _ => rfl, fun r e => by simp at e⟩
      | succ i => simpa using h2 i
    | some r =>
      obtain ⟨Z', q1, q2⟩ := h 0 r rfl
      refine ⟨some ⟨r.d, 0, r.v, [], Z'⟩ :: S1, by simp [h1], fun i => ?_⟩
      cases i with
      | zero => exact ⟨fun e => by simp at e, fun r' e => by
          have : r = r' := by simpa using e
          subst this
          exact ⟨Z', rfl, q1, q2⟩⟩
      | succ i => simpa using h2 i
theorem zS {S : Slots} {σ : St} (sr : SRep K CA S σ H) : ∃ S1 : Slots, SRep K CA S1 σ H ∧ envOf S1 = zL (envOf S) ∧ (∀ a, ¬ Own S1 a) ∧ ∀ is a, Nod S1 is a → Nod S is a := by
  obtain ⟨S1, h1, h2⟩ := zS0 (K := K) (CA := CA) (H := H) S fun i r e => by
    obtain ⟨q1, q2⟩ := sr.rep i r e
    obtain ⟨O', Z', r', l⟩ := q2.low (Nat.zero_le _)
    have := r'.zero
    subst this
    exact ⟨Z', r', fun a ha => by rcases l.all a ha with z | z <;> simp [z]⟩
  have back : ∀ (i : Nat) (r1 : Root), S1[i]? = some (some r1) → ∃ r, S[i]? = some (some r) ∧ ∃ Z', r1 = ⟨r.d, 0, r.v, [], Z'⟩ ∧ Rep K CA H 0 r.d r.v [] Z' ∧ ∀ a ∈ Z', a ∈ r.O ++ r.Z := fun i r1 e => by
    cases hs : S[i]? with
    | none =>
      have : i < S1.length := (List.getElem?_eq_some_iff.mp e).1
      rw [List.getElem?_eq_none_iff] at hs
      omega
    | some o =>
      cases o with
      | none => rw [(h2 i).1 hs] at e; cases e
      | some r =>
        obtain ⟨Z', q1, q2, q3⟩ := (h2 i).2 r hs
        rw [q1] at e
        cases e
        exact ⟨r, rfl, Z', rfl, q2, q3⟩
  refine ⟨S1, ⟨h1.trans sr.len, fun i r1 e => ?_⟩, ?_, fun a ⟨i, r1, e, z⟩ => ?_, fun is a ⟨i, hi, r1, e, z⟩ => ?_⟩
  · obtain ⟨r, hr, Z', rfl, q2, q3⟩ := back i r1 e
    exact ⟨(sr.rep i r hr).1, q2⟩
  · refine List.ext_getElem? fun i => ?_
    unfold envOf zL
    rw [List.getElem?_map, List.getElem?_map, List.getElem?_map]
    cases hs : S[i]? with
    | none =>
      have : S1[i]? = none := by
        rw [List.getElem?_eq_none_iff] at hs ⊢
        omega
      rw [this]; rfl
    | some o =>
      cases o with
      | none => rw [(h2 i).1 hs]; rfl
      | some r =>
        obtain ⟨Z', q1, _⟩ := (h2 i).2 r hs
        rw [q1]; rfl
  · obtain ⟨r, hr, Z', rfl, q2, q3⟩ := back i r1 e
    simp at z
  · obtain ⟨r, hr, Z', rfl, q2, q3⟩ := back i r1 e
    exact ⟨i, hi, r, hr, q3 a (by simpa using z)⟩
end
section
variable {X : Cx} {nm : Nm} {G : Glo} {CA : Nat → Addr} {cf : Runs} {W : WX}
theorem pe_un {e : Expr} {t : TE} (h : PE X e t) : PE X e (fun σ H Q => t σ H fun v => Un X (Q v)) := by
  refine ⟨fun pins s σ H Q I hw => ?_⟩
  refine thn (h.run pins s σ H _ I hw) fun v s1 ⟨x, H1, I1, r, q⟩ => ?_
  rcases q with q | ⟨d, od, u, e, hn, q⟩
  · exact ⟨x, H1, I1, r, q⟩
  · exact ⟨x, _, I1.unlock e hn, r, q⟩
theorem lcK_sem {c : C} {tg : Tg} {t : Option C} {e : C} {g : TG} {σ : St} {H : Hp} {Q : VK} (hg : TgOk X.K CA tg g) (nd : ∀ l, tg = .tup l → l.Nodup) (hi : ∀ i ∈ tg.is, i < σ.length)
    (h : tE X G CA cf W (.lc (.kys c) tg t e) σ H Q) : tLc (fun σ H R => tLk X (tE X G CA cf W c) σ H fun x H1 => ∃ d o kvs, x = .ref d ∧ H1 d = some (.frz o (.dK kvs)) ∧ R (Itk d o kvs) H1) g (tTo X G CA cf W0 t) (tE X G CA cf W0 e) tg.is σ H (fun v => Un X (Q v)) := by
  obtain ⟨S, sr, hd⟩ := h
  rw [ev, ev] at hd
  refine ⟨S, sr, ?_⟩
  cases e1 : ev G cf (envOf S) c with
  | exc x => rw [e1] at hd; exact hd
  | bad => rw [e1] at hd; exact hd.elim
  | ok p =>
  rw [e1] at hd
  obtain ⟨d0, n⟩ := p
  cases d0 <;> first | exact hd.elim | skip
  rename_i ks vs
  simp only [Out.bind_ok, itemsOf, Out.of_some] at hd
  generalize hf : (fun d => (tg.put (envOf S) d).bind fun ρ' => (evt G cf ρ' t).bind fun b => if b = true then (ev G cf ρ' e).bind fun y => .ok (some y) else .ok none) = f at hd
  cases e2 : compL f ks with
  | exc x => exact absurd e2 compL_exc
  | bad => rw [e2] at hd; exact hd.elim
  | ok ps =>
  rw [e2] at hd
  obtain ⟨S1, sr1, hz, hno, hnod⟩ := zS sr
  have hf1 : (fun d => (tg.put (envOf S1) d).bind fun ρ' => (evt G cf ρ' t).bind fun b => if b = true then (ev G cf ρ' e).bind fun y => .ok (some y) else .ok none) = f := by
    rw [← hf, hz]
    funext d
    exact (put_z tg (envOf S) d _ fun r => by rw [evt_z G cf t r, ev_z G cf e r]).symm
  intro v H1 O Z pv
  obtain ⟨a, kvs, O', Z', m', rfl, hrd, hko, hrs, hO, hZ⟩ := pv.rep.dct_inv
  have ha : a ∈ O ++ Z := by
    have := pv.rep
    cases this with
    | dctO _ _ _ => simp
    | dctZ _ _ _ => simp
  obtain ⟨Z0, r0, h0⟩ := hrs.zeroed
  have hz0 : ∀ b ∈ Z0, b ∈ O ++ Z := fun b hb => by
    rcases h0 b hb with z | z
    · simp [hO b z]
    · simp [hZ b z]
  have th : ∀ b ∈ O ++ Z, H1 b ≠ none := fun b hb => pv.rep.there b hb
  have zz : ∀ b ∈ O ++ Z, H b = none ∨ Nod S (names c) b := fun b hb => by
    rcases List.mem_append.mp hb with q | q
    · exact .inl (pv.fresh b q)
    · exact pv.zin b q
  -- what is made, from where the walk began
  have fin : ∀ (HL Hc Hd : Hp) (Dd : Addr) (vs' : List V) (O2 Z2 : List Addr), (∀ b, HL b = none → H b = none) → HL Dd = none → Hd Dd = some (.lst vs') →
      PVs X.K CA (fun b => Nod S1 (names c ++ (namesO t ++ names e)) b ∨ b ∈ O ++ Z) HL Hc ps vs' O2 Z2 → Dd ∉ O2 ++ Z2 → Same H Hd →
      (∀ (m : Nat) (O3 Z3 : List Addr), Reps X.K CA Hc m (ps.map (·.1)) vs' O3 Z3 → (∀ b ∈ O3, b ∈ O2) → Reps X.K CA Hd m (ps.map (·.1)) vs' O3 Z3) → Q (.ref Dd) Hd := fun HL Hc Hd Dd vs' O2 Z2 hfr hDn hD pw hDO sH sw => by
    obtain ⟨O3, Z3, r, l⟩ := pw.reps (lvL ps) (Nat.le_refl _)
    refine hd (.ref Dd) Hd (Dd :: O3) Z3 ⟨sH, .lstO hD (sw _ _ _ r l.own), ?_, ?_, ?_, ?_⟩
    · intro b hb
      rcases List.mem_cons.mp hb with rfl | hb
      · exact hfr _ hDn
      · exact hfr _ (pw.fresh b (l.own b hb))
    · exact List.nodup_cons.mpr ⟨fun z => hDO (by simp [l.own _ z]), l.nd pw.nd⟩
    · intro b hb
      rcases l.all b hb with z | z
      · exact .inl (hfr _ (pw.fresh b z))
      · rcases pw.zin b z with z | z | z
        · exact .inl (hfr _ z)
        · exact .inr (hnod _ _ z)
        · rcases zz b z with z | z
          · exact .inl z
          · exact .inr (Nod.l z)
    · intro b hb z
      rcases List.mem_cons.mp z with rfl | z
      · rcases l.all b hb with z | z <;> exact hDO (by simp [z])
      · exact l.zo pw.nd pw.zo b hb z
  refine ⟨a, rfl, ?_⟩
  rcases hrd with e1 | ⟨o, e1⟩
  · refine .inr ⟨_, e1, trivial, fun od hn => ⟨a, od, kvs, rfl, upd_same, fun Dd hDn => ?_⟩⟩
    have sw := Swp.lock (H := H1) od e1
    have sr2 : SRep X.K CA S1 σ (upd H1 a (.frz od (.dK kvs))) := (sr1.same pv.same).swap sw (hno a)
    have pd : PDict X.K CA a od kvs vs (O ++ Z) (upd H1 a (.frz od (.dK kvs))) := ⟨upd_same, Z0, r0.swap sw (by simp), hz0, fun b hb => by
      by_cases z : b = a
      · subst z; rw [upd_same]; simp
      · rw [upd_ne z]; exact th b hb⟩
    have nn : ∀ b, upd H1 a (.frz od (.dK kvs)) b = none → H b = none := fun b hb => by
      by_cases z : b = a
      · subst z; rw [upd_same] at hb; cases hb
      · rw [upd_ne z] at hb; exact same_none pv.same hb
    refine lc_loop (Q := fun v => Un X (Q v)) (is0 := names c) hg nd hi sr2 pd (walk_kys hko ha) hf1 e2 Dd hDn fun Hc vs' O2 Z2 hD pw hDO sc hPc => ?_
    have q1 : Hc a = some (.frz od (.dK kvs)) := hPc.1
    have hDa : Dd ≠ a := fun z => by rw [z, upd_same] at hDn; cases hDn
    have aO : a ∉ O2 := fun z => by have := pw.fresh a z; rw [upd_same] at this; cases this
    refine .inr ⟨a, od, _, q1, hn, fin _ Hc _ Dd vs' O2 Z2 nn hDn (by rw [upd_ne hDa]; exact hD) pw hDO (fun b o hb => ?_) fun m O3 Z3 r hs => r.swap (.unlock q1) fun z => aO (hs a z)⟩
    by_cases z : b = a
    · subst z
      have := pv.same _ _ hb
      rw [e1] at this
      rw [upd_same]; exact this
    · rw [upd_ne z]
      exact sc b o (by rw [upd_ne z]; exact pv.same b o hb)
  · refine .inl ⟨o, _, e1, a, o, kvs, rfl, e1, fun Dd hDn => ?_⟩
    refine lc_loop (Q := fun v => Un X (Q v)) (is0 := names c) hg nd hi (sr1.same pv.same) (P := PDict X.K CA a o kvs vs (O ++ Z)) ⟨e1, Z0, r0, hz0, th⟩ (walk_kys hko ha) hf1 e2 Dd hDn fun Hc vs' O2 Z2 hD pw hDO sc hPc => ?_
    exact .inl (fin _ Hc _ Dd vs' O2 Z2 (fun b hb => same_none pv.same hb) hDn hD pw hDO (pv.same.trans sc) fun m O3 Z3 r hs => r)
variable {sc : Scope} {np : Nat → Option Nat} {bl : List Str} {L : List Nat}
theorem i_kys {x : Str} {c : C} {e : Expr} {px : Pos} (he : PE X e (tE X G CA cf W c)) : PI X (.Name x px) e (fun σ H R => tLk X (tE X G CA cf W c) σ H fun x H1 => ∃ d o kvs, x = .ref d ∧ H1 d = some (.frz o (.dK kvs)) ∧ R (Itk d o kvs) H1) :=
  ⟨fun pins s σ H R I h => (pi_keys (pe_lk he)).run pins s σ H R I (by
    refine tE.mono (fun v H1 ⟨d, e1, h1⟩ => ⟨d, e1, ?_⟩) h
    rcases h1 with ⟨o, u, e2, d', o', kvs, e3, e4, q⟩ | ⟨u, e2, mu, q⟩
    · exact .inl ⟨o, u, e2, d', o', e3, .inl ⟨kvs, e4, q⟩⟩
    · refine .inr ⟨u, e2, mu, fun od hn => ?_⟩
      obtain ⟨d', o', kvs, e3, e4, q⟩ := q od hn
      exact ⟨d', o', e3, .inl ⟨kvs, e4, q⟩⟩)⟩
/-- [.. for x in d ..], d a dict -/
theorem x_lcK1 (B : En sc X nm G CA cf np bl W) (i : Nat) {x : Str} {c : C} {t : Option C} {e : C} {elt iter : Expr} {ifs : List Expr} {scope : Scope} {pos px : Pos} (hb : blkB nm.N sc scope [(x, i)] = true) (hx : nm.N[i]? = some x) (hl : locB scope x = true) (hs : noSet iter = true)
    (hi : PE X iter (tE X G CA cf W c)) (ht : ∀ s H c cl fp, En scope (Cx.inn X scope s H c cl fp) nm G CA cf np bl W0 → PTs (Cx.inn X scope s H c cl fp) ifs (tTo (Cx.inn X scope s H c cl fp) G CA cf W0 t))
    (he : ∀ s H c cl fp, En scope (Cx.inn X scope s H c cl fp) nm G CA cf np bl W0 → PE (Cx.inn X scope s H c cl fp) elt (tE (Cx.inn X scope s H c cl fp) G CA cf W0 e)) :
    PE X (.ListComp elt [⟨.Name x px, iter, ifs, 0⟩] scope pos) (tE X G CA cf W (.lc (.kys c) (.one i) t e)) := by
  have ok := blk_ok B hb
  refine ⟨fun pins s σ H Q I h => (pe_un (pe_lc (tt := tTo X G CA cf W0 t) (te := tE X G CA cf W0 e) B.cx.calm B.cx.nd (i_kys hi) ok (fun s H c cl fp => g_one (B.inn).so B.cx.nd (by show X.N[i]? = _; rw [B.cx.N]; exact hx) (loc_or hl)) (fun s H c cl fp => ht s H c cl fp B.inn) (fun s H c cl fp => he s H c cl fp B.inn) (fold_no hs))).run pins s σ H Q I ?_⟩
  refine lcK_sem (tg := .one i) tg_one (fun l z => by cases z) (fun j hj => ?_) h
  have hj : j = i := by simpa [Tg.is] using hj
  subst hj
  rw [I.len]
  exact (List.getElem?_eq_some_iff.mp (by rw [B.cx.N]; exact hx : X.N[j]? = some x)).1
theorem z_lcK1 (B : En sc X nm G CA cf np bl W) (hk : X.env.scope.kind = .function) (j : Nat) {y : Str} {py spos : Pos} (hy : nm.N[j]? = some y) (i : Nat) {x : Str} {c : C} {t : Option C} {e : C} {elt iter : Expr} {ifs : List Expr} {scope : Scope} {pos px : Pos} (hw : swB sc scope y py pos = true) (hb : blkB nm.N sc scope [(x, i)] = true) (hx : nm.N[i]? = some x) (hl : locB scope x = true) (hs : noSet iter = true)
    (hi : PE X iter (tE X G CA cf W c)) (ht : ∀ s H c cl fp, En scope (Cx.inn X scope s H c cl fp) nm G CA cf np bl W0 → PTs (Cx.inn X scope s H c cl fp) ifs (tTo (Cx.inn X scope s H c cl fp) G CA cf W0 t))
    (he : ∀ s H c cl fp, En scope (Cx.inn X scope s H c cl fp) nm G CA cf np bl W0 → PE (Cx.inn X scope s H c cl fp) elt (tE (Cx.inn X scope s H c cl fp) G CA cf W0 e)) :
    PS X (.Assign [.Name y py] (.ListComp elt [⟨.Name x px, iter, ifs, 0⟩] scope pos) spos) (tS X G CA cf W L (.asg j (.lc (.kys c) (.one i) t e))) := by
  unfold swB at hw
  simp only [Bool.and_eq_true, Bool.not_eq_true'] at hw
  obtain ⟨⟨⟨_, w2⟩, w3⟩, w4⟩ := hw
  have hyl : X.env.scope.names.lookup y = some .local := B.so.loc y (by simpa using w2)
  have ok := blk_ok B hb
  refine asg_of (by rw [B.cx.N]; exact hy) ⟨fun pins s σ H D I h => (ps_un (ps_setLc (tt := tTo X G CA cf W0 t) (te := tE X G CA cf W0 e) B.cx.calm B.cx.nd (by rw [B.cx.N]; exact hy) hyl (sw_true hk hyl w3 w4) (i_kys hi) ok (fun s H c cl fp => g_one (B.inn).so B.cx.nd (by show X.N[i]? = _; rw [B.cx.N]; exact hx) (loc_or hl)) (fun s H c cl fp => ht s H c cl fp B.inn) (fun s H c cl fp => he s H c cl fp B.inn) (fold_no hs))).run pins s σ H D I ?_⟩
  refine lcK_sem (tg := .one i) (Q := fun x H1 => gName j x σ H1 D.nx) tg_one (fun l z => by cases z) (fun j hj => ?_) h
  have hj : j = i := by simpa [Tg.is] using hj
  subst hj
  rw [I.len]
  exact (List.getElem?_eq_some_iff.mp (by rw [B.cx.N]; exact hx : X.N[j]? = some x)).1
end
end Vy

namespace Vy
open PySem PySem.Spec
open PyProof.Rows hiding St
open L2
/-! ## a comprehension whose walk is had from a state with a token out -/
section
variable {X : Cx} {pins : List (Addr × Obj)} {σ : St} {Q : VK} {elt tg iter : Expr} {ifs : List Expr} {scope : Scope} {own : List (Str × Nat)} {pos : Pos} {g : TG} {tt : TT} {te : TE}
/-- ahead of a turn of the block Y -/
def Ahead (Y : Cx) (σ0 : St) (fp : List Addr) (tn : Nat → Heap → Prop) (V : Nat → Nat → Hp → Prop) (n : Nat) (z : Shared) : Prop :=
  ∃ i h, tn i z.heap ∧ V i n h ∧ (∀ b ∈ fp, h b = none) ∧ Inv Y [] σ0 h z
/-- the walk's own things are kept from here to there -/
theorem pins_of_inv {Y : Cx} {fp : List Addr} {hp : Heap} {σ8 : St} {h' : Hp} {z : Shared} (I : Inv Y ([] ++ pinsAt fp hp) σ8 h' z) {b : Addr} (hb : b ∈ fp) {o : Obj} (e : hp.get? b = some o) : z.heap.get? b = some o ∧ h' b = none := by
  have := I.pin (b, o) (by simp [mem_pinsAt hb e])
  exact ⟨this.1, this.2.1⟩
theorem ahead_next {Y : Cx} {fp : List Addr} {it : Addr} {tn : Nat → Heap → Prop} {J : It} {V : Nat → Nat → Hp → Prop} {i n : Nat} {vs : List Nat} {σ8 : St} {h' : Hp} {z z7 : Shared} (T : Turn X.prog X.w X.K tg J fp it tn)
    (I : Inv Y ([] ++ pinsAt fp z7.heap) σ8 h' z) (h7 : tn (i + 1) z7.heap) (hw : L2.wipe σ8 vs = L2.wipe σ vs) (hv : V (i + 1) n h') : Ahead Y (L2.wipe σ vs) fp tn V n z := by
  have all : ∀ b ∈ fp, ∃ o, z7.heap.get? b = some o := fun b hb => let ⟨o, e, _⟩ := T.obj _ _ h7 b hb; ⟨o, e⟩
  refine ⟨i + 1, h', T.keep _ _ _ h7 fun b hb o e => (pins_of_inv I hb e).1, hv, fun b hb => ?_, ?_⟩
  · obtain ⟨o, e⟩ := all b hb
    exact (pins_of_inv I hb e).2
  · have I' : Inv Y [] σ8 h' z := Inv.unpinned (pl := pinsAt fp z7.heap) I
    refine I'.weak ?_ fun j v e => ?_
    · rw [← hw, wipe_length]
    · rw [← hw] at e
      exact (wipe_some e).1
theorem lc_from {s2 : Shared} {H2 : Hp} {J : It} {fp : List Addr} {it : Addr} {tn : Nat → Heap → Prop} (hc : X.calm = true) (hN : X.N.Nodup) (I2 : Inv X pins σ H2 s2) (T : Turn X.prog X.w X.K tg J fp it tn) (h2 : tn 0 s2.heap) (f2 : ∀ b ∈ fp, FpOk X pins H2 b) (ok : BlkOk X.N X.env.scope scope own)
    (hg : ∀ s H C cl fp, PG (Cx.inn X scope s H C cl fp) tg g) (ht : ∀ s H C cl fp, PTs (Cx.inn X scope s H C cl fp) ifs tt) (he : ∀ s H C cl fp, PE (Cx.inn X scope s H C cl fp) elt te)
    (q : tLc (fun _ _ R => R J H2) g tt te (own.map (·.2)) σ H2 Q) :
    wpAny (model X.prog X.w) X.A (newList []) (fun acc s3 => wpAny (model X.prog X.w) X.A (newFunctionEnv scope X.env.globals (cloFrom X.env.cells scope.names []) [] X.env.qual none .none (some X.env)) (fun cenv s4 =>
      codeAny (model X.prog X.w) X.A (.compStart (.ListComp elt [⟨tg, iter, ifs, 0⟩] scope pos) 0 (.ref it) acc { cenv with scope := relabel scope X.env }) (compPost (model X.prog X.w) X.A X.xe none (EP X pins σ Q) acc cenv.locals) s4) X.xe s3) X.xe s2 := by
  have nD : H2 s2.heap.objs.size = none := I2.hok.fresh (Nat.le_refl _)
  obtain ⟨V, ⟨n0, v0⟩, turns⟩ := q _ nD
  refine wpAny_newObj_type (newEnv_comp ?_) (Nat.zero_le _)
  -- the new list is laid
  let s3 : Shared := { s2 with heap := s2.heap.push { cls := .type "list", data := .seq ([] : List Value).toArray } }
  have I3 : Inv X pins σ (upd H2 s2.heap.objs.size (.lst [])) s3 := I2.laid (t' := s2.toks) (fun b o e => Heap.get?_push_of_some _ e) (Nat.le_refl _) ⟨Nat.zero_le _, [], 0, .nil, Heap.get?_push_size _ rfl⟩
  have below : ∀ b ∈ fp, b < s2.heap.objs.size := fun b hb => let ⟨o, e, _⟩ := T.obj _ _ h2 b hb; Heap.lt_size e
  have f3 : ∀ b ∈ fp, FpOk X pins (upd H2 s2.heap.objs.size (.lst [])) b ∧ b < s3.heap.objs.size := fun b hb => by
    refine ⟨⟨(upd_ne (Nat.ne_of_lt (below b hb))).trans (f2 b hb).1, (f2 b hb).2⟩, ?_⟩
    show b < (s2.heap.push _).objs.size
    rw [Heap.size_push]
    exact Nat.lt_succ_of_lt (below b hb)
  have h3 : tn 0 s3.heap := T.keep _ _ _ h2 fun b _ o e => Heap.get?_push_of_some _ e
  have nF : ∀ b ∈ fp, (upd H2 s2.heap.objs.size (.lst [])) b = none := fun b hb => (f3 b hb).1.1
  have I4 := block_start I3 ok hN f3
  have G1 := hg s3 (upd H2 s2.heap.objs.size (.lst [])) s3.heap.objs.size (cellsFrom (s3.heap.objs.size + 1) scope.names (cloFrom X.env.cells scope.names [])) fp
  have G2 := ht s3 (upd H2 s2.heap.objs.size (.lst [])) s3.heap.objs.size (cellsFrom (s3.heap.objs.size + 1) scope.names (cloFrom X.env.cells scope.names [])) fp
  have G3 := he s3 (upd H2 s2.heap.objs.size (.lst [])) s3.heap.objs.size (cellsFrom (s3.heap.objs.size + 1) scope.names (cloFrom X.env.cells scope.names [])) fp
  unfold Cx.inn at G1 G2 G3
  have lv : (compEnvC scope (cellsFrom (s3.heap.objs.size + 1) scope.names (cloFrom X.env.cells scope.names [])) s3.heap.objs.size X.env).locals = s3.heap.objs.size := rfl
  show codeAny (model X.prog X.w) X.A (.compStart (.ListComp elt [⟨tg, iter, ifs, 0⟩] scope pos) 0 (.ref it) (.ref s2.heap.objs.size) (compEnvC scope (cellsFrom (s3.heap.objs.size + 1) scope.names (cloFrom X.env.cells scope.names [])) s3.heap.objs.size X.env))
    (compPost (model X.prog X.w) X.A X.xe none (EP X pins σ Q) (.ref s2.heap.objs.size) s3.heap.objs.size) { s3 with heap := pushCells (s3.heap.push { cls := .type "dict", data := .dict #[] }) scope.names }
  have h4 : tn 0 (pushCells (s3.heap.push { cls := .type "dict", data := .dict #[] }) scope.names) := T.keep _ _ _ h3 fun b _ o e => pushCells_keeps _ _ _ _ (Heap.get?_push_of_some _ e)
  generalize compEnvC scope (cellsFrom (s3.heap.objs.size + 1) scope.names (cloFrom X.env.cells scope.names [])) s3.heap.objs.size X.env = ce at I4 G1 G2 G3 lv ⊢
  generalize hz4 : ({ s3 with heap := pushCells (s3.heap.push { cls := .type "dict", data := .dict #[] }) scope.names } : Shared) = z4 at I4 ⊢
  have h4 : tn 0 z4.heap := by rw [← hz4]; exact h4
  generalize hHD : upd H2 s2.heap.objs.size (.lst []) = HD at *
  generalize hY : X.blk s3 HD scope ce fp = Y at I4 G1 G2 G3
  have yp : Y.prog = X.prog := by rw [← hY]
  have own0 : ∀ {σ' : St} {h' : Hp} {z : Shared}, Inv Y [] σ' h' z → (∀ b ∈ fp, h' b = none) → ∀ b ∈ fp, FpOk Y [] h' b := fun I' hn b hb => by
    have ex : Y.ex = fp := by rw [← hY]
    obtain ⟨c1, c2⟩ := I'.ok.exf b (by rw [ex]; exact hb)
    refine ⟨hn b hb, c1, I'.ok.exfs b (by rw [ex]; exact hb), .inl (by rw [ex]; exact hb), c2, fun p hp => ?_⟩
    have : Y.pn = [] := by rw [← hY]
    rw [this] at hp
    simp at hp
  subst hY
  have loop : codeAny (model X.prog X.w) X.A (.compLoop (.ListComp elt [⟨tg, iter, ifs, 0⟩] scope pos) 0 (.ref it) (.ref s2.heap.objs.size) ce) (compPost (model X.prog X.w) X.A X.xe none (EP X pins σ Q) (.ref s2.heap.objs.size) s3.heap.objs.size) z4 := by
    refine compLoop_any (Ahead (X.blk s3 HD scope ce fp) (L2.wipe σ (own.map (·.2))) fp tn V) (fun n z hz => ?_) n0 ⟨0, HD, h4, v0, nF, I4⟩
    obtain ⟨i, h, hi, hv, hn, I⟩ := hz
    rcases turns i n h hv with ⟨stop, fin⟩ | ⟨go, Nx, nxt, step⟩
    · refine thnF (T.done (X.blk s3 HD scope ce fp) rfl rfl rfl hc i [] z _ h (fun _ _ => False) I (own0 I hn) hi stop) fun r z1 ⟨hr, I1⟩ => ?_
      subst hr
      have back : Inv X pins σ h z1 := I3.call' (ch := fp) I1.os I1.base I1.hok I1.bare fun b hb =>
        let w := (f3 b hb).1.2
        ⟨w.2.2.1, w.1, w.2.2.2.1, w.2.2.2.2⟩
      have hC : h s3.heap.objs.size = none := lv ▸ (show h ce.locals = none from I1.free)
      obtain ⟨m, hm, _⟩ := I1.loc
      have hm : z1.heap.Ns ce.locals m := hm
      rw [lv] at hm
      obtain ⟨w0, w1, w2, w3, w4, w5⟩ := I3.fpOk (Nat.le_refl _) hC
      exact ⟨m, hm, fun h' sb => ⟨.ref s2.heap.objs.size, h, back.turned (t' := z1.toks) (fun b o hb e => (sb.2 b hb).trans e) w0 w1 w3 w4 w5, rfl, fin⟩⟩
    · refine thnF (T.item (X.blk s3 HD scope ce fp) rfl rfl rfl hc i [] z _ h (fun _ _ => False) I (own0 I hn) hi go) fun r z1 ⟨u, hr, k1⟩ => ?_
      subst hr
      refine thnF k1 fun _ z2 ⟨x, h2', I2', r2, y2, t2, n2⟩ => ?_
      have Ip := I2'.pinned (own0 I2' n2) (T.obj _ _ t2)
      refine thnF (G1.run _ z2 _ h2' x u _ Ip r2 (step x h2' y2)) fun _ z5 ⟨σ5, h5, I5, hw, k5⟩ => ?_
      refine thnF (G2.run _ z5 σ5 h5 _ I5 k5) fun b z6 ⟨h6, I6, k6⟩ => ?_
      have close : ∀ {h' : Hp} {z' : Shared}, Inv (X.blk s3 HD scope ce fp) ([] ++ pinsAt fp z2.heap) σ5 h' z' → Nx h' → ∃ m, m < n ∧ Ahead (X.blk s3 HD scope ce fp) (L2.wipe σ (own.map (·.2))) fp tn V m z' := fun {h' z'} J' nx =>
        let ⟨m, hm, hv'⟩ := nxt h' nx
        ⟨m, hm, ahead_next T J' t2 hw hv'⟩
      cases b
      · exact close I6 k6
      · refine thnF (G3.run _ z6 σ5 h6 _ I6 k6) fun v z7 ⟨y, h7, I7, r7, acc, d7, l7, nx⟩ => ?_
        exact app_ok (X := X.blk s3 HD scope ce fp) I7 d7 l7 r7 fun z8 I8 => close I8 nx
  exact codeAny_compStart_list loop (T.self X.A 0 _ _ _ h4 loop)
end
/-! ## expressions, one token out -/
section
variable {X : Cx} {nm : Nm} {G : Glo} {CA : Nat → Addr} {cf : Runs} {W : WX}
theorem pet_weak {e : Expr} {t t' : TE} (h : PET X e t) (w : ∀ σ H Q, t' σ H Q → t σ H Q) : PET X e t' := fun pins s σ H Q h0 I q => h pins s σ H Q h0 I (w σ H Q q)
theorem pet_m1 {o e : Expr} {to te : TE} {id : String} {name : Str} {apos pos : Pos} {r : V → List V → Hp → VK → Prop} (slot : Slot "str" name id) (ty : typeOf (.builtin id) = pure (.type "method_descriptor")) (rule : MtR X id r) (ho : PET X o to) (he : PE X e te)
    (hs : starEach [e] X.env = [(false, eval e X.env)]) (hbase : attributeBase o name X.env (eval o X.env) = eval o X.env) (hline : (apos.endLine == pos.line) = true) : PET X (.Call (.Attribute o name apos) [e] [] pos) (tM1 r to te) :=
  fun pins s σ H Q h0 I h => PySem.Call_method1 hbase hs hline (thn (ho pins s σ H _ h0 I h) fun v s1 w => by
    obtain ⟨x, H1, I1, r1, ⟨a, rfl⟩, q1⟩ := w
    obtain ⟨t, ev⟩ := _root_.id r1
    subst ev
    refine ⟨"str", _, F.plainAttrs_str, slot, ty, typeIs_str _ _ _, (fun _ e => nomatch e), Calls.callWith_builtin rfl (Calls.evalArgs_plain (Calls.spliced_cons (thn (he.run pins s1 σ H1 _ I1 q1) fun u s2 w2 => ?_)))⟩
    obtain ⟨y, H2, I2, r2, q2⟩ := w2
    exact Calls.spliced_nil (rule pins s2 σ H2 (.str a) [y] (.str a t) [u] Q I2 r1 (.cons r2 .nil) q2))
/-- how a text's method with one argument is asked -/
theorem m1_read {m : Me} {r : V → List V → Hp → VK → Prop} (hm : m ≠ .index ∧ m ≠ .count ∧ m ≠ .get) {o c : C}
    (w : ∀ (s : Cs) (d : D) (n k : Nat) v H0 H (M : Addr → Prop) O Z (z : D × Nat) (Q : VK) (σ0 : St), Bd s → PVal X.K CA M H0 H d n v O Z → methD m (.str s, k) [(d, n)] = some z → Den X.K CA W M (.ok z) σ0 H0 Q → r (.str (mkS s)) [v] H Q) {σ : St} {H : Hp} {Q : VK}
    (h : tE X G CA cf W (.mth m o [c]) σ H Q) : tM1 r (tE X G CA cf W o) (tE X G CA cf W c) σ H Q := by
  obtain ⟨S, sr, h⟩ := h
  rw [ev] at h
  refine ⟨S, sr, Den.seq (Same.refl H) h fun p x H1 O Z e1 pv hd => ?_⟩
  obtain ⟨hr, hd⟩ := hd.gd
  obtain ⟨d0, k⟩ := p
  obtain ⟨s, hs'⟩ := recv_str hm hr
  subst hs'
  obtain ⟨ex, _, _, hbd⟩ := pv.rep.str_inv
  refine ⟨⟨_, ex⟩, ?_⟩
  have hd' : Den X.K CA W (Nod S (names (.mth m o [c]))) ((ev G cf (envOf S) c).bind fun y => Out.of (methD m (.str s, k) [y])) σ H Q := by
    simp only [evs] at hd
    cases e2 : ev G cf (envOf S) c <;> rw [e2] at hd <;> exact hd
  refine ⟨S, sr.same pv.same, Den.seq pv.same hd' fun q y H2 O' Z' e2 pw hd2 => ?_⟩
  obtain ⟨z, hz, hd3⟩ := Den.ofv hd2
  rw [ex]
  exact w s q.1 q.2 k y H H2 _ O' Z' z Q σ hbd ((pw.ahead pv.same).mono fun a h => Nod.r (by simpa [namesL] using h)) hz hd3
theorem e_splitT {o c : C} {eo e : Expr} {apos pos : Pos} (ho : PET X eo (tE X G CA cf W o)) (he : PE X e (tE X G CA cf W c)) (hs : noStar e = true) (hb : noSup eo = true) (hl : (apos.endLine == pos.line) = true) : PET X (.Call (.Attribute eo "split" apos) [e] [] pos) (tE X G CA cf W (.mth .split o [c])) := by
  refine pet_weak (pet_m1 F.slot_str_split F.type_str_split mt_split ho he (by rw [star_cons hs]; rfl) (base_ok hb) hl) fun σ H Q h => m1_read (by decide) (fun s d n k v H0 H M O Z z Q σ0 hbd pv hz hd => ?_) h
  cases d <;> first | (cases hz; done) | skip
  rename_i p
  obtain ⟨⟨h1, h2, h3⟩, e⟩ := go_some (show go _ _ = _ from hz)
  cases e
  obtain ⟨rfl, _⟩ := pv.rep.str_inv
  refine ⟨_, _, rfl, rfl, by rw [mkS_len]; cases p with | nil => exact absurd rfl h1 | cons _ _ => rfl, by rw [mkS_len, SZ_eq]; exact h3, fun l hl => ?_⟩
  have e : Txt.split (mkS s) (mkS p) = (TL.spl p 0 [] s).map mkS := by
    apply TL.map_tl_inj
    rw [TL.split_spl _ _ (by show (mkS p).cps.toList ≠ []; rw [mkS_tl]; exact h1) (TL.kind_ok (by
      rw [Array.all_eq_true_iff_forall_mem]
      intro c hc
      have hc : c ∈ p := by simpa [mkS] using hc
      exact List.all_eq_true.mp h2 c hc))]
    show TL.spl (mkS p).cps.toList 0 [] (mkS s).cps.toList = _
    rw [mkS_tl, mkS_tl, List.map_map]
    exact ((List.map_congr_left fun x _ => mkS_tl x).trans (List.map_id _)).symm
  rw [e, List.map_map]
  obtain ⟨O, Z, pp⟩ := PVal.newList pv.same (strs_reps (K := X.K) (CA := CA) (H := H) (TL.spl p 0 [] s) (spl_bd p s 0 [] Bd.nil hbd)) (by simp) hl
  rw [lv1_strs] at pp
  exact hd _ _ _ _ pp
theorem repl_map (p q : Nat) (s : Cs) : PySem.StrLaws.replL [p] [q] s = s.map fun c => if c = p then q else c := by
  induction s with
  | nil => exact PySem.StrLaws.replL_nil
  | cons c r ih =>
    by_cases h : c = p
    · rw [PySem.StrLaws.replL_hit (by simp) (by simp [h])]
      simp only [List.length_singleton, List.drop_succ_cons, List.drop_zero, List.map_cons, if_pos h, List.singleton_append, ih]
    · rw [PySem.StrLaws.replL_miss (by simp [h])]
      simp only [List.map_cons, if_neg h, ih]
theorem repl_mkS (p q : Nat) (s : Cs) : Txt.replace (mkS s) (mkS [p]) (mkS [q]) = mkS (s.map fun c => if c = p then q else c) := by
  apply TL.ext_tl
  show (Txt.replace (mkS s) (mkS [p]) (mkS [q])).cps.toList = (mkS _).cps.toList
  rw [PySem.StrLaws.replace_list (by rw [mkS_len]; simp), mkS_tl, mkS_tl, mkS_tl, mkS_tl, repl_map]
theorem e_replT {o : C} {p q : Nat} {y z : Str} {eo : Expr} {j k : Nat} {c0 c1 apos pos : Pos} (ho : PE X eo (tE X G CA cf W o)) (hy : y = mkS [p]) (hz : z = mkS [q]) (hyz : (y == z) = false) (hb : noSup eo = true) (hl : (apos.endLine == pos.line) = true) :
    PET X (.Call (.Attribute eo "replace" apos) [.Constant (.str y) j c0, .Constant (.str z) k c1] [] pos) (tE X G CA cf W (.mth .replace o [.cst (.str [p]), .cst (.str [q])])) := by
  refine pet_weak (CwR.pet_replC ho hyz rfl (base_ok hb) hl) fun σ H Q ⟨S, sr, h⟩ => ?_
  rw [ev] at h
  refine ⟨S, sr, Den.seq (Same.refl H) h fun r x H1 O Z e1 pv hd => ?_⟩
  obtain ⟨hr, hd⟩ := hd.gd
  obtain ⟨d0, k⟩ := r
  obtain ⟨s, hs'⟩ := recv_str (m := .replace) (by decide) hr
  subst hs'
  obtain ⟨ex, _, _, hbd⟩ := pv.rep.str_inv
  simp only [evs, ev, Out.bind_ok] at hd
  obtain ⟨v, hv, hd⟩ := Den.ofv hd
  obtain ⟨⟨h1, h2, h3⟩, e⟩ := go_some (show go _ _ = _ from hv)
  cases e
  refine ⟨_, ex, by rw [mkS_len, hz, mkS_len]; simp only [List.length_singleton]; rw [show SZ = 16777216 from rfl] at h1; omega, ?_⟩
  rw [hy, hz, repl_mkS]
  refine hd.val pv.same (.str fun c hc => ?_)
  obtain ⟨a, ha, rfl⟩ := List.mem_map.mp hc
  by_cases e : a = p
  · rw [if_pos e]; exact h3
  · rw [if_neg e]; exact hbd a ha
theorem pit_val {tg : Expr} {c : C} {e : Expr} (h : PET X e (tE X G CA cf W c)) (hsq : ∀ ρ p, ev G cf ρ c = .ok p → ∃ xs, p.1 = .lst xs) : PIT X tg e (tI X G CA cf W c) := by
  intro pins s σ H R h0 I ⟨S, sr, hd⟩
  let Q : VK := fun v H1 => ∃ (d : D) (n : Nat) (O Z : List Addr) (xs : List D), PVal X.K CA (Nod S (names c)) H H1 d n v O Z ∧ d = .lst xs ∧
    ∀ J H' Ns P, Same H H' → P H' → Walk X.K CA J xs Ns P → (∀ a ∈ Ns, H a = none ∨ Mi S c (d, n) a) → R J H'
  refine thn (h pins s σ H Q h0 I ⟨S, sr, ?_⟩) fun v s1 ⟨x, H1, I1, r1, d, n, O, Z, xs, pv, hx, q⟩ => ?_
  · cases e : ev G cf (envOf S) c with
    | ok p =>
      rw [e] at hd
      obtain ⟨xs, hx, q⟩ := hd
      obtain ⟨ys, hy⟩ := hsq _ _ e
      rw [hy] at hx
      cases hx
      exact fun v H' O Z pv => ⟨p.1, p.2, O, Z, xs, pv, hy, q⟩
    | exc z => rw [e] at hd; exact hd
    | bad => rw [e] at hd; exact hd
  · subst hx
    have ns : ∀ a ∈ O ++ Z, H a = none ∨ Mi S c (.lst xs, n) a := fun a ha => by
      by_cases hf : (D.lst xs).mdep ≤ n
      · have := pv.rep.full hf
        subst this
        exact .inl (pv.fresh a (by simpa using ha))
      · rcases List.mem_append.mp ha with z | z
        · exact .inl (pv.fresh a z)
        · exact (pv.zin a z).imp id fun w => ⟨hf, w⟩
    obtain ⟨a, vs, O', Z', m, rfl, h1, r, hO, hZ⟩ := pv.rep.lst_inv
    cases r1
    obtain ⟨Z0, r0, hz0⟩ := r.zeroed
    have ha : a ∈ O ++ Z := by
      have := pv.rep
      cases this with
      | lstO _ _ => simp
      | lstZ _ _ => simp
    exact iter_list I1 (.of h1) (q _ H1 (O ++ Z) _ pv.same ⟨vs, Z0, h1, r0, (fun b hb => (hz0 b hb).elim (fun z => by simp [hO b z]) fun z => by simp [hZ b z]), fun b hb => pv.rep.there b hb⟩ (walk_list ha) ns)
variable {sc : Scope} {np : Nat → Option Nat} {bl : List Str}
theorem x_lcT1 (B : En sc X nm G CA cf np bl W) (i : Nat) {x : Str} {it : C} {t : Option C} {e : C} {elt iter : Expr} {ifs : List Expr} {scope : Scope} {pos px : Pos} (hb : blkB nm.N sc scope [(x, i)] = true) (hx : nm.N[i]? = some x) (hl : locB scope x = true) (hs : noSet iter = true)
    (hi : PIT X (.Name x px) iter (tI X G CA cf W it)) (ht : ∀ s H c cl fp, En scope (Cx.inn X scope s H c cl fp) nm G CA cf np bl W0 → PTs (Cx.inn X scope s H c cl fp) ifs (tTo (Cx.inn X scope s H c cl fp) G CA cf W0 t))
    (he : ∀ s H c cl fp, En scope (Cx.inn X scope s H c cl fp) nm G CA cf np bl W0 → PE (Cx.inn X scope s H c cl fp) elt (tE (Cx.inn X scope s H c cl fp) G CA cf W0 e)) :
    PET X (.ListComp elt [⟨.Name x px, iter, ifs, 0⟩] scope pos) (tE X G CA cf W (.lc it (.one i) t e)) := by
  intro pins s σ H Q h0 I h
  have ok := blk_ok B hb
  rw [eval_ListComp]
  have hsem := lc_sem (tg := .one i) (tg_one (K := X.K)) (fun l z => by cases z) (fun j hj => by
    have : j = i := by simpa [Tg.is] using hj
    subst this
    rw [I.len, B.cx.N]
    exact (List.getElem?_eq_some_iff.mp hx).1) h
  have cells : ∀ y ∈ scope.names, y.2 = .free → ∃ c, X.env.cells.lookup y.1 = some c := fun y hy e => (ok.free y hy e).elim (fun k => I.ok.has _ (.inl k)) fun k => I.ok.has _ (.inr k)
  refine wpAny_comprehension_free rfl (fold_no hs) (closure_ok cells) ok.kind (fun y hy e => (ok.uniq y hy).trans (congrArg some e)) (thn (hi pins s σ H _ h0 I hsem) fun v s1 k1 => thn k1 fun itv s2 k2 => ?_)
  obtain ⟨it', fp, tn, J, H2, ev', I2, T, st2, f2, q⟩ := k2
  subst ev'
  exact lc_from B.cx.calm B.cx.nd I2 T st2 f2 ok (fun s H c cl fp => g_one (B.inn).so B.cx.nd (by show X.N[i]? = _; rw [B.cx.N]; exact hx) (loc_or hl)) (fun s H c cl fp => ht s H c cl fp B.inn) (fun s H c cl fp => he s H c cl fp B.inn) q
theorem b_retT {L : List Nat} {c : C} {e : Expr} {pos : Pos} (h : PET X e (tE X G CA cf W c)) : PSsT X [.Return (some e) pos] (tB X G CA cf W L [.ret c]) := by
  intro pins s σ H D h0 I ⟨S, sr, fr, hq⟩
  refine CwR.psst_one (CwR.pst_ret h) pins s σ H D h0 I ⟨S, sr, ?_⟩
  rw [exB, exS] at hq
  cases e1 : ev G cf (envOf S) c with
  | ok p =>
    rw [e1] at hq
    intro v H1 O Z pv
    exact hq S σ v H1 O Z (sr.same pv.same) fr (Step.same pv.same) rfl pv.rep (fun a h w => sr.any w (pv.fresh a h)) (fun a h => .inr (pv.fresh a h)) pv.nd (fun a h => (pv.zin a h).elim .inr fun w => .inl w.any) pv.zo
  | exc x =>
    rw [e1] at hq
    exact fun cls dd H' s x => hq S σ H' cls dd (sr.same s) fr (Step.same s) rfl x
  | bad => rw [e1] at hq; exact hq
end
/-! ## a def with a token out -/
section
variable {P : Program} {w : World} {K : PySem.W.Frag} {mg : Str → Option Value} {base : Heap} {T : Tb} {G : Glo} {CA : Nat → Addr} {Pr : Nat → Option Def} {np : Nat → Option Nat} {bl : List Str}
theorem okT {x qual : Str} {st : Stmt} {f : Addr} {fd : FuncData} {N ps : List Str} {k : Nat} {sp : Sp} (F : Fun K x qual st f fd) (S : FnScope N ps (defScope st)) (hnc : ((defScope st).names.all fun y => y.2 != .cell) = true) (hps : 1 ≤ ps.length) (len : ∀ vs H Q E, sp vs H Q E → vs.length = ps.length)
    (body : ∀ (cdv : Value) (A : Around) (outer : List PySem.Env) (s : Shared) (H : Hp) (vs : List V) (Q : VK) (E : XK), Room k (A.deeper (envOfC qual (defScope st) s.heap.objs.size f cdv)) → sp vs H Q E →
      ∃ t, PSsT (cxOf (L2.CX P w) P w K mg base N qual (defScope st) f cdv A outer s H E) (defBody st) t ∧ t { nx := fun _ H' => Q .non H', rt := Q } (L2.start N vs) H) : FnOk P w K mg base (L2.CX P w) (k + 1) f fd ps sp := by
  obtain ⟨_, _, _, _, _, _, cdv, _, _, rfl, l1, l2⟩ := F.ex
  exact fn_ofT l1 l2 S (fun y hy e => by
    have := List.all_eq_true.mp hnc y hy
    rw [e] at this
    cases this) hps len fun A outer s H vs Q E hr q => body cdv A outer s H vs Q E hr q
theorem def_okT {nio : Nat → Option (Nat × List Nat)} {f n : Nat} {io : List Nat} {a : Addr} {fd : FuncData} {ps N : List Str} {x qual : Str} {st : Stmt} {b : List S} (h1 : Reach K mg CA (T.fn f) a (T.mt f)) (h2 : Fun K x qual st a fd) (h3 : Binds K fd ps []) (h4 : ps.length = n) (h5 : FnScope N ps (defScope st)) (h6 : Pr f = some ⟨n, N.length, b, io⟩) (hio : ∀ i ∈ io, i < n)
    (hnc : ((defScope st).names.all fun y => y.2 != .cell) = true) (hps : 1 ≤ ps.length) (hnp : ∀ f n, np f = some n → nio f = some (n, []))
    (h7 : ∀ (X : Cx) (cf : Runs) (W : WX), Body (defScope st) X (T.nm N) G CA cf np bl W → CtxI X (T.nm N) CA cf nio → cf.io = io → PSsT X (defBody st) (tB X G CA cf W [] b)) (hb : ∀ x ∈ bl, mg x = none) (hg : ∀ g d, G.gv g = some d → ∃ u v, mg (T.gn g) = some u ∧ RelV v u ∧ ∀ H, Rep K CA H 9 d v [] []) :
    DefOk P w K mg T G CA Pr nio f n io := ⟨a, fd, ps, h1, h2.kp, h3, h4, fun base k ih => okT h2 h5 hnc hps (fun vs H Q E h => h.1.trans h4.symm) (def_core PSsT h4 h5 h6 hio hnp h7 hb hg base k ih)⟩
end
end Vy

namespace Vy
open PySem PySem.Spec
open PyProof.Rows hiding St
open L2
theorem split_lst {G : Glo} {cf : Runs} {o c : C} : ∀ ρ p, ev G cf ρ (.mth .split o [c]) = .ok p → ∃ xs, p.1 = .lst xs := by
  intro ρ p h
  rw [ev] at h
  obtain ⟨x, hx, k1⟩ := Out.bind_eq_ok h
  obtain ⟨hg, k2⟩ := gd_ok k1
  obtain ⟨ps, h1, k3⟩ := Out.bind_eq_ok k2
  have hps : ∃ q, ps = [q] := by
    rw [evs] at h1
    obtain ⟨q, _, h1⟩ := Out.bind_eq_ok h1
    rw [evs] at h1
    cases h1
    exact ⟨_, rfl⟩
  obtain ⟨⟨d, n⟩, rfl⟩ := hps
  clear h k1 k2 hg hx h1
  obtain ⟨e, m⟩ := x
  cases e <;> first | (cases k3; done) | skip
  cases d <;> first | (cases k3; done) | skip
  rename_i s t
  cases e2 : methD .split (.str s, m) [(.str t, n)] with
  | none => rw [e2] at k3; cases k3
  | some z =>
    rw [e2] at k3
    cases k3
    obtain ⟨_, e3⟩ := go_some (show go _ _ = some p from e2)
    cases e3
    exact ⟨_, rfl⟩
theorem st_LSx {G : Glo} {cf : Runs} {L : List Nat} {ρ : Env} {i n m m' q : Nat} {l : List Cs} {s : Cs} {j : Int} {k e : C} (h : (ρ[i]?).bind id = some (LS l, n + 1)) (hL : i ∉ L) (hq : ix l.length j = some q) (hk : ev G cf ρ k = .ok (.int j, m')) (he : ev G cf ρ e = .ok (.str s, m)) :
    exS G cf L ρ (.st ⟨i, []⟩ k e) = .nx (ρ.set i (some (LS (l.set q s), n + 1))) := by
  have hx : ix (l.map D.str).length j = some q := by rw [List.length_map]; exact hq
  rw [exS_st, he]
  simp only [onE_ok, rsv_nil, hk, noX_ok, mopX, if_neg hL, h, Option.bind_some, getP, LS_eq, stOp, hx, Option.map_some, lvIn, mdep_str, if_true, List.all_cons, List.all_nil, full_str, Bool.and_self, chgP, OX.of_some, onX_ok, putP, setV, norm_lst]
  simp [List.map_set]
theorem ix_last (n : Nat) : ix (n + 1) (-1) = some n := by
  unfold ix
  rw [if_neg (by omega), if_pos (by omega)]
  congr 1
  omega
theorem sub_LSlast (l : List Cs) (a : Cs) : subD (LS (l ++ [a])) (.int (-1)) = some (.str a, 0) := sub_last (xs := (l ++ [a]).map D.str) (by simp)
/-- values of a comprehension that are texts -/
theorem comp_strs {α : Type} {f : D → Out (Option (D × Nat))} {g : α → D} {M : Nat} : ∀ {l : List α}, (∀ a ∈ l, ∃ w : Cs, f (g a) = .ok (some (.str w, 9)) ∧ w.length ≤ M) → l.length ≤ SZ → ∃ L : List Cs, compL f (l.map g) = .ok (L.map fun w => (D.str w, 9)) ∧ L.length = l.length ∧ ∀ w ∈ L, w.length ≤ M
  | [], _, _ => ⟨[], rfl, rfl, by simp⟩
  | a :: l, hf, hl => by
    obtain ⟨w, h1, h2⟩ := hf a (by simp)
    obtain ⟨L, h3, h4, h5⟩ := comp_strs (l := l) (fun b hb => hf b (by simp [hb])) (by simp at hl; omega)
    refine ⟨w :: L, ?_, by simp [h4], fun v hv => ?_⟩
    · rw [List.map_cons, compL, h1]
      simp only
      rw [h3]
      simp only [Out.bind_ok]
      rw [gd_pos (by rw [List.length_map, h4]; simpa using hl)]
      rfl
    · rcases List.mem_cons.mp hv with e | e
      · subst e; exact h2
      · exact h5 v e
theorem sum_len {M : Nat} : ∀ {L : List Cs}, (∀ w ∈ L, w.length ≤ M) → (L.map (·.length)).sum ≤ L.length * M
  | [], _ => by simp
  | w :: L, h => by
    have h1 := h w (by simp)
    have h2 := sum_len (L := L) fun v hv => h v (by simp [hv])
    simp only [List.map_cons, List.sum_cons, List.length_cons, Nat.succ_mul]
    omega
theorem flat_len (L : List Cs) : L.flatten.length = (L.map (·.length)).sum := by simp [List.length_flatten]
theorem enum_map {α : Type} (f : α → D) (l : List α) : enumD (l.map f) = l.zipIdx.map fun p => .tup [.int (p.2 : Nat), f p.1] := by
  unfold enumD
  rw [List.zipIdx_map, List.map_map]
  rfl
end Vy

namespace Vy
open PySem PySem.Spec
open PyProof.Rows hiding St
open L2
/-! ## a text taken out of a row -/
section
variable {X : Cx}
def isS (k : Cs) : Value → Bool
  | .str a _ => a == mkS k
  | _ => false
theorem vals_at {k : Cs} : ∀ {ss : List Cs} {us : List Value}, Vals (ss.map fun s => V.str (mkS s)) us → ∀ (i : Nat) (u : Value), us[i]? = some u → ∃ s t, ss[i]? = some s ∧ u = .str (mkS s) t
  | [], _, .nil, i, u, h => by simp at h
  | s :: ss, _, .cons r h, 0, u, e => by
    obtain ⟨t, rfl⟩ := r
    simp at e
    exact ⟨s, t, rfl, e.symm⟩
  | s :: ss, _, .cons r h, i + 1, u, e => by
    have := vals_at (k := k) h i u (by simpa using e)
    simpa using this
def rRemS : V → List V → Hp → VK → Prop := fun x xs H Q => ∃ (l : Addr) (ss : List Cs) (k : Cs) (j : Nat), x = .ref l ∧ xs = [.str (mkS k)] ∧ H l = some (.lst (ss.map fun s => V.str (mkS s))) ∧ ss[j]? = some k ∧ (∀ m < j, ss[m]? ≠ some k) ∧ Q .non (upd H l (.lst ((ss.eraseIdx j).map fun s => V.str (mkS s))))
theorem mt_removeS : MtR X "list.remove" rRemS := by
  intro pins s σ H x xs v us Q I rx rxs ⟨l, ss, k, j, ex, exs, hH, hj, ne, q⟩
  subst ex; subst exs
  cases rx
  obtain ⟨u, rfl, t, rfl⟩ := rxs.one
  obtain ⟨z, its, n, r, hl, e⟩ := I.lstM hH
  have len : its.length = ss.length := by have := r.length; simpa using this.symm
  have jlt : j < ss.length := (List.getElem?_eq_some_iff.mp hj).1
  have gives : ∀ y ∈ its.toArray, MeetsSeq.EqGives y (.str (mkS k) t) (isS k y) := fun y hy => by
    obtain ⟨i, hi⟩ := List.mem_iff_getElem?.mp (show y ∈ its by simpa using hy)
    obtain ⟨s', t', _, rfl⟩ := vals_at (k := k) r i y hi
    exact eqGives_str (mkS s') (mkS k) t' t
  have isj : j < its.toArray.size := by rw [List.size_toArray, len]; exact jlt
  have at' : ∀ m (hm : m < its.toArray.size), ∃ s' t', ss[m]? = some s' ∧ its.toArray[m] = .str (mkS s') t' := fun m hm => vals_at (k := k) r m its.toArray[m] (by simp at hm ⊢)
  have big : ss.length ≤ sizeLine := by simpa using z
  refine call_meets PySem.F.slot_list_remove ⟨_, e, rfl⟩ PySem.F.entry_list_remove (PySem.F.args_list_remove_2 _ _) (MeetsSeq.list_remove l its.toArray n (.str (mkS k) t) (isS k) gives j isj ?_ ?_ ?_) ⟨e, ?_⟩
  · obtain ⟨s', t', h1, h2⟩ := at' j isj
    rw [hj] at h1
    cases h1
    rw [h2]
    exact beq_self_eq_true _
  · intro m hm hmj
    obtain ⟨s', t', h1, h2⟩ := at' m hm
    rw [h2]
    show (mkS s' == mkS k) = false
    rw [mkS_beq]
    exact beq_eq_false_iff_ne.mpr fun e' => ne m hmj (by rw [h1, e'])
  · rw [List.size_toArray, len]; exact big
  · have r2 := r.eraseIdx j
    have em : (ss.map fun s => V.str (mkS s)).eraseIdx j = (ss.eraseIdx j).map fun s => V.str (mkS s) := by
      rw [List.eraseIdx_eq_take_drop_succ, List.eraseIdx_eq_take_drop_succ, List.map_append, List.map_take, List.map_drop]
    rw [em] at r2
    have hle : ((ss.eraseIdx j).map fun s => V.str (mkS s)).length ≤ sizeLine := by
      rw [List.length_map]
      exact Nat.le_trans (List.length_eraseIdx_le ..) big
    exact ⟨.non, _, I.lset (its' := its.eraseIdx j) (t' := s.toks) hH e (List.eraseIdxIfInBounds_toArray ..) r2 hle, rfl, q⟩
end
section
variable {X : Cx} {nm : Nm} {G : Glo} {CA : Nat → Addr} {cf : Runs} {W : WX} {L : List Nat}
theorem strsOf_some : ∀ {xs : List D} {ss : List Cs}, strsOf xs = some ss → xs = ss.map D.str
  | [], ss, h => by cases h; rfl
  | d :: r, ss, h => by
    cases d <;> first | (cases h; done) | skip
    obtain ⟨cs, h1, rfl⟩ := Option.map_eq_some_iff.mp h
    rw [strsOf_some h1]; rfl
theorem erase_ix {α : Type} [BEq α] [LawfulBEq α] {l : List α} {a : α} (h : a ∈ l) : ∃ j, l[j]? = some a ∧ (∀ m < j, l[m]? ≠ some a) ∧ l.erase a = l.eraseIdx j := by
  induction l with
  | nil => simp at h
  | cons b l ih =>
    rcases Classical.em (b = a) with e | e
    · subst e
      exact ⟨0, rfl, by simp, by simp⟩
    · have h' : a ∈ l := by
        rcases List.mem_cons.mp h with z | z
        · exact absurd z.symm e
        · exact z
      obtain ⟨j, h1, h2, h3⟩ := ih h'
      refine ⟨j + 1, by simpa using h1, fun m hm => ?_, ?_⟩
      · cases m with
        | zero => simpa using e
        | succ m => simpa using h2 m (by omega)
      · rw [List.erase_cons_tail (by simpa using e), h3]; rfl
theorem m_rem : MopR X CA .rem (TL' X) rRemS := by
  refine ⟨fun h r => ty_of (by simp) h r, fun {q ps u M H H2 vs a On Zn O Z Q} hu hm sm pv r nd zo d1 d2 d3 k => ?_⟩
  replace hu : opRem q ps = some u := hu
  unfold opRem at hu
  split at hu <;> first | (cases hu; done) | skip
  case h_1 q1 q2 xs n s m =>
    obtain ⟨ss, hs, hu⟩ := Option.bind_eq_some_iff.mp hu
    obtain ⟨hin, hu⟩ := go_some hu
    cases hu
    obtain ⟨k1, ws, O1, e1, h1, rs, rfl⟩ := lst_own r (by simp)
    obtain ⟨w, rfl, pv1⟩ := pv.one_inv
    obtain ⟨rfl, _⟩ := pv1.rep.str_inv
    obtain ⟨ew, hb⟩ := str_list rs hs
    subst ew
    obtain ⟨j, j1, j2, j3⟩ := erase_ix hin
    have hb2 : ∀ t ∈ ss.erase s, Bd t := fun t ht => hb t (List.mem_of_mem_erase ht)
    have e1 : n = k1 := by simpa using e1
    subst e1
    refine ⟨a, ss, s, j, rfl, rfl, h1, j1, j2, ?_⟩
    rw [← j3]
    exact k _ [a] [] .non [] keepU thereU (by simp) (.lstO upd_same (by
      have : ∀ (l : List Cs), (∀ t ∈ l, Bd t) → ∀ H9 : Hp, Reps X.K CA H9 n (l.map D.str) (l.map fun t => V.str (mkS t)) [] [] := fun l => by
        induction l with
        | nil => exact fun _ H9 => .nil
        | cons t l ih => exact fun h H9 => .cons (O := []) (Z := []) (O' := []) (Z' := []) (.str (h t (by simp))) (ih (fun t ht => h t (by simp [ht])) H9)
      exact this _ hb2 _)) (by simp) (by simp) (by simp) (by simp) .non (by simp) (by simp)
theorem x_mrem {p : Pth} {c : C} {o e : Expr} {apos cpos : Pos} (ho : PE X o (tP X G CA cf W p)) (he : PE X e (tE X G CA cf W c)) (hb : noSup o = true) (hs : noStar e = true) (hl : (apos.endLine == cpos.line) = true) : PE X (.Call (.Attribute o "remove" apos) [e] [] cpos) (tX X G CA cf W L (.mop p .rem [c])) := by
  have hs1 : [e].all noStar = true := by simp [hs]
  exact PE.weak (pe_bm F.plainAttrs_list F.slot_list_remove F.type_list_remove mt_removeS ho (a_cons he a_nil (star_cons hs)) (base_ok hb) (back_few hs1 (by simp)) hl (star_cons hs) rfl) fun σ H Q h => mop_read m_rem h
end
end Vy

namespace Vy
open PySem PySem.Spec
open PyProof.Rows hiding St
open L2
/-! ## a text in a text -/
theorem findC_spec {S : Cs} : ∀ (s : Cs) (lo : Nat), (findC S lo s = none ∧ ∀ k, k < s.length → ¬ S.isPrefixOf (s.drop k) = true) ∨ (∃ j, findC S lo s = some j ∧ lo ≤ j ∧ S.isPrefixOf (s.drop (j - lo)) = true ∧ ∀ k, lo ≤ k → k < j → ¬ S.isPrefixOf (s.drop (k - lo)) = true)
  | [], lo => by
    rw [findC]
    by_cases h : S = []
    · rw [if_pos h]
      exact .inr ⟨lo, rfl, Nat.le_refl _, by rw [h]; rfl, fun k h1 h2 => by omega⟩
    · rw [if_neg h]
      exact .inl ⟨rfl, by simp⟩
  | c :: r, lo => by
    rw [findC]
    by_cases h : S.isPrefixOf (c :: r) = true
    · rw [if_pos h]
      exact .inr ⟨lo, rfl, Nat.le_refl _, by rw [Nat.sub_self]; exact h, fun k h1 h2 => by omega⟩
    · rw [if_neg h]
      rcases findC_spec r (lo + 1) with ⟨h1, h2⟩ | ⟨j, h1, h2, h3, h4⟩
      · refine .inl ⟨h1, fun k hk => ?_⟩
        cases k with
        | zero => exact h
        | succ k => exact h2 k (by simpa using hk)
      · refine .inr ⟨j, h1, by omega, ?_, fun k k1 k2 => ?_⟩
        · rw [show j - lo = (j - (lo + 1)) + 1 by omega]; exact h3
        · by_cases e : k = lo
          · subst e; rw [Nat.sub_self]; exact h
          · rw [show k - lo = (k - (lo + 1)) + 1 by omega]; exact h4 k (by omega) k2
theorem pre_isP (S l : Cs) : TL.pre S l = S.isPrefixOf l := by
  unfold TL.pre
  rw [Bool.eq_iff_iff, beq_iff_eq, List.isPrefixOf_iff_prefix, List.prefix_iff_eq_take]
  exact eq_comm
theorem at_isP {S s : Cs} (hS : S ≠ []) (i : Nat) : PySem.StrLaws.At (mkS s) (mkS S) (mkS s).length i ↔ S.isPrefixOf (s.drop i) = true := by
  have e1 : TL.tl (mkS S) = S := mkS_tl S
  have e2 : TL.tl (mkS s) = s := mkS_tl s
  rw [TL.at_iff (by rw [e1]; exact hS), e1, e2, pre_isP]
theorem occ_findC {S s : Cs} (hS : S ≠ []) {lo : Nat} (hlo : lo ≤ s.length) : (match Builtin.Str.occurrences (mkS s) (mkS S) lo (mkS s).length 1 with | k :: _ => (k : Int) | [] => -1) = (match findC S lo (s.drop lo) with | some k => (k : Int) | none => -1) := by
  have nil : ∀ k, s.length ≤ k → ¬ S.isPrefixOf (s.drop k) = true := fun k hk => by
    rw [List.drop_of_length_le hk]
    cases S with
    | nil => exact absurd rfl hS
    | cons a r => simp
  have dd : ∀ k, (s.drop lo).drop k = s.drop (lo + k) := fun k => by rw [List.drop_drop]
  rcases PySem.StrLaws.occ_head_from (mkS s) (mkS S) lo 1 (Nat.le_refl _) with ⟨h1, h2⟩ | ⟨i, r, h1, h2, h3, h4⟩ <;> rw [h1] <;> rcases findC_spec (S := S) (s.drop lo) lo with ⟨f1, f2⟩ | ⟨j, f1, f2, f3, f4⟩ <;> rw [f1] <;> simp only
  · exfalso
    rw [dd, show lo + (j - lo) = j by omega] at f3
    exact h2 j f2 ((at_isP hS j).mpr f3)
  · exfalso
    have h3 := (at_isP hS i).mp h3
    by_cases hi : i < s.length
    · refine f2 (i - lo) (by rw [List.length_drop]; omega) ?_
      rw [dd, show lo + (i - lo) = i by omega]
      exact h3
    · exact nil i (by omega) h3
  · have h3 := (at_isP hS i).mp h3
    rw [dd, show lo + (j - lo) = j by omega] at f3
    have a : ¬ i < j := fun z => f4 i h2 z (by rw [dd, show lo + (i - lo) = i by omega]; exact h3)
    have b : ¬ j < i := fun z => h4 j f2 z ((at_isP hS j).mpr f3)
    rw [show i = j by omega]
section
variable {X : Cx} {nm : Nm} {G : Glo} {CA : Nat → Addr} {cf : Runs} {W : WX} {sc : Scope} {np : Nat → Option Nat} {bl : List Str} {L : List Nat}
theorem e_find {o c : C} {eo e : Expr} {apos pos : Pos} (ho : PE X eo (tE X G CA cf W o)) (he : PE X e (tE X G CA cf W c)) (hs : noStar e = true) (hb : noSup eo = true) (hl : (apos.endLine == pos.line) = true) : PE X (.Call (.Attribute eo "find" apos) [e] [] pos) (tE X G CA cf W (.mth .find o [c])) := by
  refine e_m1 F.slot_str_find F.type_str_find mt_find (by decide) ho he hs hb hl fun s d n k v H0 H M O Z z Q σ0 hbd pv hz hd => ?_
  cases d <;> first | (cases hz; done) | skip
  rename_i p
  obtain ⟨h1, e⟩ := go_some (show go _ _ = _ from hz)
  cases e
  obtain ⟨rfl, _⟩ := pv.rep.str_inv
  refine ⟨_, _, rfl, rfl, ?_⟩
  have e := occ_findC (s := s) h1 (Nat.zero_le _)
  rw [List.drop_zero] at e
  have e2 : Txt.find (mkS s) (mkS p) = (match findC p 0 s with | some k => (k : Int) | none => -1) := e
  rw [e2]
  exact hd.val pv.same (.int _)
theorem e_find2 {o c c2 : C} {eo e e2 : Expr} {apos pos : Pos} (ho : PE X eo (tE X G CA cf W o)) (he : PE X e (tE X G CA cf W c)) (he2 : PE X e2 (tE X G CA cf W c2)) (hs : noStar e = true) (hs2 : noStar e2 = true) (hb : noSup eo = true) (hl : (apos.endLine == pos.line) = true) : PE X (.Call (.Attribute eo "find" apos) [e, e2] [] pos) (tE X G CA cf W (.mth .find o [c, c2])) := by
  have hs1 : [e, e2].all noStar = true := by simp [hs, hs2]
  refine PE.weak (pe_bm F.plainAttrs_str F.slot_str_find F.type_str_find mt_find3 ho (a_cons he (a_cons he2 a_nil (star_cons hs2)) (star_cons hs)) (base_ok hb) (back_few hs1 (by simp)) hl (star_cons hs) (back_any (by simp [hs2]))) fun σ H Q ⟨S, sr, h⟩ => ?_
  rw [ev] at h
  refine ⟨S, sr, Den.seq (Same.refl H) h fun p x H1 O Z e1 pv hd => ?_⟩
  obtain ⟨hr, hd⟩ := hd.gd
  obtain ⟨d0, k⟩ := p
  obtain ⟨s, rfl⟩ := recv_str (m := .find) (by decide) hr
  obtain ⟨rfl, _, _, hbd⟩ := pv.rep.str_inv
  refine ⟨rfl, S, sr.same pv.same, DenL.seq pv.same hd fun ps us H2 O' Z' e2 s2 pw hd2 => ?_⟩
  obtain ⟨z, hz, hd3⟩ := Den.ofv hd2
  obtain ⟨q1, q2, rfl⟩ : ∃ q1 q2, ps = [q1, q2] := by
    simp only [evs] at e2
    obtain ⟨q1, _, e2⟩ := Out.bind_eq_ok e2
    obtain ⟨l, e3, e2⟩ := Out.bind_eq_ok e2
    obtain ⟨q2, _, e3⟩ := Out.bind_eq_ok e3
    cases e3; cases e2
    exact ⟨q1, q2, rfl⟩
  obtain ⟨d1, n1⟩ := q1
  obtain ⟨d2, n2⟩ := q2
  cases pw with
  | cons p1 pr _ _ =>
  cases pr with
  | cons p2 pr _ _ =>
  cases pr
  cases d1 <;> first | (cases hz; done) | skip
  cases d2 <;> first | (cases hz; done) | skip
  rename_i p i
  obtain ⟨⟨g1, g2, g3⟩, e⟩ := go_some (show go _ _ = _ from hz)
  cases e
  obtain ⟨rfl, _⟩ := p1.rep.str_inv
  obtain ⟨rfl, _⟩ := p2.rep.int_inv
  refine ⟨_, _, _, rfl, rfl, ?_⟩
  have fi : fromIndex (mkS s).length i = i.toNat := by
    rw [mkS_len]
    unfold fromIndex
    rw [if_neg (by omega)]
    congr 1
    omega
  have e := occ_findC (S := p) (s := s) g1 (lo := i.toNat) (by omega)
  have e2 : Txt.find3 (mkS s) (mkS p) i = (match findC p i.toNat (s.drop i.toNat) with | some k => (k : Int) | none => -1) := by
    unfold Txt.find3
    rw [fi]
    exact e
  rw [e2]
  exact hd3.val (pv.same.trans s2) (.int _)
/-! ## a text turned about -/
def tRevS (te : TE) : TE := fun σ H Q => te σ H fun x H1 => ∃ z : Str, x = .str z ∧ z.length ≤ sizeLine ∧ Q (.str ⟨z.cps.toList.reverse.toArray⟩) H1
theorem back_all (z : Str) : (Builtin.Str.strSliceIndices none none (-1) z.length).filterMap (z.cps[·]?) = z.cps.toList.reverse := by
  have e : Builtin.Str.strSliceIndices none none (-1) z.length = sliceRange ((z.length : Int) - 1) (-1) (-1) := rfl
  rw [e, PySem.W.krv_sliceRange, PySem.W.krv_range, List.filterMap_reverse]
  congr 1
  exact PySem.W.krv_all z.cps
theorem pe_revS {e : Expr} {te : TE} {k : Nat} {p1 p2 p3 pos : Pos} (he : PE X e te) : PE X (.Subscript e (.Slice none none (some (.UnaryOp .USub (.Constant (.int 1) k p1) p2)) p3) pos) (tRevS te) := by
  refine ⟨fun pins s σ H Q I h => Subscript_ (thn (he.run pins s σ H _ I h) fun v s1 ⟨x, H1, I1, r1, z, ez, hz, q⟩ => ?_)⟩
  subst ez
  obtain ⟨t, rfl⟩ := r1
  have step : PO X (some (.UnaryOp .USub (.Constant (.int 1) k p1) p2)) (tPart (tUn (rU fun i => .int (-i)) (tC (.int 1)))) := po_some (L2.pe_un un_neg pe_int)
  refine wpAny_Slice (thn (po_none.run pins s1 σ H1 (fun o H2 => o = none ∧ H2 = H1) I1 ⟨rfl, rfl⟩) fun vl s2 w2 => ?_)
  obtain ⟨l, H2, I2, pl, el, eh⟩ := w2
  subst el; subst eh
  refine thn (po_none.run pins s2 σ H2 (fun o H3 => o = none ∧ H3 = H2) I2 ⟨rfl, rfl⟩) fun vu s3 w3 => ?_
  obtain ⟨u, H3, I3, pu, eu, eh⟩ := w3
  subst eu; subst eh
  refine thn (step.run pins s3 σ H3 (fun o H4 => o = some (-1) ∧ H4 = H3) I3 ⟨1, rfl, -1, rfl, rfl, rfl⟩) fun vs s4 w4 => ?_
  obtain ⟨o, H4, I4, ps, eo, eh⟩ := w4
  subst eo; subst eh
  obtain ⟨cl, rfl, ecl⟩ := IsPart.raw pl
  obtain ⟨cu, rfl, ecu⟩ := IsPart.raw pu
  obtain ⟨cs, rfl, ecs⟩ := IsPart.raw ps
  have I5 : Inv X pins σ H4 { s4 with heap := s4.heap.push { cls := .type "slice", data := .fields #[partValue cl, partValue cu, partValue cs] } } := I4.kept (t' := s4.toks) fun b ob q => Heap.get?_push_of_some _ q
  refine tail_any (ops := [.ref s4.heap.objs.size, .str z t]) (typeIs_str _ _ _) F.slot_str_getitem.lookup ?_ (by with_unfolding_all rfl)
  refine wpAny_getItem_str_slice (l := cl) (u := cu) (st := cs) ⟨_, Heap.get?_push_size _ rfl, rfl, rfl⟩ (by rw [ecs]; decide) ?_
  unfold sliceMade slicePicked
  rw [ecl, ecu, ecs]
  show Made.post (.str ⟨((Builtin.Str.strSliceIndices none none (-1) z.length).filterMap (z.cps[·]?)).toArray⟩) _ _
  rw [back_all]
  have hle : (⟨z.cps.toList.reverse.toArray⟩ : Str).length ≤ sizeLine := by
    show z.cps.toList.reverse.toArray.size ≤ sizeLine
    have : z.cps.toList.length = z.length := Array.length_toList
    simp only [List.size_toArray, List.length_reverse]
    omega
  exact ⟨hle, .str _, H4, I5.tok _, ⟨_, rfl⟩, q⟩
section
variable {X : Cx} {nm : Nm} {G : Glo} {CA : Nat → Addr} {cf : Runs} {W : WX} {sc : Scope} {np : Nat → Option Nat} {bl : List Str} {L : List Nat}
theorem e_rev {c : C} {e : Expr} {k : Nat} {p1 p2 p3 pos : Pos} (he : PE X e (tE X G CA cf W c)) : PE X (.Subscript e (.Slice none none (some (.UnaryOp .USub (.Constant (.int 1) k p1) p2)) p3) pos) (tE X G CA cf W (.rev c)) := by
  refine PE.weak (pe_revS he) fun σ H Q ⟨S, sr, h⟩ => ?_
  rw [ev] at h
  refine ⟨S, sr, Den.seq (Same.refl H) h fun p v H1 O Z e1 pv hd => ?_⟩
  obtain ⟨d, n⟩ := p
  cases d <;> first | exact hd.elim | skip
  rename_i s
  obtain ⟨hl, hd⟩ := hd.gd
  obtain ⟨rfl, _, _, hbd⟩ := pv.rep.str_inv
  refine ⟨_, rfl, by rw [mkS_len, SZ_eq]; exact hl, ?_⟩
  have e : (⟨(mkS s).cps.toList.reverse.toArray⟩ : Str) = mkS s.reverse := by
    rw [mkS_tl]; rfl
  rw [e]
  exact hd.val pv.same (.str fun c hc => hbd c (by simpa using hc))
/-! ## two rows by turns, a row from behind -/
theorem zip_at {xs ys : List D} {i : Nat} {d : D} (h : (zipD xs ys)[i]? = some d) : ∃ x y, xs[i]? = some x ∧ ys[i]? = some y ∧ d = .tup [x, y] := by
  unfold zipD at h
  rw [List.getElem?_map] at h
  obtain ⟨⟨x, y⟩, h1, h2⟩ := Option.map_eq_some_iff.mp h
  obtain ⟨h3, h4⟩ := List.getElem?_zip_eq_some.mp h1
  exact ⟨x, y, h3, h4, h2.symm⟩
theorem walk_zip {K : PySem.W.Frag} {a b : Addr} {xs ys : List D} {Ms Ns : List Addr} (ha : a ∈ Ms) (hb : b ∈ Ns) : Walk K CA (Itz K a b) (zipD xs ys) (Ms ++ Ns) (fun H => (∃ vs Z, H a = some (.lst vs) ∧ Reps K CA H 0 xs vs [] Z ∧ (∀ c ∈ Z, c ∈ Ms) ∧ ∀ c ∈ Ms, H c ≠ none) ∧ ∃ ws Z, H b = some (.lst ws) ∧ Reps K CA H 0 ys ws [] Z ∧ (∀ c ∈ Z, c ∈ Ns) ∧ ∀ c ∈ Ns, H c ≠ none) where
  go := fun i H hi ⟨⟨vs, Z, h1, r, _⟩, ws, Z2, h2, r2, _⟩ => by
    have hi : i < xs.length ∧ i < ys.length := by simp [zipD] at hi; omega
    obtain ⟨v, hv⟩ := r.lt hi.1
    obtain ⟨w, hw⟩ := r2.lt hi.2
    exact ⟨vs, ws, v, w, .of h1, .of h2, hv, hw⟩
  stop := fun H ⟨⟨vs, Z, h1, r, _⟩, ws, Z2, h2, r2, _⟩ => ⟨vs, ws, .of h1, .of h2, by
    rw [← r.length, ← r2.length]
    simp [zipD]
    omega⟩
  yld := fun i H x H' d ⟨⟨vs, Z, h1, r, hz, _⟩, ws, Z2, h2, r2, hz2, _⟩ hd ⟨T, y, y2, e, hT, e', hy, hy2⟩ => by
    subst e; subst e'
    obtain ⟨d1, d2, g1, g2, rfl⟩ := zip_at hd
    obtain ⟨v, Z1, hv, rv, q1⟩ := r.get0' i d1 g1
    obtain ⟨w, Z3, hw, rw', q2⟩ := r2.get0' i d2 g2
    have := hy vs (.of h1)
    rw [hv] at this; cases this
    have := hy2 ws (.of h2)
    rw [hw] at this; cases this
    have k : Same H (upd H T (.tup [y, y2])) := sameNew hT
    refine ⟨k, Z1 ++ Z3, .tup (.of upd_same) ?_, fun c hc => ?_⟩
    · have := Reps.cons (K := K) (CA := CA) (H := upd H T (.tup [y, y2])) (n := 0) (rv.same k) (Reps.cons (rw'.same k) .nil)
      simpa using this
    · rcases List.mem_append.mp hc with z | z
      · exact List.mem_append_left _ (hz c (q1 c z))
      · exact List.mem_append_right _ (hz2 c (q2 c z))
  keep := fun F H H' ⟨p1, p2⟩ k f hn => ⟨(walk_list (K := K) (CA := CA) (xs := xs) ha).keep F H H' p1 k f (fun c hc => hn c (List.mem_append_left _ hc)), (walk_list (K := K) (CA := CA) (xs := ys) hb).keep F H H' p2 k f (fun c hc => hn c (List.mem_append_right _ hc))⟩
  there := fun H ⟨p1, p2⟩ c hc => by
    rcases List.mem_append.mp hc with z | z
    · exact (walk_list (K := K) (CA := CA) (xs := xs) ha).there H p1 c z
    · exact (walk_list (K := K) (CA := CA) (xs := ys) hb).there H p2 c z
theorem walk_rev {K : PySem.W.Frag} {a : Addr} {xs : List D} {Ns : List Addr} (ha : a ∈ Ns) : Walk K CA (Itv K a xs.length) xs.reverse Ns (fun H => ∃ vs Z, H a = some (.lst vs) ∧ Reps K CA H 0 xs vs [] Z ∧ (∀ b ∈ Z, b ∈ Ns) ∧ ∀ b ∈ Ns, H b ≠ none) where
  go := fun i H hi ⟨vs, Z, h1, r, _⟩ => by
    have hi : i < xs.length := by simpa using hi
    obtain ⟨v, hv⟩ := r.lt (i := xs.length - 1 - i) (by omega)
    exact ⟨hi, vs, v, .of h1, hv⟩
  stop := fun H _ => by simp [Itv]
  yld := fun i H x H' d ⟨vs, Z, h1, r, hz, _⟩ hd ⟨e, hy⟩ => by
    subst e
    have hi : i < xs.length := by have := (List.getElem?_eq_some_iff.mp hd).1; simpa using this
    rw [List.getElem?_reverse hi] at hd
    obtain ⟨v, Z1, hv, rv, h2⟩ := r.get0' _ d hd
    have := hy vs (.of h1)
    rw [hv] at this; cases this
    exact ⟨Same.refl _, Z1, rv, fun b hb => hz b (h2 b hb)⟩
  keep := (walk_list (K := K) (CA := CA) (xs := xs) ha).keep
  there := (walk_list (K := K) (CA := CA) (xs := xs) ha).there
/-- a list that has come, as what is walked -/
theorem lst_walked {H H1 : Hp} {M : Addr → Prop} {xs : List D} {n : Nat} {v : V} {O Z : List Addr} (p1 : PVal X.K CA M H H1 (.lst xs) n v O Z) : ∃ a ws Z0, v = .ref a ∧ a ∈ O ++ Z ∧ H1 a = some (.lst ws) ∧ Reps X.K CA H1 0 xs ws [] Z0 ∧ (∀ b ∈ Z0, b ∈ O ++ Z) ∧ ∀ b ∈ O ++ Z, H1 b ≠ none := by
  obtain ⟨a, ws, O', Z', m, rfl, h1, r, hO, hZ⟩ := p1.rep.lst_inv
  obtain ⟨Z0, r0, h0⟩ := r.zeroed
  refine ⟨a, ws, Z0, rfl, ?_, h1, r0, fun b hb => ?_, fun b hb => p1.rep.there b hb⟩
  · have := p1.rep
    cases this with
    | lstO _ _ => simp
    | lstZ _ _ => simp
  · rcases h0 b hb with z | z
    · simp [hO b z]
    · simp [hZ b z]
theorem i_zip {c c2 : C} {e e2 : Expr} {p pos tpos : Pos} {elts : List Expr} {kk : Nat} (B0 : CtxOk X nm G CA cf np bl) (hr : ("zip" : Str) ∈ bl) (hg : Gl X "zip") (h : PE X e (tE X G CA cf W c)) (h2 : PE X e2 (tE X G CA cf W c2)) (hs : noStar e = true) (hs2 : noStar e2 = true) :
    PI X (.Tuple elts kk tpos) (.Call (.Name "zip" p) [e, e2] [] pos) (tI X G CA cf W (.zip c c2)) := by
  refine ⟨fun pins s σ H R I ⟨S, sr, hd⟩ => (pi_zip (elts := elts) (kk := kk) (tpos := tpos) hg (B0.blt _ hr) (a_cons h (a_cons h2 a_nil (star_cons hs2)) (star_cons hs)) (star_cons hs) (back_any (by simp [hs2]))).run pins s σ H R I ⟨S, sr, ?_⟩⟩
  have hd' : DenI X.K CA W (Mi S (.zip c c2)) ((ev G cf (envOf S) c).bind fun x => (ev G cf (envOf S) c2).bind fun y => match x.1, y.1 with | .lst xs, .lst ys => .ok (.lst (zipD xs ys), 0) | _, _ => .bad) σ H R := by rw [ev] at hd; exact hd
  simp only [evs]
  cases e1 : ev G cf (envOf S) c with
  | exc x => rw [e1] at hd'; exact hd'
  | bad => rw [e1] at hd'; exact hd'
  | ok q =>
  cases e3 : ev G cf (envOf S) c2 with
  | exc x => rw [e1, e3] at hd'; exact hd'
  | bad => rw [e1, e3] at hd'; exact hd'
  | ok q2 =>
    rw [e1, e3] at hd'
    obtain ⟨d, n⟩ := q
    obtain ⟨d2, n2⟩ := q2
    simp only [Out.bind_ok] at hd'
    intro vs H1 O Z s1 pv
    obtain ⟨v, w, O1, Z1, O2, Z2, rfl, p1, p2⟩ := pv.two_inv
    cases d <;> first | (exfalso; revert hd'; cases d2 <;> exact fun z => z) | skip
    cases d2 <;> first | exact hd'.elim | skip
    rename_i xs ys
    obtain ⟨zs, hz, q⟩ := hd'
    cases hz
    obtain ⟨a, ws, Z3, rfl, a1, a2, a3, a4, a5⟩ := lst_walked p1
    obtain ⟨b, us, Z4, rfl, b1, b2, b3, b4, b5⟩ := lst_walked p2
    refine ⟨a, b, ws, us, rfl, .of a2, .of b2, q _ H1 ((O1 ++ Z1) ++ (O2 ++ Z2)) _ s1 ⟨⟨ws, Z3, a2, a3, a4, a5⟩, us, Z4, b2, b3, b4, b5⟩ (walk_zip a1 b1) fun x hx => ?_⟩
    have hm : ¬ (D.lst (zipD xs ys)).mdep ≤ 0 := by simp [D.mdep]
    have nn : ∀ y, Nod S (namesL [c, c2]) y → Nod S (names (C.zip c c2)) y := fun y w => w.mono' (by simp [namesL, names])
    rcases List.mem_append.mp hx with hx | hx <;> rcases List.mem_append.mp hx with z | z
    · exact .inl (p1.fresh x z)
    · exact (p1.zin x z).imp id fun w => ⟨hm, nn x w⟩
    · exact .inl (p2.fresh x z)
    · exact (p2.zin x z).imp id fun w => ⟨hm, nn x w⟩
theorem i_rvs {tg : Expr} {c : C} {e : Expr} {p pos : Pos} (B0 : CtxOk X nm G CA cf np bl) (hr : ("reversed" : Str) ∈ bl) (hg : Gl X "reversed") (h : PE X e (tE X G CA cf W c)) (hs : noStar e = true) :
    PI X tg (.Call (.Name "reversed" p) [e] [] pos) (tI X G CA cf W (.rvs c)) := by
  refine ⟨fun pins s σ H R I ⟨S, sr, hd⟩ => (pi_reversed (tg := tg) hg (B0.blt _ hr) (a_cons h a_nil (star_cons hs)) (by rw [star_cons hs]; rfl)).run pins s σ H R I ⟨S, sr, ?_⟩⟩
  have hd' : DenI X.K CA W (Mi S (.rvs c)) ((ev G cf (envOf S) c).bind fun x => match x.1 with | .lst xs => .ok (.lst xs.reverse, 0) | _ => .bad) σ H R := by rw [ev] at hd; exact hd
  simp only [evs]
  cases e1 : ev G cf (envOf S) c with
  | exc x => rw [e1] at hd'; exact hd'
  | bad => rw [e1] at hd'; exact hd'
  | ok q =>
    rw [e1] at hd'
    obtain ⟨d, n⟩ := q
    simp only [Out.bind_ok] at hd'
    intro vs H1 O Z s1 pv
    obtain ⟨v, rfl, p1⟩ := pv.one_inv
    cases d <;> first | exact hd'.elim | skip
    rename_i xs
    obtain ⟨zs, hz, q⟩ := hd'
    cases hz
    obtain ⟨a, ws, Z3, rfl, a1, a2, a3, a4, a5⟩ := lst_walked p1
    have hl := a3.length
    refine ⟨a, ws, rfl, .of a2, ?_⟩
    rw [← hl]
    refine q _ H1 (O ++ Z) _ s1 ⟨ws, Z3, a2, a3, a4, a5⟩ (walk_rev a1) fun x hx => ?_
    have hm : ¬ (D.lst xs.reverse).mdep ≤ 0 := by simp [D.mdep]
    rcases List.mem_append.mp hx with z | z
    · exact .inl (p1.fresh x z)
    · exact (p1.zin x z).imp id fun w => ⟨hm, w.mono' (by simp [namesL, names])⟩
end
end
section
variable {X : Cx} {nm : Nm} {G : Glo} {CA : Nat → Addr} {cf : Runs} {W : WX} {sc : Scope} {np : Nat → Option Nat} {bl : List Str} {L : List Nat}
theorem r_zip (B : En sc X nm G CA cf np bl W) {c c2 : C} {e e2 : Expr} {p pos tpos : Pos} {elts : List Expr} {kk : Nat} (hr : bl.contains ("zip" : Str) = true) (hg : gloB sc "zip" = true) (hs : noStar e = true) (hs2 : noStar e2 = true) (h : PE X e (tE X G CA cf W c)) (h2 : PE X e2 (tE X G CA cf W c2)) :
    PI X (.Tuple elts kk tpos) (.Call (.Name "zip" p) [e, e2] [] pos) (tI X G CA cf W (.zip c c2)) := i_zip B.cx (by simpa using hr) (B.gl hg) h h2 hs hs2
theorem r_rvs (B : En sc X nm G CA cf np bl W) {tg : Expr} {c : C} {e : Expr} {p pos : Pos} (hr : bl.contains ("reversed" : Str) = true) (hg : gloB sc "reversed" = true) (hs : noStar e = true) (h : PE X e (tE X G CA cf W c)) :
    PI X tg (.Call (.Name "reversed" p) [e] [] pos) (tI X G CA cf W (.rvs c)) := i_rvs B.cx (by simpa using hr) (B.gl hg) h hs
end
theorem mulL {i j : Int} {m n : Nat} (h1 : -1000000000000 < i) (h2 : i < 1000000000000) : binD .mul (.int i, m) (.int j, n) = some (.int (i * j), 9) := mul_int (.inl ⟨by omega, by omega⟩)
theorem mulR {i j : Int} {m n : Nat} (h1 : -1000000000000 < j) (h2 : j < 1000000000000) : binD .mul (.int i, m) (.int j, n) = some (.int (i * j), 9) := mul_int (.inr ⟨by omega, by omega⟩)
end Vy

namespace K41
open PySem PySem.Spec
open PyProof.Rows hiding St
open L2 Vy
def topS (i : Nat) : Stmt := PySem.Challenge.pw_thingyard_k41_texts_made.main.body.getD i (.Pass ⟨0, 0, 0, 0⟩)
abbrev s12 : Stmt := topS 1
abbrev N12 : List Str := ["text", "word"]
abbrev P12 : List Str := ["text"]
/-- words_of -/
def c12 : List Vy.S := [.ret (.lc (.mth .split (.mth .replace (.var 0) [.cst (.str [10]), .cst (.str [32])]) [.cst (.str [32])]) (.one 1) (some (.cmp .ne (.var 1) (.cst (.str [])))) (.var 1))]
theorem sc12 : FnScope N12 P12 (defScope s12) := ⟨rfl, rfl, rfl, by decide +kernel, rfl, by decide +kernel, by decide +kernel⟩
abbrev s138 : Stmt := topS 3
abbrev N138 : List Str := ["text"]
abbrev P138 : List Str := ["text"]
/-- turned_about -/
def c138 : List Vy.S := [.ret (.rev (.var 0))]
theorem sc138 : FnScope N138 P138 (defScope s138) := ⟨rfl, rfl, rfl, by decide +kernel, rfl, by decide +kernel, by decide +kernel⟩
abbrev s139 : Stmt := topS 4
abbrev N139 : List Str := ["text", "words"]
abbrev P139 : List Str := ["text"]
/-- first_word -/
def c139 : List Vy.S := [.asg 1 (.cal 12 [.var 0]), .ife (.cmp .eq (.var 1) (.lst [])) [.ret (.cst (.str []))] [], .ret (.sub (.var 1) (.cst (.int 0)))]
theorem sc139 : FnScope N139 P139 (defScope s139) := ⟨rfl, rfl, rfl, by decide +kernel, rfl, by decide +kernel, by decide +kernel⟩
abbrev s140 : Stmt := topS 5
abbrev N140 : List Str := ["text"]
abbrev P140 : List Str := ["text"]
/-- rest_words -/
def c140 : List Vy.S := [.ret (.mth .join (.cst (.str [32])) [.slc (.cal 12 [.var 0]) (some (.cst (.int 1))) none])]
theorem sc140 : FnScope N140 P140 (defScope s140) := ⟨rfl, rfl, rfl, by decide +kernel, rfl, by decide +kernel, by decide +kernel⟩
abbrev s141 : Stmt := topS 6
abbrev N141 : List Str := ["text"]
abbrev P141 : List Str := ["text"]
/-- counted -/
def c141 : List Vy.S := [.ret (.bif .str [.bif .len [.cal 12 [.var 0]]])]
theorem sc141 : FnScope N141 P141 (defScope s141) := ⟨rfl, rfl, rfl, by decide +kernel, rfl, by decide +kernel, by decide +kernel⟩
abbrev s142 : Stmt := topS 7
abbrev N142 : List Str := ["text"]
abbrev P142 : List Str := ["text"]
/-- sorted_words -/
def c142 : List Vy.S := [.ret (.mth .join (.cst (.str [32])) [.bif .sorted [.cal 12 [.var 0]]])]
theorem sc142 : FnScope N142 P142 (defScope s142) := ⟨rfl, rfl, rfl, by decide +kernel, rfl, by decide +kernel, by decide +kernel⟩
abbrev s94 : Stmt := topS 9
abbrev N94 : List Str := ["_law_cell", "_law_k"]
abbrev P94 : List Str := ["_law_cell", "_law_k"]
/-- _law_mixed -/
def c94 : List Vy.S := [.ret (.bin .mod (.bin .mul (.bin .add (.var 0) (.bin .mul (.cst (.int 7919)) (.var 1))) (.cst (.int 48271))) (.cst (.int 2147483647)))]
theorem sc94 : FnScope N94 P94 (defScope s94) := ⟨rfl, rfl, rfl, by decide +kernel, rfl, by decide +kernel, by decide +kernel⟩
abbrev s95 : Stmt := topS 10
abbrev N95 : List Str := ["_law_script", "_law_k"]
abbrev P95 : List Str := ["_law_script", "_law_k"]
/-- _law_cell_at -/
def c95 : List Vy.S := [.ife (.cmp .lt (.var 1) (.bif .len [.var 0])) [.ret (.cal 94 [.sub (.var 0) (.var 1), .var 1])] [], .ret (.cst (.int 0))]
theorem sc95 : FnScope N95 P95 (defScope s95) := ⟨rfl, rfl, rfl, by decide +kernel, rfl, by decide +kernel, by decide +kernel⟩
abbrev s110 : Stmt := topS 11
abbrev N110 : List Str := ["_law_cell", "_law_some"]
abbrev P110 : List Str := ["_law_cell"]
/-- _law_sign_by -/
def c110 : List Vy.S := [.asg 1 (.cst (.str [32, 33, 35, 36, 38, 39, 40, 41, 42, 43, 44, 45, 46, 47, 48, 49, 50, 51, 52, 53, 54, 55, 56, 57, 58, 59, 60, 61, 62, 63, 64, 65, 66, 67, 68, 69, 70, 71, 72, 73, 74, 75, 76, 77, 78, 79, 80, 81, 82, 83, 84, 85, 86, 87, 88, 89, 90, 91, 92, 93, 94, 95, 96])), .asg 1 (.bin .add (.var 1) (.cst (.str [97, 98, 99, 100, 101, 102, 103, 104, 105, 106, 107, 108, 109, 110, 111, 112, 113, 114, 115, 116, 117, 118, 119, 120, 121, 122, 123, 124, 125, 126]))), .ret (.sub (.var 1) (.bin .mod (.var 0) (.cst (.int 93))))]
theorem sc110 : FnScope N110 P110 (defScope s110) := ⟨rfl, rfl, rfl, by decide +kernel, rfl, by decide +kernel, by decide +kernel⟩
abbrev s143 : Stmt := topS 13
abbrev N143 : List Str := ["_law_cell", "_law_k"]
abbrev P143 : List Str := ["_law_cell", "_law_k"]
/-- _law_piece -/
def c143 : List Vy.S := [.ret (.sub (.lst [.cst (.str []), .cst (.str [32]), .cst (.str [10]), .cst (.str [98]), .cst (.str [97]), .cal 110 [.bin .add (.var 0) (.bin .mul (.var 1) (.cst (.int 7)))], .cst (.str [97, 98]), .cst (.str [66])]) (.bin .mod (.bin .mod (.bin .mul (.bin .add (.bin .fdv (.var 0) (.cst (.int 93))) (.bin .mul (.var 1) (.cst (.int 977)))) (.cst (.int 48271))) (.cst (.int 7919))) (.cst (.int 8))))]
theorem sc143 : FnScope N143 P143 (defScope s143) := ⟨rfl, rfl, rfl, by decide +kernel, rfl, by decide +kernel, by decide +kernel⟩
abbrev s144 : Stmt := topS 14
abbrev N144 : List Str := ["_law_text", "_law_words_here", "_law_kept", "_law_sign"]
abbrev P144 : List Str := ["_law_text"]
/-- _law_words -/
def c144 : List Vy.S := [.asg 1 (.lst []), .asg 2 (.cst (.str [])), .for_ (.one 3) (.bin .add (.var 0) (.cst (.str [32]))) [.ife (.cmp .notin (.var 3) (.cst (.str [32, 10]))) [.asg 2 (.bin .add (.var 2) (.var 3))] [.ife (.cmp .ne (.var 2) (.cst (.str []))) [.app 1 (.var 2), .asg 2 (.cst (.str []))] []]], .retv 1]
theorem sc144 : FnScope N144 P144 (defScope s144) := ⟨rfl, rfl, rfl, by decide +kernel, rfl, by decide +kernel, by decide +kernel⟩
abbrev s145 : Stmt := topS 15
abbrev N145 : List Str := ["_law_words_here", "_law_rest", "_law_made"]
abbrev P145 : List Str := ["_law_words_here"]
/-- _law_in_order -/
def c145 : List Vy.S := [.asg 1 (.bif .list [.var 0]), .asg 2 (.lst []), .whl 100000 (.cmp .ne (.var 1) (.lst [])) [.app 2 (.bif .min [.var 1]), .expX (.mop ⟨1, []⟩ .rem [.bif .min [.var 1]])], .ret (.mth .join (.cst (.str [32])) [.var 2])]
theorem sc145 : FnScope N145 P145 (defScope s145) := ⟨rfl, rfl, rfl, by decide +kernel, rfl, by decide +kernel, by decide +kernel⟩
abbrev s146 : Stmt := topS 16
abbrev N146 : List Str := ["_law_script", "_law_size", "_law_text", "_law_k", "_law_cell", "_law_words_here", "_law_about", "_law_sign", "_law_due", "_law_gave", "_law_one"]
abbrev P146 : List Str := ["_law_script"]
/-- law -/
def c146 : List Vy.S := [.asg 1 (.bin .mod (.cal 95 [.var 0, .cst (.int 0)]) (.cst (.int 13))), .ife (.cmp .eq (.bin .mod (.bin .fdv (.cal 95 [.var 0, .cst (.int 0)]) (.cst (.int 13))) (.cst (.int 4))) (.cst (.int 1))) [.asg 1 (.bin .mod (.bin .fdv (.cal 95 [.var 0, .cst (.int 0)]) (.cst (.int 52))) (.cst (.int 451)))] [], .asg 2 (.mth .join (.cst (.str [])) [.lc (.rng [.var 1]) (.one 3) none (.cal 143 [.cal 95 [.var 0, .bin .add (.cst (.int 1)) (.bin .mod (.var 3) (.cst (.int 5)))], .bin .fdv (.var 3) (.cst (.int 5))])]), .ife (.cmp .eq (.bin .mod (.bin .fdv (.cal 95 [.var 0, .cst (.int 0)]) (.cst (.int 13))) (.cst (.int 4))) (.cst (.int 2))) [.asg 4 (.bin .fdv (.cal 95 [.var 0, .cst (.int 0)]) (.cst (.int 52))), .asg 2 (.mth .join (.cst (.str [32])) [.lc (.rng [.bin .mod (.var 4) (.cst (.int 451))]) (.one 3) none (.cal 110 [.bin .add (.var 4) (.bin .mul (.var 3) (.cst (.int 7)))])])] [], .asg 5 (.cal 144 [.var 2]), .asg 6 (.cst (.str [])), .for_ (.one 7) (.var 2) [.asg 6 (.bin .add (.var 7) (.var 6))], .asg 8 (.lst [.var 6, .mth .join (.cst (.str [])) [.slc (.var 5) none (some (.cst (.int 1)))], .mth .join (.cst (.str [32])) [.slc (.var 5) (some (.cst (.int 1))) none], .bif .str [.bif .len [.var 5]], .cal 145 [.var 5]]), .asg 9 (.lst [.cal 138 [.var 2], .cal 139 [.var 2], .cal 140 [.var 2], .cal 141 [.var 2], .cal 142 [.var 2]]), .ret (.and (.bif .all [.lc (.var 9) (.one 10) none (.isi (.var 10) .str)]) (.cmp .eq (.var 9) (.var 8)))]
theorem sc146 : FnScope N146 P146 (defScope s146) := ⟨rfl, rfl, rfl, by decide +kernel, rfl, by decide +kernel, by decide +kernel⟩
def nioT : List (Nat × (Nat × List Nat)) := [(12, (1, [])), (138, (1, [])), (139, (1, [])), (140, (1, [])), (141, (1, [])), (142, (1, [])), (94, (2, [])), (95, (2, [])), (110, (1, [])), (143, (2, [])), (144, (1, [])), (145, (1, [])), (146, (1, []))]
def nio (f : Nat) : Option (Nat × List Nat) := lk nioT f
def np (f : Nat) : Option Nat := plainN nio f
def PrT : List (Nat × Def) := [(12, ⟨1, 2, c12, []⟩), (138, ⟨1, 1, c138, []⟩), (139, ⟨1, 2, c139, []⟩), (140, ⟨1, 1, c140, []⟩), (141, ⟨1, 1, c141, []⟩), (142, ⟨1, 1, c142, []⟩), (94, ⟨2, 2, c94, []⟩), (95, ⟨2, 2, c95, []⟩), (110, ⟨1, 2, c110, []⟩), (143, ⟨2, 2, c143, []⟩), (144, ⟨1, 4, c144, []⟩), (145, ⟨1, 3, c145, []⟩), (146, ⟨1, 11, c146, []⟩)]
def Pr (f : Nat) : Option Def := lk PrT f
def fnT : List (Nat × Str) := [(12, "words_of"), (138, "turned_about"), (139, "first_word"), (140, "rest_words"), (141, "counted"), (142, "sorted_words"), (94, "_law_mixed"), (95, "_law_cell_at"), (110, "_law_sign_by"), (143, "_law_piece"), (144, "_law_words"), (145, "_law_in_order"), (146, "law")]
def gnT : List (Nat × Str) := []
def gvT : List (Nat × D) := []
def Tn : Tb := ⟨fun f => (lk fnT f).getD "", fun g => (lk gnT g).getD "", fun _ => "", fun _ => none⟩
def G : Glo := ⟨fun g => lk gvT g, fun _ => []⟩
def bl : List Str := ["all", "isinstance", "len", "list", "min", "range", "sorted", "str"]
set_option maxHeartbeats 4000000 in
theorem body12 {CA : Nat → Addr} {X : Cx} {cf : Runs} {W : WX} (Y : Body (defScope s12) X (Tn.nm N12) G CA cf np bl W) (I : CtxI X (Tn.nm N12) CA cf nio) (hio : cf.io = []) : PSsT X (defBody s12) (tB X G CA cf W [] c12) :=
  have B := Y.en; have pas := Y.pas; have hk := Y.kd; (b_retT (x_lcT1 B 1 rfl rfl rfl rfl (pit_val (e_splitT (e_replT (x_var B 0 rfl rfl rfl) rfl rfl (by decide) rfl rfl) (e_str (s := [32]) rfl rfl) rfl rfl rfl) split_lst) (fun _ _ _ _ _ I => ts_one (y_cmp I .ne (x_var I 1 rfl rfl rfl) (e_str (s := []) rfl rfl) rfl)) (fun _ _ _ _ _ I => (x_var I 1 rfl rfl rfl))))
set_option maxHeartbeats 4000000 in
theorem body138 {CA : Nat → Addr} {X : Cx} {cf : Runs} {W : WX} (Y : Body (defScope s138) X (Tn.nm N138) G CA cf np bl W) (I : CtxI X (Tn.nm N138) CA cf nio) (hio : cf.io = []) : PSs X (defBody s138) (tB X G CA cf W [] c138) :=
  have B := Y.en; have pas := Y.pas; have hk := Y.kd; (b_cons (s_ret (e_rev (x_var B 0 rfl rfl rfl))) b_nil)
set_option maxHeartbeats 4000000 in
theorem body139 {CA : Nat → Addr} {X : Cx} {cf : Runs} {W : WX} (Y : Body (defScope s139) X (Tn.nm N139) G CA cf np bl W) (I : CtxI X (Tn.nm N139) CA cf nio) (hio : cf.io = []) : PSs X (defBody s139) (tB X G CA cf W [] c139) :=
  have B := Y.en; have pas := Y.pas; have hk := Y.kd; (b_cons (z_asg B 1 rfl rfl rfl (x_cal B 12 1 rfl rfl rfl rfl rfl rfl rfl (a_c rfl (x_var B 0 rfl rfl rfl) a_nil))) (b_cons (s_if (y_cmp B .eq (x_var B 1 rfl rfl rfl) (e_lst a_nil) rfl) (b_cons (s_ret (e_str (s := []) rfl rfl)) b_nil) b_nil) (b_cons (s_ret (x_sub B (x_var B 1 rfl rfl rfl) e_int (fun _ _ => rfl))) b_nil)))
set_option maxHeartbeats 4000000 in
theorem body140 {CA : Nat → Addr} {X : Cx} {cf : Runs} {W : WX} (Y : Body (defScope s140) X (Tn.nm N140) G CA cf np bl W) (I : CtxI X (Tn.nm N140) CA cf nio) (hio : cf.io = []) : PSs X (defBody s140) (tB X G CA cf W [] c140) :=
  have B := Y.en; have pas := Y.pas; have hk := Y.kd; (b_cons (s_ret (e_join (e_str (s := [32]) rfl rfl) (e_slc (x_cal B 12 1 rfl rfl rfl rfl rfl rfl rfl (a_c rfl (x_var B 0 rfl rfl rfl) a_nil)) (o_some e_int) o_none) rfl rfl rfl)) b_nil)
set_option maxHeartbeats 4000000 in
theorem body141 {CA : Nat → Addr} {X : Cx} {cf : Runs} {W : WX} (Y : Body (defScope s141) X (Tn.nm N141) G CA cf np bl W) (I : CtxI X (Tn.nm N141) CA cf nio) (hio : cf.io = []) : PSs X (defBody s141) (tB X G CA cf W [] c141) :=
  have B := Y.en; have pas := Y.pas; have hk := Y.kd; (b_cons (s_ret (x_bif B .str rfl rfl rfl rfl rfl rfl (a_c rfl (x_bif B .len rfl rfl rfl rfl rfl rfl (a_c rfl (x_cal B 12 1 rfl rfl rfl rfl rfl rfl rfl (a_c rfl (x_var B 0 rfl rfl rfl) a_nil)) a_nil)) a_nil))) b_nil)
set_option maxHeartbeats 4000000 in
theorem body142 {CA : Nat → Addr} {X : Cx} {cf : Runs} {W : WX} (Y : Body (defScope s142) X (Tn.nm N142) G CA cf np bl W) (I : CtxI X (Tn.nm N142) CA cf nio) (hio : cf.io = []) : PSs X (defBody s142) (tB X G CA cf W [] c142) :=
  have B := Y.en; have pas := Y.pas; have hk := Y.kd; (b_cons (s_ret (e_join (e_str (s := [32]) rfl rfl) (x_sorted B rfl rfl rfl (a_c rfl (x_cal B 12 1 rfl rfl rfl rfl rfl rfl rfl (a_c rfl (x_var B 0 rfl rfl rfl) a_nil)) a_nil)) rfl rfl rfl)) b_nil)
set_option maxHeartbeats 4000000 in
theorem body94 {CA : Nat → Addr} {X : Cx} {cf : Runs} {W : WX} (Y : Body (defScope s94) X (Tn.nm N94) G CA cf np bl W) (I : CtxI X (Tn.nm N94) CA cf nio) (hio : cf.io = []) : PSs X (defBody s94) (tB X G CA cf W [] c94) :=
  have B := Y.en; have pas := Y.pas; have hk := Y.kd; (b_cons (s_ret (e_bin (o := .mod) (e_bin (o := .mul) (e_bin (o := .add) (x_var B 0 rfl rfl rfl) (e_bin (o := .mul) e_int (x_var B 1 rfl rfl rfl))) e_int) e_int)) b_nil)
set_option maxHeartbeats 4000000 in
theorem body95 {CA : Nat → Addr} {X : Cx} {cf : Runs} {W : WX} (Y : Body (defScope s95) X (Tn.nm N95) G CA cf np bl W) (I : CtxI X (Tn.nm N95) CA cf nio) (hio : cf.io = []) : PSs X (defBody s95) (tB X G CA cf W [] c95) :=
  have B := Y.en; have pas := Y.pas; have hk := Y.kd; (b_cons (s_if (y_cmp B .lt (x_var B 1 rfl rfl rfl) (x_bif B .len rfl rfl rfl rfl rfl rfl (a_c rfl (x_var B 0 rfl rfl rfl) a_nil)) rfl) (b_cons (s_ret (x_cal B 94 2 rfl rfl rfl rfl rfl rfl rfl (a_c rfl (x_sub B (x_var B 0 rfl rfl rfl) (x_var B 1 rfl rfl rfl) (fun _ _ => rfl)) (a_c rfl (x_var B 1 rfl rfl rfl) a_nil)))) b_nil) b_nil) (b_cons (s_ret e_int) b_nil))
set_option maxHeartbeats 4000000 in
theorem body110 {CA : Nat → Addr} {X : Cx} {cf : Runs} {W : WX} (Y : Body (defScope s110) X (Tn.nm N110) G CA cf np bl W) (I : CtxI X (Tn.nm N110) CA cf nio) (hio : cf.io = []) : PSs X (defBody s110) (tB X G CA cf W [] c110) :=
  have B := Y.en; have pas := Y.pas; have hk := Y.kd; (b_cons (z_asg B 1 rfl rfl rfl (e_str (s := [32, 33, 35, 36, 38, 39, 40, 41, 42, 43, 44, 45, 46, 47, 48, 49, 50, 51, 52, 53, 54, 55, 56, 57, 58, 59, 60, 61, 62, 63, 64, 65, 66, 67, 68, 69, 70, 71, 72, 73, 74, 75, 76, 77, 78, 79, 80, 81, 82, 83, 84, 85, 86, 87, 88, 89, 90, 91, 92, 93, 94, 95, 96]) rfl rfl)) (b_cons (z_asg B 1 rfl rfl rfl (e_bin (o := .add) (x_var B 1 rfl rfl rfl) (e_str (s := [97, 98, 99, 100, 101, 102, 103, 104, 105, 106, 107, 108, 109, 110, 111, 112, 113, 114, 115, 116, 117, 118, 119, 120, 121, 122, 123, 124, 125, 126]) rfl rfl))) (b_cons (s_ret (x_sub B (x_var B 1 rfl rfl rfl) (e_bin (o := .mod) (x_var B 0 rfl rfl rfl) e_int) (fun _ _ => rfl))) b_nil)))
set_option maxHeartbeats 4000000 in
theorem body143 {CA : Nat → Addr} {X : Cx} {cf : Runs} {W : WX} (Y : Body (defScope s143) X (Tn.nm N143) G CA cf np bl W) (I : CtxI X (Tn.nm N143) CA cf nio) (hio : cf.io = []) : PSs X (defBody s143) (tB X G CA cf W [] c143) :=
  have B := Y.en; have pas := Y.pas; have hk := Y.kd; (b_cons (s_ret (x_sub B (e_lst (a_c rfl (e_str (s := []) rfl rfl) (a_c rfl (e_str (s := [32]) rfl rfl) (a_c rfl (e_str (s := [10]) rfl rfl) (a_c rfl (e_str (s := [98]) rfl rfl) (a_c rfl (e_str (s := [97]) rfl rfl) (a_c rfl (x_cal B 110 1 rfl rfl rfl rfl rfl rfl rfl (a_c rfl (e_bin (o := .add) (x_var B 0 rfl rfl rfl) (e_bin (o := .mul) (x_var B 1 rfl rfl rfl) e_int)) a_nil)) (a_c rfl (e_str (s := [97, 98]) rfl rfl) (a_c rfl (e_str (s := [66]) rfl rfl) a_nil))))))))) (e_bin (o := .mod) (e_bin (o := .mod) (e_bin (o := .mul) (e_bin (o := .add) (e_bin (o := .fdv) (x_var B 0 rfl rfl rfl) e_int) (e_bin (o := .mul) (x_var B 1 rfl rfl rfl) e_int)) e_int) e_int) e_int) (fun _ _ => rfl))) b_nil)
set_option maxHeartbeats 4000000 in
theorem body144 {CA : Nat → Addr} {X : Cx} {cf : Runs} {W : WX} (Y : Body (defScope s144) X (Tn.nm N144) G CA cf np bl W) (I : CtxI X (Tn.nm N144) CA cf nio) (hio : cf.io = []) : PSs X (defBody s144) (tB X G CA cf W [] c144) :=
  have B := Y.en; have pas := Y.pas; have hk := Y.kd; (b_cons (z_asg B 1 rfl rfl rfl (e_lst a_nil)) (b_cons (z_asg B 2 rfl rfl rfl (e_str (s := []) rfl rfl)) (b_cons (z_for1 B pas 3 rfl rfl rfl (i_val (e_bin (o := .add) (x_var B 0 rfl rfl rfl) (e_str (s := [32]) rfl rfl))) (fun _ => (b_cons (s_if (y_cmp B .notin (x_var B 3 rfl rfl rfl) (e_str (s := [32, 10]) rfl rfl) rfl) (b_cons (z_asg B 2 rfl rfl rfl (e_bin (o := .add) (x_var B 2 rfl rfl rfl) (x_var B 3 rfl rfl rfl))) b_nil) (b_cons (s_if (y_cmp B .ne (x_var B 2 rfl rfl rfl) (e_str (s := []) rfl rfl) rfl) (b_cons (z_app B 1 rfl rfl rfl rfl rfl (x_var B 2 rfl rfl rfl)) (b_cons (z_asg B 2 rfl rfl rfl (e_str (s := []) rfl rfl)) b_nil)) b_nil) b_nil)) b_nil))) (b_cons (z_retv B 1 rfl rfl rfl) b_nil))))
set_option maxHeartbeats 4000000 in
theorem body145 {CA : Nat → Addr} {X : Cx} {cf : Runs} {W : WX} (Y : Body (defScope s145) X (Tn.nm N145) G CA cf np bl W) (I : CtxI X (Tn.nm N145) CA cf nio) (hio : cf.io = []) : PSs X (defBody s145) (tB X G CA cf W [] c145) :=
  have B := Y.en; have pas := Y.pas; have hk := Y.kd; (b_cons (z_asg B 1 rfl rfl rfl (x_bif B .list rfl rfl rfl rfl rfl rfl (a_c rfl (x_var B 0 rfl rfl rfl) a_nil))) (b_cons (z_asg B 2 rfl rfl rfl (e_lst a_nil)) (b_cons (s_while pas (y_cmp B .ne (x_var B 1 rfl rfl rfl) (e_lst a_nil) rfl) (b_cons (z_app B 2 rfl rfl rfl rfl rfl (x_min B rfl rfl rfl (a_c rfl (x_var B 1 rfl rfl rfl) a_nil))) (b_cons (s_expX (x_mrem (q_var B 1 rfl rfl rfl) (x_min B rfl rfl rfl (a_c rfl (x_var B 1 rfl rfl rfl) a_nil)) rfl rfl rfl) rfl) b_nil))) (b_cons (s_ret (e_join (e_str (s := [32]) rfl rfl) (x_var B 2 rfl rfl rfl) rfl rfl rfl)) b_nil))))
set_option maxHeartbeats 4000000 in
theorem body146 {CA : Nat → Addr} {X : Cx} {cf : Runs} {W : WX} (Y : Body (defScope s146) X (Tn.nm N146) G CA cf np bl W) (I : CtxI X (Tn.nm N146) CA cf nio) (hio : cf.io = []) : PSs X (defBody s146) (tB X G CA cf W [] c146) :=
  have B := Y.en; have pas := Y.pas; have hk := Y.kd; (b_cons (z_asg B 1 rfl rfl rfl (e_bin (o := .mod) (x_cal B 95 2 rfl rfl rfl rfl rfl rfl rfl (a_c rfl (x_var B 0 rfl rfl rfl) (a_c rfl e_int a_nil))) e_int)) (b_cons (s_if (y_cmp B .eq (e_bin (o := .mod) (e_bin (o := .fdv) (x_cal B 95 2 rfl rfl rfl rfl rfl rfl rfl (a_c rfl (x_var B 0 rfl rfl rfl) (a_c rfl e_int a_nil))) e_int) e_int) e_int rfl) (b_cons (z_asg B 1 rfl rfl rfl (e_bin (o := .mod) (e_bin (o := .fdv) (x_cal B 95 2 rfl rfl rfl rfl rfl rfl rfl (a_c rfl (x_var B 0 rfl rfl rfl) (a_c rfl e_int a_nil))) e_int) e_int)) b_nil) b_nil) (b_cons (z_asg B 2 rfl rfl rfl (e_join (e_str (s := []) rfl rfl) (x_lc1 B 3 rfl rfl rfl rfl (r_1 B rfl rfl rfl (x_var B 1 rfl rfl rfl)) (fun _ _ _ _ _ _ => ts_nil) (fun _ _ _ _ _ I => (x_cal I 143 2 rfl rfl rfl rfl rfl rfl rfl (a_c rfl (x_cal I 95 2 rfl rfl rfl rfl rfl rfl rfl (a_c rfl (x_var I 0 rfl rfl rfl) (a_c rfl (e_bin (o := .add) e_int (e_bin (o := .mod) (x_var I 3 rfl rfl rfl) e_int)) a_nil))) (a_c rfl (e_bin (o := .fdv) (x_var I 3 rfl rfl rfl) e_int) a_nil))))) rfl rfl rfl)) (b_cons (s_if (y_cmp B .eq (e_bin (o := .mod) (e_bin (o := .fdv) (x_cal B 95 2 rfl rfl rfl rfl rfl rfl rfl (a_c rfl (x_var B 0 rfl rfl rfl) (a_c rfl e_int a_nil))) e_int) e_int) e_int rfl) (b_cons (z_asg B 4 rfl rfl rfl (e_bin (o := .fdv) (x_cal B 95 2 rfl rfl rfl rfl rfl rfl rfl (a_c rfl (x_var B 0 rfl rfl rfl) (a_c rfl e_int a_nil))) e_int)) (b_cons (z_asg B 2 rfl rfl rfl (e_join (e_str (s := [32]) rfl rfl) (x_lc1 B 3 rfl rfl rfl rfl (r_1 B rfl rfl rfl (e_bin (o := .mod) (x_var B 4 rfl rfl rfl) e_int)) (fun _ _ _ _ _ _ => ts_nil) (fun _ _ _ _ _ I => (x_cal I 110 1 rfl rfl rfl rfl rfl rfl rfl (a_c rfl (e_bin (o := .add) (x_var I 4 rfl rfl rfl) (e_bin (o := .mul) (x_var I 3 rfl rfl rfl) e_int)) a_nil)))) rfl rfl rfl)) b_nil)) b_nil) (b_cons (z_asg B 5 rfl rfl rfl (x_cal B 144 1 rfl rfl rfl rfl rfl rfl rfl (a_c rfl (x_var B 2 rfl rfl rfl) a_nil))) (b_cons (z_asg B 6 rfl rfl rfl (e_str (s := []) rfl rfl)) (b_cons (z_for1 B pas 7 rfl rfl rfl (i_val (x_var B 2 rfl rfl rfl)) (fun _ => (b_cons (z_asg B 6 rfl rfl rfl (e_bin (o := .add) (x_var B 7 rfl rfl rfl) (x_var B 6 rfl rfl rfl))) b_nil))) (b_cons (z_asg B 8 rfl rfl rfl (e_lst (a_c rfl (x_var B 6 rfl rfl rfl) (a_c rfl (e_join (e_str (s := []) rfl rfl) (e_slc (x_var B 5 rfl rfl rfl) o_none (o_some e_int)) rfl rfl rfl) (a_c rfl (e_join (e_str (s := [32]) rfl rfl) (e_slc (x_var B 5 rfl rfl rfl) (o_some e_int) o_none) rfl rfl rfl) (a_c rfl (x_bif B .str rfl rfl rfl rfl rfl rfl (a_c rfl (x_bif B .len rfl rfl rfl rfl rfl rfl (a_c rfl (x_var B 5 rfl rfl rfl) a_nil)) a_nil)) (a_c rfl (x_cal B 145 1 rfl rfl rfl rfl rfl rfl rfl (a_c rfl (x_var B 5 rfl rfl rfl) a_nil)) a_nil))))))) (b_cons (z_asg B 9 rfl rfl rfl (e_lst (a_c rfl (x_cal B 138 1 rfl rfl rfl rfl rfl rfl rfl (a_c rfl (x_var B 2 rfl rfl rfl) a_nil)) (a_c rfl (x_cal B 139 1 rfl rfl rfl rfl rfl rfl rfl (a_c rfl (x_var B 2 rfl rfl rfl) a_nil)) (a_c rfl (x_cal B 140 1 rfl rfl rfl rfl rfl rfl rfl (a_c rfl (x_var B 2 rfl rfl rfl) a_nil)) (a_c rfl (x_cal B 141 1 rfl rfl rfl rfl rfl rfl rfl (a_c rfl (x_var B 2 rfl rfl rfl) a_nil)) (a_c rfl (x_cal B 142 1 rfl rfl rfl rfl rfl rfl rfl (a_c rfl (x_var B 2 rfl rfl rfl) a_nil)) a_nil))))))) (b_cons (s_ret (e_and (x_bif B .all rfl rfl rfl rfl rfl rfl (a_c rfl (x_lc1 B 10 rfl rfl rfl rfl (i_val (x_var B 9 rfl rfl rfl)) (fun _ _ _ _ _ _ => ts_nil) (fun _ _ _ _ _ I => (x_isi I .str rfl rfl rfl rfl rfl rfl rfl rfl (x_var I 10 rfl rfl rfl)))) a_nil)) (e_one (x_cmp B .eq (x_var B 9 rfl rfl rfl) (x_var B 8 rfl rfl rfl) rfl)))) b_nil))))))))))
theorem r12 (k : Nat) (a0 : D) : run G Pr (k+1) 12 [a0] = outS (exB G (run G Pr k) [] [some (norm (a0, 0)), none] c12) := run_eq G Pr k 12 [a0] ⟨1, 2, c12, []⟩ rfl rfl rfl
theorem r138 (k : Nat) (a0 : D) : run G Pr (k+1) 138 [a0] = outS (exB G (run G Pr k) [] [some (norm (a0, 0))] c138) := run_eq G Pr k 138 [a0] ⟨1, 1, c138, []⟩ rfl rfl rfl
theorem r139 (k : Nat) (a0 : D) : run G Pr (k+1) 139 [a0] = outS (exB G (run G Pr k) [] [some (norm (a0, 0)), none] c139) := run_eq G Pr k 139 [a0] ⟨1, 2, c139, []⟩ rfl rfl rfl
theorem r140 (k : Nat) (a0 : D) : run G Pr (k+1) 140 [a0] = outS (exB G (run G Pr k) [] [some (norm (a0, 0))] c140) := run_eq G Pr k 140 [a0] ⟨1, 1, c140, []⟩ rfl rfl rfl
theorem r141 (k : Nat) (a0 : D) : run G Pr (k+1) 141 [a0] = outS (exB G (run G Pr k) [] [some (norm (a0, 0))] c141) := run_eq G Pr k 141 [a0] ⟨1, 1, c141, []⟩ rfl rfl rfl
theorem r142 (k : Nat) (a0 : D) : run G Pr (k+1) 142 [a0] = outS (exB G (run G Pr k) [] [some (norm (a0, 0))] c142) := run_eq G Pr k 142 [a0] ⟨1, 1, c142, []⟩ rfl rfl rfl
theorem r94 (k : Nat) (a0 a1 : D) : run G Pr (k+1) 94 [a0, a1] = outS (exB G (run G Pr k) [] [some (norm (a0, 0)), some (norm (a1, 0))] c94) := run_eq G Pr k 94 [a0, a1] ⟨2, 2, c94, []⟩ rfl rfl rfl
theorem r95 (k : Nat) (a0 a1 : D) : run G Pr (k+1) 95 [a0, a1] = outS (exB G (run G Pr k) [] [some (norm (a0, 0)), some (norm (a1, 0))] c95) := run_eq G Pr k 95 [a0, a1] ⟨2, 2, c95, []⟩ rfl rfl rfl
theorem r110 (k : Nat) (a0 : D) : run G Pr (k+1) 110 [a0] = outS (exB G (run G Pr k) [] [some (norm (a0, 0)), none] c110) := run_eq G Pr k 110 [a0] ⟨1, 2, c110, []⟩ rfl rfl rfl
theorem r143 (k : Nat) (a0 a1 : D) : run G Pr (k+1) 143 [a0, a1] = outS (exB G (run G Pr k) [] [some (norm (a0, 0)), some (norm (a1, 0))] c143) := run_eq G Pr k 143 [a0, a1] ⟨2, 2, c143, []⟩ rfl rfl rfl
theorem r144 (k : Nat) (a0 : D) : run G Pr (k+1) 144 [a0] = outS (exB G (run G Pr k) [] [some (norm (a0, 0)), none, none, none] c144) := run_eq G Pr k 144 [a0] ⟨1, 4, c144, []⟩ rfl rfl rfl
theorem r145 (k : Nat) (a0 : D) : run G Pr (k+1) 145 [a0] = outS (exB G (run G Pr k) [] [some (norm (a0, 0)), none, none] c145) := run_eq G Pr k 145 [a0] ⟨1, 3, c145, []⟩ rfl rfl rfl
theorem r146 (k : Nat) (a0 : D) : run G Pr (k+1) 146 [a0] = outS (exB G (run G Pr k) [] [some (norm (a0, 0)), none, none, none, none, none, none, none, none, none, none] c146) := run_eq G Pr k 146 [a0] ⟨1, 11, c146, []⟩ rfl rfl rfl
end K41

namespace K41
open Vy
/-! ## words_of: def 12 -/
section
open Vy.W
/-- a blank for a line end -/
def bk (c : Nat) : Nat := if c = 10 then 32 else c
/-- words, by the one that stands open -/
def wg : Cs → Cs → List Cs
  | acc, [] => if acc = [] then [] else [acc]
  | acc, c :: r => if c = 32 ∨ c = 10 then (if acc = [] then wg [] r else acc :: wg [] r) else wg (acc ++ [c]) r
/-- the words of a text -/
def wd (t : Cs) : List Cs := wg [] t
theorem wg_spl : ∀ (t acc : Cs), (TL.spl [32] 0 acc (t.map bk)).filter (fun w => !decide (w = [])) = wg acc t
  | [], acc => by
    show ([acc] : List Cs).filter _ = _
    rw [wg]
    by_cases h : acc = [] <;> simp [h]
  | c :: r, acc => by
    rw [List.map_cons, wg, TL.spl]
    have hp : TL.pre [32] (bk c :: r.map bk) = decide (c = 32 ∨ c = 10) := by
      unfold TL.pre bk
      by_cases h : c = 10
      · simp [h]
      · by_cases h2 : c = 32 <;> simp [h, h2]
    rw [hp]
    by_cases h : c = 32 ∨ c = 10
    · simp only [h, decide_true, if_true, List.length_singleton, Nat.sub_self]
      rw [List.filter_cons, wg_spl r []]
      by_cases h2 : acc = [] <;> simp [h2]
    · have hb : bk c = c := by unfold bk; rw [if_neg (fun e => h (.inr e))]
      simp only [h, decide_false, Bool.false_eq_true, if_false, hb]
      exact wg_spl r (acc ++ [c])
theorem spl_len (S : Cs) : ∀ (t acc : Cs) (k : Nat), (TL.spl S k acc t).length ≤ t.length + 1
  | [], acc, k => by cases k <;> simp [TL.spl]
  | c :: r, acc, 0 => by
    rw [TL.spl]
    split
    · have := spl_len S r [] (S.length - 1); simp; omega
    · have := spl_len S r (acc ++ [c]) 0; simp; omega
  | c :: r, acc, k + 1 => by
    rw [TL.spl]
    have := spl_len S r acc k; simp; omega
theorem words_of (k : Nat) (t : Cs) (h : t.length ≤ 100000) : run G Pr (k+1) 12 [.str t] = .ok (LS (wd t), 10) := by
  rw [r12]
  refine eq_of fun Q hQ => ?_
  unfold c12
  have e1 : ∀ m, methD .replace (.str t, m) [(.str [10], 9), (.str [32], 9)] = some (.str (t.map bk), 9) := fun m => go_pos ⟨by rw [show SZ = 16777216 from rfl]; omega, by omega, by omega⟩
  have e2 : methD .split (.str (t.map bk), 9) [(.str [32], 9)] = some (LS (TL.spl [32] 0 [] (t.map bk)), 9) := go_pos ⟨by simp, by decide, by rw [show SZ = 16777216 from rfl, List.length_map]; omega⟩
  simp (disch := first | omega | simp) [List.replicate, e1, e2, gd, recvOk, -exS_st]
  have hl := spl_len [32] (t.map bk) [] 0
  rw [List.length_map] at hl
  rw [compL_if (g := D.str) (p := fun w => !decide (w = [])) (h := fun w => (D.str w, 0)) (fun w _ => by
    by_cases h : w = [] <;> simp [turnF, h]) (by rw [show SZ = 16777216 from rfl]; omega), wg_spl]
  simp (disch := first | omega | simp) [Function.comp_def, ← LS_eq, -exS_st]
  exact giv hQ rfl
theorem wg_ok : ∀ (t acc : Cs), (∀ c ∈ acc, c ≠ 32 ∧ c ≠ 10) → ∀ w ∈ wg acc t, w ≠ [] ∧ ∀ c ∈ w, c ≠ 32 ∧ c ≠ 10
  | [], acc, h, w, hw => by
    rw [wg] at hw
    split at hw
    · simp at hw
    · have : w = acc := by simpa using hw
      subst this
      exact ⟨by assumption, h⟩
  | c :: r, acc, h, w, hw => by
    rw [wg] at hw
    split at hw
    · split at hw
      · exact wg_ok r [] (by simp) w hw
      · rcases List.mem_cons.mp hw with e | e
        · subst e; exact ⟨by assumption, h⟩
        · exact wg_ok r [] (by simp) w e
    · rename_i hc
      exact wg_ok r (acc ++ [c]) (fun d hd => by
        rcases List.mem_append.mp hd with e | e
        · exact h d e
        · have : d = c := by simpa using e
          subst this
          exact ⟨fun z => hc (.inl z), fun z => hc (.inr z)⟩) w hw
theorem wg_len : ∀ (t acc : Cs), (wg acc t).length ≤ t.length + 1
  | [], acc => by rw [wg]; split <;> simp
  | c :: r, acc => by
    rw [wg]
    have h1 := wg_len r []
    have h2 := wg_len r (acc ++ [c])
    simp only [List.length_cons]
    split
    · split
      · omega
      · simp only [List.length_cons]; omega
    · omega
theorem wd_len (t : Cs) : (wd t).length ≤ t.length + 1 := wg_len t []
end

end K41

namespace K41
open Vy
/-! ## texts made of a text: defs 138 to 142 -/
section
open Vy.W
theorem SZv : SZ = 16777216 := rfl
theorem turned_about (k : Nat) (t : Cs) (h : t.length ≤ 100000) : run G Pr (k+1) 138 [.str t] = .ok (.str t.reverse, 9) := by
  rw [r138]
  refine eq_of fun Q hQ => ?_
  unfold c138
  have hs : t.length ≤ SZ := by rw [SZv]; omega
  simp (disch := first | omega | simp) [List.replicate, ev, gd_pos hs, -exS_st]
  exact giv hQ rfl
theorem first_word (k : Nat) (t : Cs) (h : t.length ≤ 100000) : ∃ m, run G Pr (k+2) 139 [.str t] = .ok (.str ((wd t).headD []), m) := by
  have w := words_of k t h
  suffices h : ∀ Q, Q = Gives (fun p => ∃ m, p = (.str ((wd t).headD []), m)) → Sat (exB G (run G Pr (k+1)) [] [some (.str t, 9), none] c139) Q by
    obtain ⟨p, e, m, rfl⟩ := some_of h
    refine ⟨m, ?_⟩
    rw [r139, ← e]
    simp [List.replicate]
  intro Q hQ
  unfold c139
  simp (disch := first | omega | simp) [List.replicate, w, bind_LS, gd, SZv, LS_nil, -exS_st]
  cases hw : wd t with
  | nil =>
    simp
    exact giv hQ ⟨_, by rw [hw]; rfl⟩
  | cons a r =>
    have e := sub_LS (l := a :: r) (i := 0) (s := a) (by omega) rfl
    simp [e]
    exact giv hQ ⟨_, by rw [hw]; rfl⟩
/-- words with one blank between -/
def jw (l : List Cs) : Cs := TL.joinL [32] l
theorem jw_len : ∀ l : List Cs, (jw l).length ≤ (l.map (·.length)).sum + l.length
  | [] => by simp [jw, TL.joinL]
  | [a] => by simp [jw, TL.joinL]
  | a :: b :: r => by
    have := jw_len (b :: r)
    unfold jw at this ⊢
    show (a ++ ([32] ++ TL.joinL [32] (b :: r))).length ≤ _
    simp at this ⊢
    omega
theorem wg_sum : ∀ (t acc : Cs), ((wg acc t).map (·.length)).sum ≤ acc.length + t.length
  | [], acc => by rw [wg]; split <;> simp
  | c :: r, acc => by
    rw [wg]
    have h1 := wg_sum r []
    have h2 := wg_sum r (acc ++ [c])
    simp at h1 h2 ⊢
    split
    · split
      · omega
      · simp; omega
    · omega
theorem wd_sum (t : Cs) : ((wd t).map (·.length)).sum ≤ t.length := by have := wg_sum t []; simpa [wd] using this
theorem join_jw (l : List Cs) (h : (l.map (·.length)).sum + l.length ≤ 1000000) (m n : Nat) : methD .join (.str [32], m) [(LS l, n)] = some (.str (jw l), 9) := by
  rw [LS_eq]
  exact join_ok (by simp only [List.length_singleton, Nat.mul_one]; rw [SZv]; omega)
theorem drop1_sum (l : List Cs) : (l.tail.map (·.length)).sum ≤ (l.map (·.length)).sum := by
  cases l <;> simp
theorem rest_words (k : Nat) (t : Cs) (h : t.length ≤ 100000) : run G Pr (k+2) 140 [.str t] = .ok (.str (jw (wd t).tail), 9) := by
  have w := words_of k t h
  have h1 := wd_len t
  have h2 := wd_sum t
  have h3 := drop1_sum (wd t)
  rw [r140]
  refine eq_of fun Q hQ => ?_
  unfold c140
  have e1 := from_LS (l := wd t) (i := 1) (by omega)
  have e2 := join_jw (wd t).tail (by simp at h3 ⊢; omega)
  simp (disch := first | omega | simp) [List.replicate, w, gd, recvOk, e1, e2, -exS_st]
  exact giv hQ rfl
theorem counted (k : Nat) (t : Cs) (h : t.length ≤ 100000) : run G Pr (k+2) 141 [.str t] = .ok (.str (codesOfInt (wd t).length), 9) := by
  have w := words_of k t h
  have h1 := wd_len t
  rw [r141]
  refine eq_of fun Q hQ => ?_
  unfold c141
  have e2 := fun m => str_nat (wd t).length m (by omega)
  simp (disch := first | omega | simp) [List.replicate, w, gd, e2, -exS_st]
  exact giv hQ rfl
theorem sort_sum (l : List Cs) : ((l.mergeSort leS).map (·.length)).sum = (l.map (·.length)).sum := by
  have := (List.mergeSort_perm l leS).map (·.length)
  exact this.sum_nat
theorem sorted_words (k : Nat) (t : Cs) (h : t.length ≤ 100000) : run G Pr (k+2) 142 [.str t] = .ok (.str (jw ((wd t).mergeSort leS)), 9) := by
  have w := words_of k t h
  have h1 := wd_len t
  have h2 := wd_sum t
  rw [r142]
  refine eq_of fun Q hQ => ?_
  unfold c142
  have e2 := join_jw ((wd t).mergeSort leS) (by rw [sort_sum, List.length_mergeSort]; omega)
  simp (disch := first | omega | simp) [List.replicate, w, gd, recvOk, sorted_LS, e2, -exS_st]
  exact giv hQ rfl
end

end K41

namespace K41
open Vy
/-! ## mixed (94), cells (95) -/
section
open Vy.W
def mxa (a j : Int) : Int := (a + 7919 * j) * 48271 % 2147483647
theorem mixed94 (k : Nat) (a j : Int) : run G Pr (k+1) 94 [.int a, .int j] = .ok (.int (mxa a j), 9) := by
  rw [r94]
  refine eq_of fun Q hQ => ?_
  unfold c94
  simp (disch := first | omega | simp) [List.replicate, mulL, mulR, mod_int, -exS_st]
  exact giv hQ rfl
theorem mxa_nn (a j : Int) : 0 ≤ mxa a j := Int.emod_nonneg _ (by omega)
def ca (ns : List Int) (i : Int) : Int := if i < ns.length then mxa (ns.getD i.toNat 0) i else 0
theorem cell_at (k : Nat) (ns : List Int) (i : Int) (h : 0 ≤ i) : run G Pr (k+2) 95 [.scr ns, .int i] = .ok (.int (ca ns i), 9) := by
  rw [r95]
  refine eq_of fun Q hQ => ?_
  unfold c95
  have hm := fun a => mixed94 k a i
  simp (disch := first | omega | simp) [List.replicate, -exS_st]
  refine w_if (fun q => ?_) (fun q => ?_)
  · have q : i < ns.length := by simpa using q
    have e := sub_scr h q
    generalize hv : ns.getD i.toNat 0 = v at e
    simp (disch := first | omega | simp) [e, hm, -exS_st]
    refine giv hQ ?_
    rw [ca, if_pos q, hv]
  · have q : ¬ i < ns.length := by simpa using q
    simp
    refine giv hQ ?_
    simp [ca, q]
theorem ca_nn (ns : List Int) (i : Int) : 0 ≤ ca ns i := by
  unfold ca
  split
  · exact mxa_nn _ _
  · omega
end

end K41

namespace K41
open Vy
/-! ## sorted texts -/
theorem leS_trans (a b c : Cs) (h1 : leS a b = true) (h2 : leS b c = true) : leS a c = true := by
  unfold leS at *
  simp only [Bool.not_eq_true', decide_eq_false_iff_not] at *
  intro h
  by_cases e : a < b
  · exact h2 (lt_tr h e)
  · have : a = b := List.le_antisymm (List.not_lt.mp h1) (List.not_lt.mp e)
    subst this
    exact h2 h
theorem leS_total (a b : Cs) : (leS a b || leS b a) = true := by
  unfold leS
  by_cases h : a < b
  · have : ¬ b < a := fun z => List.lt_irrefl a (lt_tr h z)
    simp [this]
  · simp [h]
theorem leS_anti {a b : Cs} (h1 : leS a b = true) (h2 : leS b a = true) : a = b := by
  unfold leS at *
  simp only [Bool.not_eq_true', decide_eq_false_iff_not] at *
  exact List.le_antisymm (List.not_lt.mp h1) (List.not_lt.mp h2)
theorem sorted_eq : ∀ {l k : List Cs}, l.Pairwise (fun a b => leS a b = true) → k.Pairwise (fun a b => leS a b = true) → (∀ s, l.count s = k.count s) → l = k
  | [], [], _, _, _ => rfl
  | [], b :: k, _, _, h => by have := h b; simp at this
  | a :: l, [], _, _, h => by have := h a; simp at this
  | a :: l, b :: k, hl, hk, h => by
    rw [List.pairwise_cons] at hl hk
    have hab : a = b := by
      have h1 : b ∈ a :: l := List.count_pos_iff.mp (by rw [h b]; simp)
      have h2 : a ∈ b :: k := List.count_pos_iff.mp (by rw [← h a]; simp)
      rcases List.mem_cons.mp h1 with e | e
      · exact e.symm
      · rcases List.mem_cons.mp h2 with e2 | e2
        · exact e2
        · exact leS_anti (hl.1 b e) (hk.1 a e2)
    subst hab
    rw [sorted_eq hl.2 hk.2 fun s => by have := h s; simp only [List.count_cons] at this; omega]
theorem sort_count (l : List Cs) (s : Cs) : (l.mergeSort leS).count s = l.count s := (List.mergeSort_perm l leS).count_eq s
theorem sort_pw (l : List Cs) : (l.mergeSort leS).Pairwise (fun a b => leS a b = true) := List.pairwise_mergeSort (le := leS) (fun a b c => leS_trans a b c) (fun a b => leS_total a b) l
theorem count_nd {l : List Cs} (h : l.Nodup) (s : Cs) : l.count s = if s ∈ l then 1 else 0 := by
  by_cases e : s ∈ l
  · rw [if_pos e]
    have h1 := List.nodup_iff_count.mp h s
    have h2 := List.count_pos_iff.mpr e
    omega
  · rw [if_neg e]; exact List.count_eq_zero.mpr e
/-- the same names sorted are the same row -/
theorem sort_same {l k : List Cs} (h1 : l.Nodup) (h2 : k.Nodup) (h : ∀ s, s ∈ l ↔ s ∈ k) : l.mergeSort leS = k.mergeSort leS :=
  sorted_eq (sort_pw l) (sort_pw k) fun s => by rw [sort_count, sort_count, count_nd h1, count_nd h2]; simp [h s]
theorem sort_mem {l : List Cs} {s : Cs} : s ∈ l.mergeSort leS ↔ s ∈ l := (List.mergeSort_perm l leS).mem_iff

end K41

namespace K41
open Vy
/-! ## signs (110), pieces (143), words (144), in order (145), the law (146) -/
section
open Vy.W
def sg0 : Cs := [32, 33, 35, 36, 38, 39, 40, 41, 42, 43, 44, 45, 46, 47, 48, 49, 50, 51, 52, 53, 54, 55, 56, 57, 58, 59, 60, 61, 62, 63, 64, 65, 66, 67, 68, 69, 70, 71, 72, 73, 74, 75, 76, 77, 78, 79, 80, 81, 82, 83, 84, 85, 86, 87, 88, 89, 90, 91, 92, 93, 94, 95, 96, 97, 98, 99, 100, 101, 102, 103, 104, 105, 106, 107, 108, 109, 110, 111, 112, 113, 114, 115, 116, 117, 118, 119, 120, 121, 122, 123, 124, 125, 126]
theorem sign_by (k : Nat) (a : Int) : ∃ c : Nat, run G Pr (k+1) 110 [.int a] = .ok (.str [c], 9) := by
  have e3 : ∀ m n, binD .add (.str (sg0.take 63), m) (.str (sg0.drop 63), n) = some (.str sg0, 9) := fun m n => add_str (by decide)
  have hs := sub_str (s := sg0) (i := a % 93) (by decide) (Int.emod_nonneg _ (by omega)) (by exact Int.emod_lt_of_pos _ (by decide))
  generalize sg0.getD (a % 93).toNat 0 = c at hs
  refine ⟨c, ?_⟩
  rw [r110]
  refine eq_of fun Q hQ => ?_
  unfold c110
  simp only [sg0, List.take_succ_cons, List.take_zero, List.drop_succ_cons, List.drop_zero] at e3
  simp (disch := first | omega | simp) [List.replicate, e3, mod_int, -exS_st]
  rw [show [32, 33, 35, 36, 38, 39, 40, 41, 42, 43, 44, 45, 46, 47, 48, 49, 50, 51, 52, 53, 54, 55, 56, 57, 58, 59, 60, 61, 62, 63, 64, 65, 66, 67, 68, 69, 70, 71, 72, 73, 74, 75, 76, 77, 78, 79, 80, 81, 82, 83, 84, 85, 86, 87, 88, 89, 90, 91, 92, 93, 94, 95, 96, 97, 98, 99, 100, 101, 102, 103, 104, 105, 106, 107, 108, 109, 110, 111, 112, 113, 114, 115, 116, 117, 118, 119, 120, 121, 122, 123, 124, 125, 126] = sg0 from rfl, hs]
  exact giv hQ rfl
theorem piece (k : Nat) (a j : Int) : ∃ (w : Cs) (m : Nat), w.length ≤ 2 ∧ run G Pr (k+2) 143 [.int a, .int j] = .ok (.str w, m) := by
  obtain ⟨c, hc⟩ := sign_by k (a + j * 7)
  generalize hr : (a / 93 + j * 977) * 48271 % 7919 % 8 = r
  have h0 : 0 ≤ r := by rw [← hr]; exact Int.emod_nonneg _ (by omega)
  have h1 : r < 8 := by rw [← hr]; exact Int.emod_lt_of_pos _ (by omega)
  obtain ⟨w, hw, hl⟩ : ∃ w : Cs, ([.str [], .str [32], .str [10], .str [98], .str [97], .str [c], .str [97, 98], .str [66]] : List D)[r.toNat]? = some (.str w) ∧ w.length ≤ 2 := by
    have : r.toNat = 0 ∨ r.toNat = 1 ∨ r.toNat = 2 ∨ r.toNat = 3 ∨ r.toNat = 4 ∨ r.toNat = 5 ∨ r.toNat = 6 ∨ r.toNat = 7 := by omega
    rcases this with e | e | e | e | e | e | e | e <;> rw [e] <;> exact ⟨_, rfl, by simp⟩
  have es := sub_lst (xs := [.str [], .str [32], .str [10], .str [98], .str [97], .str [c], .str [97, 98], .str [66]]) h0 hw
  suffices h : ∀ Q, Q = Gives (fun p => ∃ m, p = (.str w, m)) → Sat (exB G (run G Pr (k+1)) [] [some (.int a, 9), some (.int j, 9)] c143) Q by
    obtain ⟨p, e, m, rfl⟩ := some_of h
    refine ⟨w, m, hl, ?_⟩
    rw [r143, ← e]
    simp [List.replicate]
  intro Q hQ
  unfold c143
  simp (disch := first | omega | simp) [mulR, mod_int, fdv_int, hc, gd, SZv, hr, es, -exS_st]
  exact giv hQ ⟨_, rfl⟩
theorem words (k : Nat) (t : Cs) (h : t.length ≤ 100000) : run G Pr (k+1) 144 [.str t] = .ok (LS (wd t), 10) := by
  rw [r144]
  refine eq_of fun Q hQ => ?_
  unfold c144
  have ea : ∀ m n, binD .add (.str t, m) (.str [32], n) = some (.str (t ++ [32]), 9) := fun m n => add_str (by rw [SZv]; simp; omega)
  simp (disch := first | omega | simp) [List.replicate, gd, SZv, LS_nil, bind_LS, ea, -exS_st]
  have key : ∀ (u acc : Cs), wg acc (u ++ [32]) = wg acc u := fun u => by
    induction u with
    | nil => intro acc; simp only [List.nil_append, wg]; by_cases e : acc = [] <;> simp [e]
    | cons c r ih => intro acc; simp only [List.cons_append, wg, ih]
  refine v_str (t := t ++ [32]) (fun i ρ => ∃ (done : List Cs) (acc : Cs) (r3 : Option (D × Nat)), ρ = [some (.str t, 9), some (LS done, 10), some (.str acc, 9), r3] ∧ wd t = done ++ wg acc ((t ++ [32]).drop i) ∧ done.length ≤ i ∧ acc.length ≤ i ∧ (i = (t ++ [32]).length → acc = [])) 3 rfl ⟨[], [], none, rfl, by rw [List.drop_zero, key]; rfl, by simp, by simp, fun _ => rfl⟩ (fun i c ρ hc hI Q' hQ' => ?_) (fun ρ hI => ?_)
  · obtain ⟨done, acc, r3, rfl, h1, h2, h3, _⟩ := hI
    have hi : i < (t ++ [32]).length := (List.getElem?_eq_some_iff.mp hc).1
    have hd : (t ++ [32]).drop i = c :: (t ++ [32]).drop (i + 1) := by
      rw [List.drop_eq_getElem_cons hi]
      congr 1
      exact (List.getElem?_eq_some_iff.mp hc).2
    rw [hd, wg] at h1
    have hin : cmpD .notin (.str [c]) (.str [32, 10]) = some (!decide (c = 32 ∨ c = 10)) := by
      have : cmpD .isin (.str [c]) (.str [32, 10]) = some (decide (c = 32 ∨ c = 10)) := by rw [in_str1]; simp [List.contains_cons, Bool.decide_or, beqd]
      show (inD (.str [c]) (.str [32, 10])).bind (fun b => some (!b)) = _
      rw [show inD (.str [c]) (.str [32, 10]) = some (decide (c = 32 ∨ c = 10)) from this]; rfl
    have hlen : (t ++ [32]).length = t.length + 1 := by simp
    simp (disch := first | omega | simp) [hin, -exS_st]
    refine w_if (fun q => ?_) (fun q => ?_)
    · have q : ¬ (c = 32 ∨ c = 10) := by simpa using q
      rw [if_neg q] at h1
      have eb : ∀ m n, binD .add (.str acc, m) (.str [c], n) = some (.str (acc ++ [c]), 9) := fun m n => add_str (by rw [SZv]; simp; omega)
      simp (disch := first | omega | simp) [eb, -exS_st]
      refine fin_nx hQ' ⟨done, acc ++ [c], some (.str [c], 9), rfl, h1, by omega, by simp; omega, fun e => ?_⟩
      exfalso
      have : c = 32 := by
        have h7 : i = t.length := by omega
        subst h7
        simpa using hc.symm
      exact q (.inl this)
    · have q : c = 32 ∨ c = 10 := Decidable.or_iff_not_imp_left.mpr (by simpa using q)
      rw [if_pos q] at h1
      simp (disch := first | omega | simp) [-exS_st]
      refine w_if (fun e => ?_) (fun e => ?_)
      · have e : acc ≠ [] := by simpa using e
        rw [if_neg e] at h1
        simp only [List.cons_append, List.nil_append, R_exB]
        rw [app_LS (l := done) (m := 10) (s := acc) (n := 0) (by simp) (by simp) (by omega) (by rw [SZv]; omega) (by simp)]
        simp
        exact fin_nx hQ' ⟨done ++ [acc], [], some (.str [c], 9), rfl, by rw [h1]; simp, by simp; omega, by simp, fun _ => rfl⟩
      · have e : acc = [] := by simpa using e
        subst e
        rw [if_pos rfl] at h1
        simp
        exact fin_nx hQ' ⟨done, [], some (.str [c], 9), rfl, h1, by omega, by simp, fun _ => rfl⟩
  · obtain ⟨done, acc, r3, rfl, h1, h2, h3, h4⟩ := hI
    simp
    rw [h4 rfl, List.drop_length, wg] at h1
    exact giv hQ (by rw [h1]; simp)
theorem in_order (k : Nat) (l : List Cs) (h : l.length ≤ 50000) (h2 : (l.map (·.length)).sum ≤ 100000) : run G Pr (k+1) 145 [LS l] = .ok (.str (jw (l.mergeSort leS)), 9) := by
  rw [r145]
  refine eq_of fun Q hQ => ?_
  unfold c145
  simp (disch := first | omega | simp) [List.replicate, gd, SZv, LS_nil, bind_LS, -exS_st]
  refine v_whl (fun n ρ => ∃ (rest made : List Cs), ρ = [some (LS l, 0), some (LS rest, 9), some (LS made, 10)] ∧ rest.length = n ∧ (made ++ rest).Perm l ∧ made.Pairwise (fun a b => leS a b = true) ∧ ∀ a ∈ made, ∀ b ∈ rest, leS a b = true) l.length (by omega) ⟨l, [], rfl, rfl, .refl _, .nil, by simp⟩ (fun n ρ hI => ?_)
  obtain ⟨rest, made, rfl, h3, h4, h5, h6⟩ := hI
  have hlen := h4.length_eq
  simp at hlen
  cases rest with
  | nil =>
    refine .inl ⟨by simp [evB, LS_nil], ?_⟩
    have e : made = l.mergeSort leS := sorted_eq h5 (sort_pw l) fun s => by
      rw [sort_count]
      have := h4.count_eq s
      simpa using this
    have ej := join_jw (l.mergeSort leS) (by rw [sort_sum, List.length_mergeSort]; omega)
    rw [e]
    simp (disch := first | omega | simp) [gd, recvOk, ej, -exS_st]
    exact giv hQ rfl
  | cons a r =>
    refine .inr ⟨by simp [evB, LS_nil, beqd], fun Q' hQ' => ?_⟩
    have em := fun n => min_LS a r n
    have hm := minS_mem r a
    have hle := minS_le r a
    generalize minS a r = x at em hm hle
    simp only [R_exB]
    rw [app_LS (l := made) (m := 10) (s := x) (n := 9) (by simp) (by simp) (by omega) (by rw [SZv]; omega) (by simp [em])]
    have er : ∀ (ρ : Env), ρ = [some (LS l, 0), some (LS (a :: r), 9), some (LS (made ++ [x]), 10)] → exS G (run G Pr k) [] ρ (.expX (.mop ⟨1, []⟩ .rem [.bif .min [.var 1]])) = .nx [some (LS l, 0), some (LS ((a :: r).erase x), 9), some (LS (made ++ [x]), 10)] := fun ρ hρ => by
      subst hρ
      have eo : nodeOp .rem (LS (a :: r), 9) [(.str x, 9)] = some ((LS ((a :: r).erase x), 9), (.non, 9)) := by
        show (strsOf ((a :: r).map D.str)).bind _ = _
        rw [strsOf_map]
        simp only [Option.bind_some]
        rw [go_pos hm]
        rfl
      have mt : mTy .rem (LS (a :: r), 9) = true := rfl
      simp [nodeP, mt, mopX, getP, em, eo, chgP, putP, setV]
    simp only [thenR_nx, R_exB, List.set_cons_succ, List.set_cons_zero]
    rw [er _ rfl]
    have hp : (x :: (a :: r).erase x).Perm (a :: r) := (List.perm_cons_erase hm).symm
    simp
    refine fin_nx hQ' ⟨((a :: r).erase x).length, ?_, (a :: r).erase x, made ++ [x], rfl, rfl, ?_, ?_, ?_⟩
    · have := hp.length_eq
      simp at this h3
      omega
    · refine List.Perm.trans ?_ h4
      rw [List.append_assoc]
      exact List.Perm.append_left made hp
    · rw [List.pairwise_append]
      refine ⟨h5, List.pairwise_singleton _ _, fun b hb c hc => ?_⟩
      have : c = x := by simpa using hc
      subst this
      exact h6 b hb c hm
    · intro b hb c hc
      have hc' := List.mem_of_mem_erase hc
      rcases List.mem_append.mp hb with e | e
      · exact h6 b e c hc'
      · have : b = x := by simpa using e
        subst this
        unfold leS
        simpa using hle c hc'
abbrev midE : C := .mth .join (.cst (.str [])) [.lc (.rng [.var 1]) (.one 3) none (.cal 143 [.cal 95 [.var 0, .bin .add (.cst (.int 1)) (.bin .mod (.var 3) (.cst (.int 5)))], .bin .fdv (.var 3) (.cst (.int 5))])]
abbrev twoE : C := .mth .join (.cst (.str [32])) [.lc (.rng [.bin .mod (.var 4) (.cst (.int 451))]) (.one 3) none (.cal 110 [.bin .add (.var 4) (.bin .mul (.var 3) (.cst (.int 7)))])]
theorem comp_strsM {α : Type} {f : D → Out (Option (D × Nat))} {g : α → D} {M : Nat} : ∀ {l : List α}, (∀ a ∈ l, ∃ (w : Cs) (m : Nat), f (g a) = .ok (some (.str w, m)) ∧ w.length ≤ M) → l.length ≤ SZ → ∃ (L : List Cs) (P : List (D × Nat)), compL f (l.map g) = .ok P ∧ P.map (·.1) = L.map D.str ∧ L.length = l.length ∧ ∀ w ∈ L, w.length ≤ M
  | [], _, _ => ⟨[], [], rfl, rfl, rfl, by simp⟩
  | a :: l, hf, hl => by
    obtain ⟨w, m, h1, h2⟩ := hf a (by simp)
    obtain ⟨L, P, h3, h4, h5, h6⟩ := comp_strsM (l := l) (fun b hb => hf b (by simp [hb])) (by simp at hl; omega)
    refine ⟨w :: L, (.str w, m) :: P, ?_, by simp [h4], by simp [h5], fun v hv => ?_⟩
    · rw [List.map_cons, compL, h1]
      simp only
      rw [h3]
      simp only [Out.bind_ok]
      have : P.length = L.length := by have := congrArg List.length h4; simpa using this
      rw [gd_pos (by rw [this, h5]; simpa using hl)]
    · rcases List.mem_cons.mp hv with e | e
      · subst e; exact h2
      · exact h6 v e
theorem mid (ns : List Int) (sz : Nat) (h : sz ≤ 450) : ∃ t : Cs, t.length ≤ 2000 ∧ exS G (run G Pr 59) [] [some (.scr ns, 9), some (.int (sz : Int), 9), none, none, none, none, none, none, none, none, none] (.asg 2 midE) = .nx [some (.scr ns, 9), some (.int (sz : Int), 9), some (.str t, 9), none, none, none, none, none, none, none, none] := by
  have rp := rng_nat (n := sz) (by omega)
  have q : ∀ t ∈ List.range sz, ∃ (w : Cs) (m : Nat), (turnF G (run G Pr 59) [some (.scr ns, 9), some (.int (sz : Int), 9), none, none, none, none, none, none, none, none, none] (.one 3) none (.cal 143 [.cal 95 [.var 0, .bin .add (.cst (.int 1)) (.bin .mod (.var 3) (.cst (.int 5)))], .bin .fdv (.var 3) (.cst (.int 5))])) (.int (t : Int)) = .ok (some (.str w, m)) ∧ w.length ≤ 2 := fun t _ => by
    have ec := cell_at 57 ns (1 + (t : Int) % 5) (by omega)
    obtain ⟨w, m, w1, w2⟩ := piece 57 (ca ns (1 + (t : Int) % 5)) ((t : Int) / 5)
    refine ⟨w, m, ?_, w1⟩
    simp (disch := first | omega | simp) [turnF, mod_int, fdv_int, ec, w2]
  have hz : (List.range sz).length ≤ SZ := by rw [List.length_range, SZv]; omega
  obtain ⟨L, P, p1, p2, p3, p4⟩ := comp_strsM (g := fun (t : Nat) => D.int (t : Int)) q hz
  rw [List.length_range] at p3
  have hs := sum_len p4
  have jn : ∀ m n, methD .join (.str [], m) [(.lst (L.map D.str), n)] = some (.str L.flatten, 9) := fun m n => by
    rw [join_ok (by simp only [List.length_nil, Nat.mul_zero, Nat.add_zero]; rw [SZv]; omega), joinL_nil]
  have hfl : L.flatten.length ≤ 2000 := by rw [flat_len]; omega
  refine ⟨_, hfl, ?_⟩
  unfold midE
  simp (disch := first | omega | simp) [rp, gd, SZv, itemsOf, p1, p2, recvOk, jn]
theorem two (ns : List Int) (c : Int) (r1 r2 r3 : Option (D × Nat)) (h : 0 ≤ c) : ∃ t : Cs, t.length ≤ 2000 ∧ exS G (run G Pr 59) [] [some (.scr ns, 9), r1, r2, r3, some (.int c, 9), none, none, none, none, none, none] (.asg 2 twoE) = .nx [some (.scr ns, 9), r1, some (.str t, 9), r3, some (.int c, 9), none, none, none, none, none, none] := by
  obtain ⟨q, hq⟩ : ∃ q : Nat, c % 451 = (q : Int) := ⟨(c % 451).toNat, by omega⟩
  have rp := rng_nat (n := q) (by omega)
  obtain ⟨L, l1, l2, l3⟩ := comp_strs (M := 1) (f := turnF G (run G Pr 59) [some (.scr ns, 9), r1, r2, r3, some (.int c, 9), none, none, none, none, none, none] (.one 3) none (.cal 110 [.bin .add (.var 4) (.bin .mul (.var 3) (.cst (.int 7)))])) (g := fun (t : Nat) => D.int (t : Int)) (l := List.range q) (fun t _ => by
    obtain ⟨w, w2⟩ := sign_by 58 (c + t * 7)
    refine ⟨[w], ?_, by simp⟩
    simp (disch := first | omega | simp) [turnF, mulR, w2]) (by rw [List.length_range, SZv]; omega)
  rw [List.length_range] at l2
  have hs := sum_len l3
  have jn := fun m n => join_jw L (by omega) m n
  have hjl := jw_len L
  have hjl2 : (jw L).length ≤ 2000 := by omega
  refine ⟨_, hjl2, ?_⟩
  unfold twoE
  simp (disch := first | omega | simp) [hq, mod_int, rp, gd, SZv, itemsOf, l1, recvOk, Function.comp_def, ← LS_eq, jn]
theorem law_at (ns : List Int) (hn : ns.length ≤ 63) : outS (exB G (run G Pr 59) [] [some (.scr ns, 9), none, none, none, none, none, none, none, none, none, none] c146) = .ok (.bl true, 9) := by
  have ec := fun i h => cell_at 57 ns i h
  have c0 := ca_nn ns 0
  have hmid := mid ns
  have htwo := two ns
  refine eq_of fun Q hQ => ?_
  rw [show c146 = [c146[0], c146[1], .asg 2 midE, .ife (.cmp .eq (.bin .mod (.bin .fdv (.cal 95 [.var 0, .cst (.int 0)]) (.cst (.int 13))) (.cst (.int 4))) (.cst (.int 2))) [.asg 4 (.bin .fdv (.cal 95 [.var 0, .cst (.int 0)]) (.cst (.int 52))), .asg 2 twoE] []] ++ c146.drop 4 from rfl]
  have tail : ∀ (r1 r3 r4 : Option (D × Nat)) (t : Cs), t.length ≤ 2000 → Sat (exB G (run G Pr 59) [] [some (.scr ns, 9), r1, some (.str t, 9), r3, r4, none, none, none, none, none, none] (c146.drop 4)) Q := fun r1 r3 r4 t ht => by
    rw [show c146.drop 4 = [c146[4], c146[5], c146[6], c146[7], c146[8], c146[9]] from rfl]
    simp only [c146, List.getElem_cons_succ, List.getElem_cons_zero]
    have hw := words 58 t (by omega)
    have hwl := wd_len t
    have hws := wd_sum t
    simp (disch := first | omega | simp) [hw, bind_LS, -exS_st]
    refine v_str (t := t) (fun i ρ => ∃ (r7 : Option (D × Nat)), ρ = [some (.scr ns, 9), r1, some (.str t, 9), r3, r4, some (LS (wd t), 10), some (.str (t.take i).reverse, 9), r7, none, none, none]) 7 rfl ⟨none, by simp⟩ (fun i c ρ hc hI Q' hQ' => ?_) (fun ρ hI => ?_)
    · obtain ⟨r7, rfl⟩ := hI
      have ea : ∀ m n, binD .add (.str [c], m) (.str (t.take i).reverse, n) = some (.str (c :: (t.take i).reverse), 9) := fun m n => add_str (by rw [SZv]; simp; omega)
      have et : (t.take (i + 1)).reverse = c :: (t.take i).reverse := by rw [List.take_add_one, hc]; simp
      simp (disch := first | omega | simp) [ea, -exS_st]
      exact fin_nx hQ' ⟨some (.str [c], 9), by rw [et]⟩
    · obtain ⟨r7, rfl⟩ := hI
      rw [List.take_length]
      have e1 := turned_about 58 t (by omega)
      obtain ⟨m2, e2⟩ := first_word 57 t (by omega)
      have e3 := rest_words 57 t (by omega)
      have e4 := counted 57 t (by omega)
      have e5 := sorted_words 57 t (by omega)
      have e6 := in_order 58 (wd t) (by omega) (by omega)
      have j1 : ∀ m n, methD .join (.str [], m) [(LS ((wd t).take 1), n)] = some (.str ((wd t).headD []), 9) := fun m n => by
        have hh : ((wd t).take 1).flatten = (wd t).headD [] := by cases wd t <;> simp
        have h1 : (((wd t).take 1).map (·.length)).sum ≤ 2000 := by
          cases h : wd t with
          | nil => simp
          | cons a r => rw [h] at hws; simp at hws ⊢; omega
        rw [LS_eq, join_ok (by simp only [List.length_nil, Nat.mul_zero, Nat.add_zero]; rw [SZv]; omega), joinL_nil, hh]
      have h3 := drop1_sum (wd t)
      have j2 := join_jw (wd t).tail (by simp at h3 ⊢; omega)
      have s1 := to_LS (l := wd t) (i := 1) (by omega)
      have s2 := from_LS (l := wd t) (i := 1) (by omega)
      have en := fun m => str_nat (wd t).length m (by omega)
      have L5 : ∀ a b c d e : Cs, D.lst [.str a, .str b, .str c, .str d, .str e] = LS [a, b, c, d, e] := fun _ _ _ _ _ => rfl
      have cc : ∀ (ρ : Env) (l : List Cs), ρ.length = 11 → l.length ≤ 5 → compL (turnF G (run G Pr 59) ρ (.one 10) none (.isi (.var 10) .str)) (l.map D.str) = .ok (l.map fun _ => (D.bl true, 9)) := fun ρ l h1 h2 => by
        refine compL_mp (fun x hx => ?_) (by rw [SZv]; omega)
        rcases ρ with _ | ⟨r0, _ | ⟨r1, _ | ⟨r2, _ | ⟨r3, _ | ⟨r4, _ | ⟨r5, _ | ⟨r6, _ | ⟨r7, _ | ⟨r8, _ | ⟨r9, _ | ⟨r10, _ | ⟨r11, ρ⟩⟩⟩⟩⟩⟩⟩⟩⟩⟩⟩⟩ <;> simp at h1
        simp [turnF, isiOk, isaD, gd]
      have al : ∀ (l : List Cs) n, bifD .all [(.lst (l.map fun _ => D.bl true), n)] = some (.bl true, 9) := fun l n => by
        rw [all_mp (fun _ : Cs => true) l n]
        simp
      have i5 : ∀ a b c d e : Cs, itemsOf (LS [a, b, c, d, e]) = some ([a, b, c, d, e].map D.str) := fun _ _ _ _ _ => rfl
      generalize (wd t).headD [] = x1 at *
      generalize jw (wd t).tail = x2 at *
      generalize codesOfInt (wd t).length = x3 at *
      generalize jw ((wd t).mergeSort leS) = x4 at *
      simp (disch := first | omega | simp) [j1, j2, s1, s2, en, e1, e2, e3, e4, e5, e6, gd, SZv, recvOk, L5, bind_LS, -exS_st, -items_LS]
      rw [i5, Out.of_some, Out.bind_ok, cc _ _ (by simp) (by simp)]
      have := al [t.reverse, x1, x2, x3, x4] 10
      simp only [List.map_cons, List.map_nil] at this
      simp (disch := first | omega | simp) [this, gd, SZv, -exS_st]
      exact giv hQ rfl
  generalize hT : c146.drop 4 = T at tail ⊢
  generalize midE = E1 at hmid ⊢
  generalize twoE = E2 at htwo ⊢
  simp only [c146, List.getElem_cons_succ, List.getElem_cons_zero, List.cons_append, List.nil_append]
  simp (disch := first | omega | simp) [ec, mod_int, fdv_int, -exS_st, -exS_asg]
  have a1 : ∀ (r1 : Option (D × Nat)) (e : C) (v : Int), ev G (run G Pr 59) [some (.scr ns, 9), r1, none, none, none, none, none, none, none, none, none] e = .ok (.int v, 9) → exS G (run G Pr 59) [] [some (.scr ns, 9), r1, none, none, none, none, none, none, none, none, none] (.asg 1 e) = .nx [some (.scr ns, 9), some (.int v, 9), none, none, none, none, none, none, none, none, none] := fun r1 e v h => by simp [h]
  have fin : ∀ sz : Nat, sz ≤ 450 → Sat (thenR G (run G Pr 59) [] (exS G (run G Pr 59) [] [some (.scr ns, 9), some (.int (sz : Int), 9), none, none, none, none, none, none, none, none, none] (.asg 2 E1)) (.ife (.cmp .eq (.bin .mod (.bin .fdv (.cal 95 [.var 0, .cst (.int 0)]) (.cst (.int 13))) (.cst (.int 4))) (.cst (.int 2))) [.asg 4 (.bin .fdv (.cal 95 [.var 0, .cst (.int 0)]) (.cst (.int 52))), .asg 2 E2] [] :: T)) Q := fun sz hz => by
    obtain ⟨t, ht, e⟩ := hmid sz hz
    rw [e, thenR_nx]
    simp (disch := first | omega | simp) [ec, mod_int, fdv_int, -exS_st, -exS_asg]
    refine w_if (fun _ => ?_) (fun _ => ?_)
    · obtain ⟨u, hu, e2⟩ := htwo (ca ns 0 / 52) (some (.int (sz : Int), 9)) (some (.str t, 9)) none (by omega)
      simp only [List.cons_append, List.nil_append, R_exB]
      have h4 : exS G (run G Pr 59) [] [some (.scr ns, 9), some (.int (sz : Int), 9), some (.str t, 9), none, none, none, none, none, none, none, none] (.asg 4 (.bin .fdv (.cal 95 [.var 0, .cst (.int 0)]) (.cst (.int 52)))) = .nx [some (.scr ns, 9), some (.int (sz : Int), 9), some (.str t, 9), none, some (.int (ca ns 0 / 52), 9), none, none, none, none, none, none] := by
        simp (disch := first | omega | simp) [ec, fdv_int]
      rw [h4, thenR_nx, R_exB, e2, thenR_nx]
      exact tail _ _ _ u hu
    · exact tail _ _ _ t ht
  rw [a1 none _ (ca ns 0 % 13) (by simp (disch := first | omega | simp) [ec, mod_int]), thenR_nx]
  simp (disch := first | omega | simp) [ec, mod_int, fdv_int, -exS_st, -exS_asg]
  refine w_if (fun _ => ?_) (fun _ => ?_)
  · simp only [List.cons_append, List.nil_append, R_exB]
    obtain ⟨q, hq⟩ : ∃ q : Nat, ca ns 0 / 52 % 451 = (q : Int) := ⟨(ca ns 0 / 52 % 451).toNat, by omega⟩
    rw [a1 _ _ (q : Int) (by simp (disch := first | omega | simp) [ec, fdv_int, mod_int, hq]), thenR_nx, R_exB]
    exact fin q (by omega)
  · obtain ⟨q, hq⟩ : ∃ q : Nat, ca ns 0 % 13 = (q : Int) := ⟨(ca ns 0 % 13).toNat, by omega⟩
    rw [hq]
    simp only [List.cons_append, List.nil_append, R_exB]
    exact fin q (by omega)
theorem math : ∀ ns : List Int, ns.length ≤ 63 → ∃ m, run G Pr 60 146 [.scr ns] = .ok (.bl true, m) := by
  intro ns hn
  refine ⟨9, ?_⟩
  rw [r146]
  have := law_at ns hn
  simpa [norm] using this
end

end K41

namespace K41
open PySem PySem.Spec
open PyProof.Rows hiding St
open L2 Vy
section
set_option maxHeartbeats 0 in
theorem all_mk {l : PySem.W.OpenLaw} {w : World} {K : PySem.W.Frag} {h : Heap} {mg : Str → Option Value} {fa : Addr} (X : K.In h) (GG : h.Ns mainGlobals mg) (hfa : mg "law" = some (.ref fa))
    {f12 : Addr} {od12 an12 : Option Addr} {sl12 : Array (Option Value)} {oc12 kV12 dc12 pm12 cd12 ct12 : Value}
    (a12 : PySem.W.nsIn K mainGlobals "words_of" = some (some (.ref f12))) (l12 : K.lookup f12 = some ⟨oc12, od12, .func (PySem.W.fnOf "words_of" "words_of" (defArgs s12) (defBody s12) (defScope s12) .none kV12 dc12 pm12 an12 cd12 ct12), sl12⟩) (q12 : PySem.W.codeIn K cd12 "words_of" = true) (k12 : PySem.W.keepIn K (.ref f12) = true)
    {f138 : Addr} {od138 an138 : Option Addr} {sl138 : Array (Option Value)} {oc138 kV138 dc138 pm138 cd138 ct138 : Value}
    (a138 : PySem.W.nsIn K mainGlobals "turned_about" = some (some (.ref f138))) (l138 : K.lookup f138 = some ⟨oc138, od138, .func (PySem.W.fnOf "turned_about" "turned_about" (defArgs s138) (defBody s138) (defScope s138) .none kV138 dc138 pm138 an138 cd138 ct138), sl138⟩) (q138 : PySem.W.codeIn K cd138 "turned_about" = true) (k138 : PySem.W.keepIn K (.ref f138) = true)
    {f139 : Addr} {od139 an139 : Option Addr} {sl139 : Array (Option Value)} {oc139 kV139 dc139 pm139 cd139 ct139 : Value}
    (a139 : PySem.W.nsIn K mainGlobals "first_word" = some (some (.ref f139))) (l139 : K.lookup f139 = some ⟨oc139, od139, .func (PySem.W.fnOf "first_word" "first_word" (defArgs s139) (defBody s139) (defScope s139) .none kV139 dc139 pm139 an139 cd139 ct139), sl139⟩) (q139 : PySem.W.codeIn K cd139 "first_word" = true) (k139 : PySem.W.keepIn K (.ref f139) = true)
    {f140 : Addr} {od140 an140 : Option Addr} {sl140 : Array (Option Value)} {oc140 kV140 dc140 pm140 cd140 ct140 : Value}
    (a140 : PySem.W.nsIn K mainGlobals "rest_words" = some (some (.ref f140))) (l140 : K.lookup f140 = some ⟨oc140, od140, .func (PySem.W.fnOf "rest_words" "rest_words" (defArgs s140) (defBody s140) (defScope s140) .none kV140 dc140 pm140 an140 cd140 ct140), sl140⟩) (q140 : PySem.W.codeIn K cd140 "rest_words" = true) (k140 : PySem.W.keepIn K (.ref f140) = true)
    {f141 : Addr} {od141 an141 : Option Addr} {sl141 : Array (Option Value)} {oc141 kV141 dc141 pm141 cd141 ct141 : Value}
    (a141 : PySem.W.nsIn K mainGlobals "counted" = some (some (.ref f141))) (l141 : K.lookup f141 = some ⟨oc141, od141, .func (PySem.W.fnOf "counted" "counted" (defArgs s141) (defBody s141) (defScope s141) .none kV141 dc141 pm141 an141 cd141 ct141), sl141⟩) (q141 : PySem.W.codeIn K cd141 "counted" = true) (k141 : PySem.W.keepIn K (.ref f141) = true)
    {f142 : Addr} {od142 an142 : Option Addr} {sl142 : Array (Option Value)} {oc142 kV142 dc142 pm142 cd142 ct142 : Value}
    (a142 : PySem.W.nsIn K mainGlobals "sorted_words" = some (some (.ref f142))) (l142 : K.lookup f142 = some ⟨oc142, od142, .func (PySem.W.fnOf "sorted_words" "sorted_words" (defArgs s142) (defBody s142) (defScope s142) .none kV142 dc142 pm142 an142 cd142 ct142), sl142⟩) (q142 : PySem.W.codeIn K cd142 "sorted_words" = true) (k142 : PySem.W.keepIn K (.ref f142) = true)
    {f94 : Addr} {od94 an94 : Option Addr} {sl94 : Array (Option Value)} {oc94 kV94 dc94 pm94 cd94 ct94 : Value}
    (a94 : PySem.W.nsIn K mainGlobals "_law_mixed" = some (some (.ref f94))) (l94 : K.lookup f94 = some ⟨oc94, od94, .func (PySem.W.fnOf "_law_mixed" "_law_mixed" (defArgs s94) (defBody s94) (defScope s94) .none kV94 dc94 pm94 an94 cd94 ct94), sl94⟩) (q94 : PySem.W.codeIn K cd94 "_law_mixed" = true) (k94 : PySem.W.keepIn K (.ref f94) = true)
    {f95 : Addr} {od95 an95 : Option Addr} {sl95 : Array (Option Value)} {oc95 kV95 dc95 pm95 cd95 ct95 : Value}
    (a95 : PySem.W.nsIn K mainGlobals "_law_cell_at" = some (some (.ref f95))) (l95 : K.lookup f95 = some ⟨oc95, od95, .func (PySem.W.fnOf "_law_cell_at" "_law_cell_at" (defArgs s95) (defBody s95) (defScope s95) .none kV95 dc95 pm95 an95 cd95 ct95), sl95⟩) (q95 : PySem.W.codeIn K cd95 "_law_cell_at" = true) (k95 : PySem.W.keepIn K (.ref f95) = true)
    {f110 : Addr} {od110 an110 : Option Addr} {sl110 : Array (Option Value)} {oc110 kV110 dc110 pm110 cd110 ct110 : Value}
    (a110 : PySem.W.nsIn K mainGlobals "_law_sign_by" = some (some (.ref f110))) (l110 : K.lookup f110 = some ⟨oc110, od110, .func (PySem.W.fnOf "_law_sign_by" "_law_sign_by" (defArgs s110) (defBody s110) (defScope s110) .none kV110 dc110 pm110 an110 cd110 ct110), sl110⟩) (q110 : PySem.W.codeIn K cd110 "_law_sign_by" = true) (k110 : PySem.W.keepIn K (.ref f110) = true)
    {f143 : Addr} {od143 an143 : Option Addr} {sl143 : Array (Option Value)} {oc143 kV143 dc143 pm143 cd143 ct143 : Value}
    (a143 : PySem.W.nsIn K mainGlobals "_law_piece" = some (some (.ref f143))) (l143 : K.lookup f143 = some ⟨oc143, od143, .func (PySem.W.fnOf "_law_piece" "_law_piece" (defArgs s143) (defBody s143) (defScope s143) .none kV143 dc143 pm143 an143 cd143 ct143), sl143⟩) (q143 : PySem.W.codeIn K cd143 "_law_piece" = true) (k143 : PySem.W.keepIn K (.ref f143) = true)
    {f144 : Addr} {od144 an144 : Option Addr} {sl144 : Array (Option Value)} {oc144 kV144 dc144 pm144 cd144 ct144 : Value}
    (a144 : PySem.W.nsIn K mainGlobals "_law_words" = some (some (.ref f144))) (l144 : K.lookup f144 = some ⟨oc144, od144, .func (PySem.W.fnOf "_law_words" "_law_words" (defArgs s144) (defBody s144) (defScope s144) .none kV144 dc144 pm144 an144 cd144 ct144), sl144⟩) (q144 : PySem.W.codeIn K cd144 "_law_words" = true) (k144 : PySem.W.keepIn K (.ref f144) = true)
    {f145 : Addr} {od145 an145 : Option Addr} {sl145 : Array (Option Value)} {oc145 kV145 dc145 pm145 cd145 ct145 : Value}
    (a145 : PySem.W.nsIn K mainGlobals "_law_in_order" = some (some (.ref f145))) (l145 : K.lookup f145 = some ⟨oc145, od145, .func (PySem.W.fnOf "_law_in_order" "_law_in_order" (defArgs s145) (defBody s145) (defScope s145) .none kV145 dc145 pm145 an145 cd145 ct145), sl145⟩) (q145 : PySem.W.codeIn K cd145 "_law_in_order" = true) (k145 : PySem.W.keepIn K (.ref f145) = true)
    {f146 : Addr} {od146 an146 : Option Addr} {sl146 : Array (Option Value)} {oc146 kV146 dc146 pm146 cd146 ct146 : Value}
    (a146 : PySem.W.nsIn K mainGlobals "law" = some (some (.ref f146))) (l146 : K.lookup f146 = some ⟨oc146, od146, .func (PySem.W.fnOf "law" "law" (defArgs s146) (defBody s146) (defScope s146) .none kV146 dc146 pm146 an146 cd146 ct146), sl146⟩) (q146 : PySem.W.codeIn K cd146 "law" = true) (k146 : PySem.W.keepIn K (.ref f146) = true)
    (z0 : PySem.W.nsIn K mainGlobals "all" = some none)
    (z1 : PySem.W.nsIn K mainGlobals "isinstance" = some none)
    (z2 : PySem.W.nsIn K mainGlobals "len" = some none)
    (z3 : PySem.W.nsIn K mainGlobals "list" = some none)
    (z4 : PySem.W.nsIn K mainGlobals "min" = some none)
    (z5 : PySem.W.nsIn K mainGlobals "range" = some none)
    (z6 : PySem.W.nsIn K mainGlobals "sorted" = some none)
    (z7 : PySem.W.nsIn K mainGlobals "str" = some none)
    (math : ∀ ns : List Int, ns.length ≤ 63 → ∃ m, run G Pr 60 146 [.scr ns] = .ok (.bl true, m)) :
    ∃ fd : FuncData, (∀ (s : Shared) (v : Value), BindsTo s fd ⟨[v], []⟩ [("_law_script", v)]) ∧ ∀ base : Heap, K.In base → base.Ns mainGlobals mg → FnOk l.prog w K mg base (L2.CX l.prog w) 60 fa fd ["_law_script"] (spLaw K) := by
  have e := hfa.symm.trans (PySem.W.mg_of X GG a146)
  cases e
  have hb : ∀ x ∈ bl, mg x = none := NoneAll.all (.cons (PySem.W.mg_none_of X GG z0) (.cons (PySem.W.mg_none_of X GG z1) (.cons (PySem.W.mg_none_of X GG z2) (.cons (PySem.W.mg_none_of X GG z3) (.cons (PySem.W.mg_none_of X GG z4) (.cons (PySem.W.mg_none_of X GG z5) (.cons (PySem.W.mg_none_of X GG z6) (.cons (PySem.W.mg_none_of X GG z7) .nil))))))))
  have hg : ∀ g d, G.gv g = some d → ∃ u v, mg (Tn.gn g) = some u ∧ RelV v u ∧ ∀ H, Rep K (fun _ => 0) H 9 d v [] [] := GlosOk.all (Q := fun g d => ∃ u v, mg (Tn.gn g) = some u ∧ RelV v u ∧ ∀ H, Rep K (fun _ => 0) H 9 d v [] []) <| 
    .nil
  have F12 := fun_mk (st := s12) l12 q12 k12
  have b12 := F12.binds (ps := P12) fun _ _ _ _ _ _ us hl => match us, hl with | [_], _ => rfl
  have d12 : DefOk l.prog w K mg Tn G (fun _ => 0) Pr nio 12 1 [] := def_okT (np := np) (bl := bl) (N := N12) (st := s12) (b := c12) (PySem.W.mg_of X GG a12) F12 b12 rfl sc12 rfl (by decide) (by decide +kernel) (by decide) plainN_ok (fun X cf W Y I hio => body12 Y I hio) hb hg
  have F138 := fun_mk (st := s138) l138 q138 k138
  have b138 := F138.binds (ps := P138) fun _ _ _ _ _ _ us hl => match us, hl with | [_], _ => rfl
  have d138 : DefOk l.prog w K mg Tn G (fun _ => 0) Pr nio 138 1 [] := def_ok (np := np) (bl := bl) (N := N138) (st := s138) (b := c138) (PySem.W.mg_of X GG a138) F138 b138 rfl sc138 rfl (by decide) plainN_ok (fun X cf W Y I hio => body138 Y I hio) hb hg
  have F139 := fun_mk (st := s139) l139 q139 k139
  have b139 := F139.binds (ps := P139) fun _ _ _ _ _ _ us hl => match us, hl with | [_], _ => rfl
  have d139 : DefOk l.prog w K mg Tn G (fun _ => 0) Pr nio 139 1 [] := def_ok (np := np) (bl := bl) (N := N139) (st := s139) (b := c139) (PySem.W.mg_of X GG a139) F139 b139 rfl sc139 rfl (by decide) plainN_ok (fun X cf W Y I hio => body139 Y I hio) hb hg
  have F140 := fun_mk (st := s140) l140 q140 k140
  have b140 := F140.binds (ps := P140) fun _ _ _ _ _ _ us hl => match us, hl with | [_], _ => rfl
  have d140 : DefOk l.prog w K mg Tn G (fun _ => 0) Pr nio 140 1 [] := def_ok (np := np) (bl := bl) (N := N140) (st := s140) (b := c140) (PySem.W.mg_of X GG a140) F140 b140 rfl sc140 rfl (by decide) plainN_ok (fun X cf W Y I hio => body140 Y I hio) hb hg
  have F141 := fun_mk (st := s141) l141 q141 k141
  have b141 := F141.binds (ps := P141) fun _ _ _ _ _ _ us hl => match us, hl with | [_], _ => rfl
  have d141 : DefOk l.prog w K mg Tn G (fun _ => 0) Pr nio 141 1 [] := def_ok (np := np) (bl := bl) (N := N141) (st := s141) (b := c141) (PySem.W.mg_of X GG a141) F141 b141 rfl sc141 rfl (by decide) plainN_ok (fun X cf W Y I hio => body141 Y I hio) hb hg
  have F142 := fun_mk (st := s142) l142 q142 k142
  have b142 := F142.binds (ps := P142) fun _ _ _ _ _ _ us hl => match us, hl with | [_], _ => rfl
  have d142 : DefOk l.prog w K mg Tn G (fun _ => 0) Pr nio 142 1 [] := def_ok (np := np) (bl := bl) (N := N142) (st := s142) (b := c142) (PySem.W.mg_of X GG a142) F142 b142 rfl sc142 rfl (by decide) plainN_ok (fun X cf W Y I hio => body142 Y I hio) hb hg
  have F94 := fun_mk (st := s94) l94 q94 k94
  have b94 := F94.binds (ps := P94) fun _ _ _ _ _ _ us hl => match us, hl with | [_, _], _ => rfl
  have d94 : DefOk l.prog w K mg Tn G (fun _ => 0) Pr nio 94 2 [] := def_ok (np := np) (bl := bl) (N := N94) (st := s94) (b := c94) (PySem.W.mg_of X GG a94) F94 b94 rfl sc94 rfl (by decide) plainN_ok (fun X cf W Y I hio => body94 Y I hio) hb hg
  have F95 := fun_mk (st := s95) l95 q95 k95
  have b95 := F95.binds (ps := P95) fun _ _ _ _ _ _ us hl => match us, hl with | [_, _], _ => rfl
  have d95 : DefOk l.prog w K mg Tn G (fun _ => 0) Pr nio 95 2 [] := def_ok (np := np) (bl := bl) (N := N95) (st := s95) (b := c95) (PySem.W.mg_of X GG a95) F95 b95 rfl sc95 rfl (by decide) plainN_ok (fun X cf W Y I hio => body95 Y I hio) hb hg
  have F110 := fun_mk (st := s110) l110 q110 k110
  have b110 := F110.binds (ps := P110) fun _ _ _ _ _ _ us hl => match us, hl with | [_], _ => rfl
  have d110 : DefOk l.prog w K mg Tn G (fun _ => 0) Pr nio 110 1 [] := def_ok (np := np) (bl := bl) (N := N110) (st := s110) (b := c110) (PySem.W.mg_of X GG a110) F110 b110 rfl sc110 rfl (by decide) plainN_ok (fun X cf W Y I hio => body110 Y I hio) hb hg
  have F143 := fun_mk (st := s143) l143 q143 k143
  have b143 := F143.binds (ps := P143) fun _ _ _ _ _ _ us hl => match us, hl with | [_, _], _ => rfl
  have d143 : DefOk l.prog w K mg Tn G (fun _ => 0) Pr nio 143 2 [] := def_ok (np := np) (bl := bl) (N := N143) (st := s143) (b := c143) (PySem.W.mg_of X GG a143) F143 b143 rfl sc143 rfl (by decide) plainN_ok (fun X cf W Y I hio => body143 Y I hio) hb hg
  have F144 := fun_mk (st := s144) l144 q144 k144
  have b144 := F144.binds (ps := P144) fun _ _ _ _ _ _ us hl => match us, hl with | [_], _ => rfl
  have d144 : DefOk l.prog w K mg Tn G (fun _ => 0) Pr nio 144 1 [] := def_ok (np := np) (bl := bl) (N := N144) (st := s144) (b := c144) (PySem.W.mg_of X GG a144) F144 b144 rfl sc144 rfl (by decide) plainN_ok (fun X cf W Y I hio => body144 Y I hio) hb hg
  have F145 := fun_mk (st := s145) l145 q145 k145
  have b145 := F145.binds (ps := P145) fun _ _ _ _ _ _ us hl => match us, hl with | [_], _ => rfl
  have d145 : DefOk l.prog w K mg Tn G (fun _ => 0) Pr nio 145 1 [] := def_ok (np := np) (bl := bl) (N := N145) (st := s145) (b := c145) (PySem.W.mg_of X GG a145) F145 b145 rfl sc145 rfl (by decide) plainN_ok (fun X cf W Y I hio => body145 Y I hio) hb hg
  have F146 := fun_mk (st := s146) l146 q146 k146
  have b146 := F146.binds (ps := P146) fun _ _ _ _ _ _ us hl => match us, hl with | [_], _ => rfl
  have d146 : DefOk l.prog w K mg Tn G (fun _ => 0) Pr nio 146 1 [] := def_ok (np := np) (bl := bl) (N := N146) (st := s146) (b := c146) (PySem.W.mg_of X GG a146) F146 b146 rfl sc146 rfl (by decide) plainN_ok (fun X cf W Y I hio => body146 Y I hio) hb hg
  have hd : ∀ f n io, nio f = some (n, io) → DefOk l.prog w K mg Tn G (fun _ => 0) Pr nio f n io := DefsOk.all (Q := fun f n io => DefOk l.prog w K mg Tn G (fun _ => 0) Pr nio f n io) (.cons d12 (.cons d138 (.cons d139 (.cons d140 (.cons d141 (.cons d142 (.cons d94 (.cons d95 (.cons d110 (.cons d143 (.cons d144 (.cons d145 (.cons d146 .nil)))))))))))))
  refine ⟨PySem.W.fnOf "law" "law" (defArgs s146) (defBody s146) (defScope s146) .none kV146 dc146 pm146 an146 cd146 ct146, fun s v => .of_eq rfl, fun base _ _ => ?_⟩
  exact law_ok (def_fn (P := l.prog) (w := w) (T := Tn) (f := 146) (n := 1) (io := []) (nio := nio) (Pr := Pr) (G := G) (CA := fun _ => 0) (np := np) (bl := bl) (N := N146) (st := s146) (b := c146) (PySem.W.mg_of X GG a146) F146 b146 rfl sc146 rfl (by decide) plainN_ok (fun X cf W Y I hio => body146 Y I hio) hb hg base 59 (fns_ok hd 59)) math
end
end K41

open PySem PySem.W PyProof.Rows
set_option maxHeartbeats 0 in
theorem PySem.Challenge.cw_thingyard_k41_texts_made_holds : PySem.Challenge.rw_thingyard_k41_texts_made.Holds := by
  w_on; o_law; k_head; (case hw => w_witness2)
  k_fill
  refine L2.walk_of (l := PySem.Challenge.rw_thingyard_k41_texts_made) (n := 63) (k := 60) (x := "_law_script") (CX := fun w => L2.CX PySem.Challenge.rw_thingyard_k41_texts_made.prog w) (sp := fun w => Vy.spLaw _) rfl (by decide) rfl ⟨rfl, by decide, by decide⟩ (fun w h Y => PySem.W.kIn_of Y) ?F (fun w H a ns hl hO hS => Vy.sp_end hl hO hS) (fun w H s e s' h => Vy.cx_end H s e s' h)
  case F =>
    intro w mg fa h KX G hmg
    refine' K41.all_mk KX G hmg ?va12 ?vl12 ?vq12 ?vk12 ?va138 ?vl138 ?vq138 ?vk138 ?va139 ?vl139 ?vq139 ?vk139 ?va140 ?vl140 ?vq140 ?vk140 ?va141 ?vl141 ?vq141 ?vk141 ?va142 ?vl142 ?vq142 ?vk142 ?va94 ?vl94 ?vq94 ?vk94 ?va95 ?vl95 ?vq95 ?vk95 ?va110 ?vl110 ?vq110 ?vk110 ?va143 ?vl143 ?vq143 ?vk143 ?va144 ?vl144 ?vq144 ?vk144 ?va145 ?vl145 ?vq145 ?vk145 ?va146 ?vl146 ?vq146 ?vk146 ?vz0 ?vz1 ?vz2 ?vz3 ?vz4 ?vz5 ?vz6 ?vz7 K41.math
    (case va12 => k_is); (case va138 => k_is); (case va139 => k_is); (case va140 => k_is); (case va141 => k_is); (case va142 => k_is); (case va94 => k_is); (case va95 => k_is); (case va110 => k_is); (case va143 => k_is); (case va144 => k_is); (case va145 => k_is); (case va146 => k_is); (case vl12 => k_is); (case vq12 => k_is); (case vk12 => k_is); (case vl138 => k_is); (case vq138 => k_is); (case vk138 => k_is); (case vl139 => k_is); (case vq139 => k_is); (case vk139 => k_is); (case vl140 => k_is); (case vq140 => k_is); (case vk140 => k_is); (case vl141 => k_is); (case vq141 => k_is); (case vk141 => k_is); (case vl142 => k_is); (case vq142 => k_is); (case vk142 => k_is); (case vl94 => k_is); (case vq94 => k_is); (case vk94 => k_is); (case vl95 => k_is); (case vq95 => k_is); (case vk95 => k_is); (case vl110 => k_is); (case vq110 => k_is); (case vk110 => k_is); (case vl143 => k_is); (case vq143 => k_is); (case vk143 => k_is); (case vl144 => k_is); (case vq144 => k_is); (case vk144 => k_is); (case vl145 => k_is); (case vq145 => k_is); (case vk145 => k_is); (case vl146 => k_is); (case vq146 => k_is); (case vk146 => k_is); (case vz0 => k_is); (case vz1 => k_is); (case vz2 => k_is); (case vz3 => k_is); (case vz4 => k_is); (case vz5 => k_is); (case vz6 => k_is); (case vz7 => k_is)
