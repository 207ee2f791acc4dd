import PyProof.Rows.All
import Wide.All
import OpenK.AllK
import Wide.FinOn
import HandS.ForMost
import HandS.Exc
import HandS.TryMany
import HandS.ExcInit
import HandS.CallSlots
import HandS.Deep
import HandS.TupAny
import KE.KEqDict
import HandS.Style
import HandS.TupMul
import HandS.WordsExc
import HandS.ClsMeth
import HandS.ExcField
import HandS.Small
import HandS.SuiteRaise
import HandS.ExcInitHot
import HandS.HeadHook1
import HandS.IsInst
import HandS.ExcIs
import HandS.Flow
import HandS.WordsDict
import PyProof.ListStr
import HandS.More
import HandS.SortKw
import KE.DatumOrd
import HandS.SetKeys
import HandS.Finally
import KE.SortData
import HandS.Iter
import HandS.SetFor
import HandS.ListItems
import KE.KIntText
import HandS.ReplaceLit
import HandS.ReplaceDef
import HandS.ReplaceList
import PyProof.Rows.StrInSeq3
import KE.GoesMore
import KE.GoesZip
import HandS.StrMore
import HandS.Strs
import KE.KDictZip
import PySem.Challenge.RW_thingyard_k53_keys_in_order
set_option Elab.async false
set_option linter.all false
set_option maxRecDepth 100000
set_option maxHeartbeats 1000000
namespace Vy
open PySem PySem.Spec PyProof.Rows L2

abbrev Cs := List Nat
inductive D where
  | non | bl (b : Bool) | int (i : Int) | str (s : Cs)
  | tup (xs : List D) | lst (xs : List D) | dct (ks : List D) (vs : List D) | ins (c : Nat) (fs : List Cs) (vs : List D)
  | cls (c : Nat) | scr (ns : List Int) | fz (d : D) | hol
  deriving Inhabited

def mkS (s : Cs) : Str := ⟨s.toArray⟩
def Bd (s : Cs) : Prop := ∀ c ∈ s, c < 1114112
def vKey : D → Option Key
  | .int i => some (.inl i)
  | .str s => some (.inr (mkS s))
  | _ => none

mutual
def D.mdep : D → Nat
  | .tup xs => mdepL xs
  | .lst xs => mdepL xs + 1
  | .dct _ vs => mdepL vs + 1
  | .ins _ _ vs => mdepL vs + 1
  | .fz d => d.mdep + 1000000
  | _ => 0
def mdepL : List D → Nat
  | [] => 0
  | d :: r => max d.mdep (mdepL r)
end

def KeyOk (ks : List D) (kvs : List (Key × V)) : Prop := ks.map vKey = kvs.map (fun p => some p.1) ∧ (kvs.map (·.1)).Nodup ∧ ∀ s, D.str s ∈ ks → Bd s
def SqZ (K : PySem.W.Frag) (H : Hp) (a : Addr) (xs : List V) : Prop := (∃ o, H a = some (.frz o (.lst xs))) ∨ ∀ H', SqL K H' a xs
theorem SqZ.l {K : PySem.W.Frag} {H : Hp} {a : Addr} {xs : List V} (h : SqZ K H a xs) : SqL K H a xs := h.elim (fun ⟨o, e⟩ => .inl (.inr ⟨o, e⟩)) fun e => e H
section
variable (K : PySem.W.Frag) (CA : Nat → Addr)
mutual
inductive Rep (H : Hp) : Nat → D → V → List Addr → List Addr → Prop
  | non {n} : Rep H n .non .non [] []
  | bl {n} (b : Bool) : Rep H n (.bl b) (.bl b) [] []
  | int {n} (i : Int) : Rep H n (.int i) (.int i) [] []
  | str {n} {s : Cs} : Bd s → Rep H n (.str s) (.str (mkS s)) [] []
  | cls {n} (c : Nat) : Rep H n (.cls c) (.ref (CA c)) [] []
  | scr {n a ns} : SqZ K H a (ns.map V.int) → Rep H n (.scr ns) (.ref a) [] []
  | hol {n v} : Rep H n .hol v [] []
  | fz {n d v Z} : n < 1000000 → d.mdep ≠ 0 → Rep H 0 d v [] Z → Rep H n (.fz d) v [] Z
  | tup {n a ds vs O Z} : SqT K H a vs → Reps H n ds vs O Z → Rep H n (.tup ds) (.ref a) O Z
  | lstO {n a ds vs O Z} : H a = some (.lst vs) → Reps H n ds vs O Z → Rep H (n + 1) (.lst ds) (.ref a) (a :: O) Z
  | lstZ {a ds vs O Z} : H a = some (.lst vs) → Reps H 0 ds vs O Z → Rep H 0 (.lst ds) (.ref a) O (a :: Z)
  | dctO {n a ks ds kvs O Z} : H a = some (.dK kvs) → KeyOk ks kvs → Reps H n ds (kvs.map (·.2)) O Z → Rep H (n + 1) (.dct ks ds) (.ref a) (a :: O) Z
  | dctZ {a ks ds kvs O Z} : Rd H a (.dK kvs) → KeyOk ks kvs → Reps H 0 ds (kvs.map (·.2)) O Z → Rep H 0 (.dct ks ds) (.ref a) O (a :: Z)
  | insO {n a c fs ds dx fvs O Z} : H a = some (.ins (CA c) dx fvs) → fs.map mkS = fvs.map (·.1) → Reps H n ds (fvs.map (·.2)) O Z → Rep H (n + 1) (.ins c fs ds) (.ref a) (a :: O) Z
  | insZ {a c fs ds dx fvs O Z} : H a = some (.ins (CA c) dx fvs) → fs.map mkS = fvs.map (·.1) → Reps H 0 ds (fvs.map (·.2)) O Z → Rep H 0 (.ins c fs ds) (.ref a) O (a :: Z)
inductive Reps (H : Hp) : Nat → List D → List V → List Addr → List Addr → Prop
  | nil {n} : Reps H n [] [] [] []
  | cons {n d v ds vs O Z O' Z'} : Rep H n d v O Z → Reps H n ds vs O' Z' → Reps H n (d :: ds) (v :: vs) (O ++ O') (Z ++ Z')
end
end

def Keep (F : List Addr) (H H' : Hp) : Prop := ∀ a o, H a = some o → a ∉ F → H' a = some o
theorem Keep.refl {F : List Addr} {H : Hp} : Keep F H H := fun _ _ h _ => h
theorem Keep.same {H H' : Hp} (k : Keep [] H H') : Same H H' := fun a o h => k a o h (by simp)
theorem keepS {F : List Addr} {H H' : Hp} (k : Same H H') : Keep F H H' := fun a o h _ => k a o h
theorem Keep.mono {F G : List Addr} {H H' : Hp} (k : Keep F H H') (h : ∀ a ∈ F, a ∈ G) : Keep G H H' := fun a o e n => k a o e fun z => n (h a z)
theorem sameNew {H : Hp} {p : Addr} {o : HO} (n : H p = none) : Same H (upd H p o) := fun a u e => by
  rw [upd_ne (ne_of_none e n)]; exact e

section
variable {K : PySem.W.Frag} {CA : Nat → Addr} {H H' : Hp}

mutual
theorem Rep.own_mut : ∀ {n d v O Z}, Rep K CA H n d v O Z → ∀ a ∈ O, Mut (H a)
  | _, _, _, _, _, .non, _, h => by simp at h
  | _, _, _, _, _, .bl _, _, h => by simp at h
  | _, _, _, _, _, .int _, _, h => by simp at h
  | _, _, _, _, _, .str _, _, h => by simp at h
  | _, _, _, _, _, .cls _, _, h => by simp at h
  | _, _, _, _, _, .scr _, _, h => by simp at h
  | _, _, _, _, _, .hol, _, h => by simp at h
  | _, _, _, _, _, .fz _ _ _, _, h => by simp at h
  | _, _, _, _, _, .tup _ r, b, h => r.own_mut b h
  | _, _, _, _, _, .lstO e r, b, h => by
    rcases List.mem_cons.mp h with rfl | h
    · rw [e]; trivial
    · exact r.own_mut b h
  | _, _, _, _, _, .lstZ _ r, b, h => r.own_mut b h
  | _, _, _, _, _, .dctO e _ r, b, h => by
    rcases List.mem_cons.mp h with rfl | h
    · rw [e]; trivial
    · exact r.own_mut b h
  | _, _, _, _, _, .dctZ _ _ r, b, h => r.own_mut b h
  | _, _, _, _, _, .insO e _ r, b, h => by
    rcases List.mem_cons.mp h with rfl | h
    · rw [e]; trivial
    · exact r.own_mut b h
  | _, _, _, _, _, .insZ _ _ r, b, h => r.own_mut b h
theorem Reps.own_mut : ∀ {n ds vs O Z}, Reps K CA H n ds vs O Z → ∀ a ∈ O, Mut (H a)
  | _, _, _, _, _, .nil, _, h => by simp at h
  | _, _, _, _, _, .cons r s, b, h => (List.mem_append.mp h).elim (r.own_mut b) (s.own_mut b)
end

theorem Rd.some {H : Hp} {a : Addr} {u : HO} (r : Rd H a u) : H a ≠ none := by
  rcases r with e | ⟨o, e⟩ <;> rw [e] <;> simp
mutual
theorem Rep.there : ∀ {n d v O Z}, Rep K CA H n d v O Z → ∀ a ∈ O ++ Z, H a ≠ none
  | _, _, _, _, _, .non, _, h => by simp at h
  | _, _, _, _, _, .bl _, _, h => by simp at h
  | _, _, _, _, _, .int _, _, h => by simp at h
  | _, _, _, _, _, .str _, _, h => by simp at h
  | _, _, _, _, _, .cls _, _, h => by simp at h
  | _, _, _, _, _, .scr _, _, h => by simp at h
  | _, _, _, _, _, .hol, _, h => by simp at h
  | _, _, _, _, _, .fz _ _ r, b, h => r.there b h
  | _, _, _, _, _, .tup _ r, b, h => r.there b h
  | _, _, _, _, _, .lstO e r, b, h => by
    rcases List.mem_cons.mp h with rfl | h
    · rw [e]; simp
    · exact r.there b h
  | _, _, _, _, _, .lstZ e r, b, h => by
    rcases List.mem_append.mp h with h | h
    · exact r.there b (List.mem_append_left _ h)
    · rcases List.mem_cons.mp h with rfl | h
      · exact (by rw [e]; simp)
      · exact r.there b (List.mem_append_right _ h)
  | _, _, _, _, _, .dctO e _ r, b, h => by
    rcases List.mem_cons.mp h with rfl | h
    · rw [e]; simp
    · exact r.there b h
  | _, _, _, _, _, .dctZ e _ r, b, h => by
    rcases List.mem_append.mp h with h | h
    · exact r.there b (List.mem_append_left _ h)
    · rcases List.mem_cons.mp h with rfl | h
      · exact Rd.some e
      · exact r.there b (List.mem_append_right _ h)
  | _, _, _, _, _, .insO e _ r, b, h => by
    rcases List.mem_cons.mp h with rfl | h
    · rw [e]; simp
    · exact r.there b h
  | _, _, _, _, _, .insZ e _ r, b, h => by
    rcases List.mem_append.mp h with h | h
    · exact r.there b (List.mem_append_left _ h)
    · rcases List.mem_cons.mp h with rfl | h
      · rw [e]; simp
      · exact r.there b (List.mem_append_right _ h)
theorem Reps.there : ∀ {n ds vs O Z}, Reps K CA H n ds vs O Z → ∀ a ∈ O ++ Z, H a ≠ none
  | _, _, _, _, _, .nil, _, h => by simp at h
  | _, _, _, _, _, .cons r s, b, h => by
    rcases List.mem_append.mp h with h | h <;> rcases List.mem_append.mp h with h | h
    · exact r.there b (List.mem_append_left _ h)
    · exact s.there b (List.mem_append_left _ h)
    · exact r.there b (List.mem_append_right _ h)
    · exact s.there b (List.mem_append_right _ h)
end

def Fix (F : List Addr) (H : Hp) : Prop := ∀ a ∈ F, Mut (H a)
theorem Rd.keep {F : List Addr} {a : Addr} {u : HO} (r : Rd H a u) (k : Keep F H H') (h : a ∉ F) : Rd H' a u := by
  rcases r with e | ⟨o, e⟩
  · exact .inl (k _ _ e h)
  · exact .inr ⟨o, k _ _ e h⟩
theorem SqT_keep {F : List Addr} {a : Addr} {xs : List V} (r : SqT K H a xs) (k : Keep F H H') (f : Fix F H) : SqT K H' a xs := by
  rcases r with (e | ⟨o, e⟩) | e
  · refine .inl (.inl (k _ _ e fun z => ?_))
    have := f _ z; rw [e] at this; exact this
  · refine .inl (.inr ⟨o, k _ _ e fun z => ?_⟩)
    have := f _ z; rw [e] at this; exact this
  · exact .inr e
theorem SqZ_keep {F : List Addr} {a : Addr} {xs : List V} (r : SqZ K H a xs) (k : Keep F H H') (f : Fix F H) : SqZ K H' a xs := by
  rcases r with ⟨o, e⟩ | e
  · refine .inl ⟨o, k _ _ e fun z => ?_⟩
    have := f _ z; rw [e] at this; exact this
  · exact .inr e
mutual
theorem Rep.keep {F : List Addr} (k : Keep F H H') (f : Fix F H) : ∀ {n d v O Z}, Rep K CA H n d v O Z → (∀ a ∈ O ++ Z, a ∉ F) → Rep K CA H' n d v O Z
  | _, _, _, _, _, .non, _ => .non
  | _, _, _, _, _, .bl _, _ => .bl _
  | _, _, _, _, _, .int _, _ => .int _
  | _, _, _, _, _, .str _, _ => .str (by assumption)
  | _, _, _, _, _, .cls _, _ => .cls _
  | _, _, _, _, _, .scr e, _ => .scr (SqZ_keep e k f)
  | _, _, _, _, _, .hol, _ => .hol
  | _, _, _, _, _, .fz hn hd r, h => .fz hn hd (r.keep k f h)
  | _, _, _, _, _, .tup e r, h => .tup (SqT_keep e k f) (r.keep k f h)
  | _, _, _, _, _, .lstO e r, h => .lstO (k _ _ e (h _ (by simp))) (r.keep k f fun b q => h b (by simp_all))
  | _, _, _, _, _, .lstZ e r, h => .lstZ (k _ _ e (h _ (by simp))) (r.keep k f fun b q => h b (by simp at q ⊢; rcases q with q | q <;> simp [q]))
  | _, _, _, _, _, .dctO e e1 r, h => .dctO (k _ _ e (h _ (by simp))) e1 (r.keep k f fun b q => h b (by simp_all))
  | _, _, _, _, _, .dctZ e e1 r, h => .dctZ (Rd.keep e k (h _ (by simp))) e1 (r.keep k f fun b q => h b (by simp at q ⊢; rcases q with q | q <;> simp [q]))
  | _, _, _, _, _, .insO e e1 r, h => .insO (k _ _ e (h _ (by simp))) e1 (r.keep k f fun b q => h b (by simp_all))
  | _, _, _, _, _, .insZ e e1 r, h => .insZ (k _ _ e (h _ (by simp))) e1 (r.keep k f fun b q => h b (by simp at q ⊢; rcases q with q | q <;> simp [q]))
theorem Reps.keep {F : List Addr} (k : Keep F H H') (f : Fix F H) : ∀ {n ds vs O Z}, Reps K CA H n ds vs O Z → (∀ a ∈ O ++ Z, a ∉ F) → Reps K CA H' n ds vs O Z
  | _, _, _, _, _, .nil, _ => .nil
  | _, _, _, _, _, .cons r s, h => .cons (r.keep k f fun b q => h b (by simp at q ⊢; rcases q with q | q <;> simp [q])) (s.keep k f fun b q => h b (by simp at q ⊢; rcases q with q | q <;> simp [q]))
end
theorem Fix.nil {H : Hp} : Fix [] H := fun _ h => by simp at h
theorem Rep.same (k : Same H H') {n d v O Z} (r : Rep K CA H n d v O Z) : Rep K CA H' n d v O Z := r.keep (F := []) (keepS k) Fix.nil (by simp)
theorem Reps.same (k : Same H H') {n ds vs O Z} (r : Reps K CA H n ds vs O Z) : Reps K CA H' n ds vs O Z := r.keep (F := []) (keepS k) Fix.nil (by simp)

def Low (O Z O' Z' : List Addr) : Prop := ∃ R, (O' ++ R).Perm O ∧ ∀ a ∈ Z', a ∈ R ∨ a ∈ Z
theorem Low.refl {O Z : List Addr} : Low O Z O Z := ⟨[], by simp, fun a h => .inr h⟩
theorem Low.append {O Z O' Z' P Y P' Y' : List Addr} (a : Low O Z O' Z') (b : Low P Y P' Y') : Low (O ++ P) (Z ++ Y) (O' ++ P') (Z' ++ Y') := by
  obtain ⟨R, p, h⟩ := a
  obtain ⟨R', p', h'⟩ := b
  refine ⟨R ++ R', ?_, fun x q => ?_⟩
  · rw [List.perm_iff_count] at p p' ⊢
    intro x
    have h1 := p x
    have h2 := p' x
    simp only [List.count_append] at h1 h2 ⊢
    omega
  · rcases List.mem_append.mp q with q | q
    · rcases h x q with z | z <;> simp [z]
    · rcases h' x q with z | z <;> simp [z]
theorem Low.cons0 {a : Addr} {O Z O' Z' : List Addr} (l : Low O Z O' Z') : Low (a :: O) Z O' (a :: Z') := by
  obtain ⟨R, p, h⟩ := l
  refine ⟨a :: R, List.perm_middle.trans (p.cons a), fun x q => ?_⟩
  rcases List.mem_cons.mp q with rfl | q
  · simp
  · rcases h x q with z | z <;> simp [z]
theorem Low.cons1 {a : Addr} {O Z O' Z' : List Addr} (l : Low O Z O' Z') : Low (a :: O) Z (a :: O') Z' := by
  obtain ⟨R, p, h⟩ := l
  exact ⟨R, p.cons a, h⟩
theorem Low.own {O Z O' Z' : List Addr} (l : Low O Z O' Z') : ∀ a ∈ O', a ∈ O := fun a h => by
  obtain ⟨R, p, _⟩ := l
  exact p.subset (List.mem_append_left _ h)
theorem Low.all {O Z O' Z' : List Addr} (l : Low O Z O' Z') : ∀ a ∈ Z', a ∈ O ∨ a ∈ Z := fun a h => by
  obtain ⟨R, p, q⟩ := l
  exact (q a h).imp (fun z => p.subset (List.mem_append_right _ z)) id
theorem Low.nd {O Z O' Z' : List Addr} (l : Low O Z O' Z') (h : O.Nodup) : O'.Nodup := by
  obtain ⟨R, p, q⟩ := l
  exact (List.nodup_append.mp (p.nodup_iff.mpr h)).1
theorem Low.zo {O Z O' Z' : List Addr} (l : Low O Z O' Z') (h : O.Nodup) (zo : ∀ a ∈ Z, a ∉ O) : ∀ a ∈ Z', a ∉ O' := fun a ha hb => by
  have ho := l.own a hb
  obtain ⟨R, p, q⟩ := l
  rcases q a ha with z | z
  · exact (List.nodup_append.mp (p.nodup_iff.mpr h)).2.2 a hb a z rfl
  · exact zo a z ho
mutual
theorem Rep.low : ∀ {n m d v O Z}, Rep K CA H n d v O Z → m ≤ n → ∃ O' Z', Rep K CA H m d v O' Z' ∧ Low O Z O' Z'
  | _, _, _, _, _, _, .non, _ => ⟨_, _, .non, .refl⟩
  | _, _, _, _, _, _, .bl _, _ => ⟨_, _, .bl _, .refl⟩
  | _, _, _, _, _, _, .int _, _ => ⟨_, _, .int _, .refl⟩
  | _, _, _, _, _, _, .str _, _ => ⟨_, _, .str (by assumption), .refl⟩
  | _, _, _, _, _, _, .cls _, _ => ⟨_, _, .cls _, .refl⟩
  | _, _, _, _, _, _, .scr e, _ => ⟨_, _, .scr e, .refl⟩
  | _, _, _, _, _, _, .hol, _ => ⟨_, _, .hol, .refl⟩
  | _, _, _, _, _, _, .fz hn hd r, h => ⟨_, _, .fz (Nat.lt_of_le_of_lt h hn) hd r, .refl⟩
  | _, _, _, _, _, _, .tup e r, h => let ⟨_, _, r', l⟩ := r.low h; ⟨_, _, .tup e r', l⟩
  | _, 0, _, _, _, _, .lstO e r, h => let ⟨_, _, r', l⟩ := r.low (Nat.zero_le _); ⟨_, _, .lstZ e r', l.cons0⟩
  | _, m + 1, _, _, _, _, .lstO e r, h => let ⟨_, _, r', l⟩ := r.low (Nat.le_of_succ_le_succ h); ⟨_, _, .lstO e r', l.cons1⟩
  | _, _, _, _, _, _, .lstZ e r, h => by obtain rfl := Nat.le_zero.mp h; exact ⟨_, _, .lstZ e r, .refl⟩
  | _, 0, _, _, _, _, .dctO e e1 r, h => let ⟨_, _, r', l⟩ := r.low (Nat.zero_le _); ⟨_, _, .dctZ (.inl e) e1 r', l.cons0⟩
  | _, m + 1, _, _, _, _, .dctO e e1 r, h => let ⟨_, _, r', l⟩ := r.low (Nat.le_of_succ_le_succ h); ⟨_, _, .dctO e e1 r', l.cons1⟩
  | _, _, _, _, _, _, .dctZ e e1 r, h => by obtain rfl := Nat.le_zero.mp h; exact ⟨_, _, .dctZ e e1 r, .refl⟩
  | _, 0, _, _, _, _, .insO e e1 r, h => let ⟨_, _, r', l⟩ := r.low (Nat.zero_le _); ⟨_, _, .insZ e e1 r', l.cons0⟩
  | _, m + 1, _, _, _, _, .insO e e1 r, h => let ⟨_, _, r', l⟩ := r.low (Nat.le_of_succ_le_succ h); ⟨_, _, .insO e e1 r', l.cons1⟩
  | _, _, _, _, _, _, .insZ e e1 r, h => by obtain rfl := Nat.le_zero.mp h; exact ⟨_, _, .insZ e e1 r, .refl⟩
theorem Reps.low : ∀ {n m ds vs O Z}, Reps K CA H n ds vs O Z → m ≤ n → ∃ O' Z', Reps K CA H m ds vs O' Z' ∧ Low O Z O' Z'
  | _, _, _, _, _, _, .nil, _ => ⟨_, _, .nil, .refl⟩
  | _, _, _, _, _, _, .cons r s, h => let ⟨_, _, r', l⟩ := r.low h; let ⟨_, _, s', l'⟩ := s.low h; ⟨_, _, .cons r' s', l.append l'⟩
end
mutual
theorem Rep.imm : ∀ {n m d v O Z}, Rep K CA H n d v O Z → d.mdep = 0 → O = [] ∧ Z = [] ∧ Rep K CA H m d v [] []
  | _, _, _, _, _, _, .non, _ => ⟨rfl, rfl, .non⟩
  | _, _, _, _, _, _, .bl _, _ => ⟨rfl, rfl, .bl _⟩
  | _, _, _, _, _, _, .int _, _ => ⟨rfl, rfl, .int _⟩
  | _, _, _, _, _, _, .str _, _ => ⟨rfl, rfl, .str (by assumption)⟩
  | _, _, _, _, _, _, .cls _, _ => ⟨rfl, rfl, .cls _⟩
  | _, _, _, _, _, _, .scr e, _ => ⟨rfl, rfl, .scr e⟩
  | _, _, _, _, _, _, .hol, _ => ⟨rfl, rfl, .hol⟩
  | _, _, _, _, _, _, .fz hn hd r, h => by rw [D.mdep] at h; omega
  | _, m, _, _, _, _, .tup e r, h => by
    rw [D.mdep] at h
    obtain ⟨h1, h2, r'⟩ := r.imm (m := m) h; exact ⟨h1, h2, .tup e r'⟩
  | _, _, _, _, _, _, .lstO e r, h => by rw [D.mdep] at h; omega
  | _, _, _, _, _, _, .lstZ e r, h => by rw [D.mdep] at h; omega
  | _, _, _, _, _, _, .dctO e e1 r, h => by rw [D.mdep] at h; omega
  | _, _, _, _, _, _, .dctZ e e1 r, h => by rw [D.mdep] at h; omega
  | _, _, _, _, _, _, .insO e e1 r, h => by rw [D.mdep] at h; omega
  | _, _, _, _, _, _, .insZ e e1 r, h => by rw [D.mdep] at h; omega
theorem Reps.imm : ∀ {n m ds vs O Z}, Reps K CA H n ds vs O Z → mdepL ds = 0 → O = [] ∧ Z = [] ∧ Reps K CA H m ds vs [] []
  | _, _, _, _, _, _, .nil, _ => ⟨rfl, rfl, .nil⟩
  | _, m, _, _, _, _, .cons r s, h => by
    rw [mdepL] at h
    obtain ⟨a1, a2, r'⟩ := r.imm (m := m) (by omega)
    obtain ⟨b1, b2, s'⟩ := s.imm (m := m) (by omega)
    subst a1; subst a2; subst b1; subst b2
    exact ⟨rfl, rfl, .cons (O := []) (Z := []) r' s'⟩
end
mutual
theorem Rep.full : ∀ {n d v O Z}, Rep K CA H n d v O Z → d.mdep ≤ n → Z = []
  | _, _, _, _, _, .non, _ => rfl
  | _, _, _, _, _, .bl _, _ => rfl
  | _, _, _, _, _, .int _, _ => rfl
  | _, _, _, _, _, .str _, _ => rfl
  | _, _, _, _, _, .cls _, _ => rfl
  | _, _, _, _, _, .scr _, _ => rfl
  | _, _, _, _, _, .hol, _ => rfl
  | _, _, _, _, _, .fz hn hd r, h => by rw [D.mdep] at h; omega
  | _, _, _, _, _, .tup e r, h => r.full (by rw [D.mdep] at h; exact h)
  | _, _, _, _, _, .lstO e r, h => r.full (by rw [D.mdep] at h; omega)
  | _, _, _, _, _, .lstZ e r, h => by rw [D.mdep] at h; omega
  | _, _, _, _, _, .dctO e e1 r, h => r.full (by rw [D.mdep] at h; omega)
  | _, _, _, _, _, .dctZ e e1 r, h => by rw [D.mdep] at h; omega
  | _, _, _, _, _, .insO e e1 r, h => r.full (by rw [D.mdep] at h; omega)
  | _, _, _, _, _, .insZ e e1 r, h => by rw [D.mdep] at h; omega
theorem Reps.full : ∀ {n ds vs O Z}, Reps K CA H n ds vs O Z → mdepL ds ≤ n → Z = []
  | _, _, _, _, _, .nil, _ => rfl
  | _, _, _, _, _, .cons r s, h => by
    rw [mdepL] at h
    rw [r.full (by omega), s.full (by omega)]; rfl
end
mutual
theorem Rep.zero : ∀ {d v O Z}, Rep K CA H 0 d v O Z → O = []
  | _, _, _, _, .non => rfl
  | _, _, _, _, .bl _ => rfl
  | _, _, _, _, .int _ => rfl
  | _, _, _, _, .str _ => rfl
  | _, _, _, _, .cls _ => rfl
  | _, _, _, _, .scr _ => rfl
  | _, _, _, _, .hol => rfl
  | _, _, _, _, .fz _ _ _ => rfl
  | _, _, _, _, .tup _ r => r.zero
  | _, _, _, _, .lstZ _ r => r.zero
  | _, _, _, _, .dctZ _ _ r => r.zero
  | _, _, _, _, .insZ _ _ r => r.zero
theorem Reps.zero : ∀ {ds vs O Z}, Reps K CA H 0 ds vs O Z → O = []
  | _, _, _, _, .nil => rfl
  | _, _, _, _, .cons r s => by rw [r.zero, s.zero]; rfl
end
theorem Reps.length : ∀ {n ds vs O Z}, Reps K CA H n ds vs O Z → ds.length = vs.length
  | _, _, _, _, _, .nil => rfl
  | _, _, _, _, _, .cons _ s => by simp [s.length]
theorem Reps.append : ∀ {n ds vs O Z es us P Y}, Reps K CA H n ds vs O Z → Reps K CA H n es us P Y → Reps K CA H n (ds ++ es) (vs ++ us) (O ++ P) (Z ++ Y)
  | _, _, _, _, _, _, _, _, _, .nil, t => t
  | _, _, _, _, _, _, _, _, _, .cons r s, t => by
    have := Reps.cons r (s.append t)
    simpa [List.append_assoc] using this
theorem Rep.unfz {n d v O Z} (r : Rep K CA H n (.fz d) v O Z) : O = [] ∧ d.mdep ≠ 0 ∧ Rep K CA H 0 d v [] Z := by
  cases r with
  | fz hn hd r => exact ⟨rfl, hd, r⟩
theorem Rep.ref {n d v O Z} (r : Rep K CA H n d v O Z) (h : d.mdep ≠ 0) : ∃ a, v = .ref a := by
  induction r using Rep.rec (motive_2 := fun _ _ _ _ _ _ => True) with
  | fz hn hd r ih => exact ih hd
  | nil => trivial
  | cons => trivial
  | _ => first | exact ⟨_, rfl⟩ | (exfalso; apply h; simp [D.mdep])
theorem Reps.get : ∀ {n ds vs O Z} (i : Nat) (d : D), Reps K CA H n ds vs O Z → ds[i]? = some d →
    ∃ v A B A' B' O1 Z1, vs[i]? = some v ∧ Rep K CA H n d v O1 Z1 ∧ O = A ++ O1 ++ B ∧ Z = A' ++ Z1 ++ B' ∧
      Reps K CA H n (ds.take i) (vs.take i) A A' ∧ Reps K CA H n (ds.drop (i + 1)) (vs.drop (i + 1)) B B'
  | _, _, _, _, _, _, _, .nil, h => by simp at h
  | _, _, _, _, _, 0, d, .cons r s, h => by
    simp at h; subst h
    exact ⟨_, [], _, [], _, _, _, rfl, r, rfl, rfl, .nil, by simpa using s⟩
  | _, _, _, _, _, i + 1, d, .cons (O := O) (Z := Z) r s, h => by
    obtain ⟨v, A, B, A', B', O1, Z1, e, q, h1, h2, q1, q2⟩ := s.get i d (by simpa using h)
    refine ⟨v, O ++ A, B, Z ++ A', B', O1, Z1, by simpa using e, q, by rw [h1]; simp, by rw [h2]; simp, ?_, by simpa using q2⟩
    simpa using Reps.cons r q1
theorem Reps.get0 {ds vs O Z} (i : Nat) (d : D) (r : Reps K CA H 0 ds vs O Z) (h : ds[i]? = some d) : ∃ v Z1, vs[i]? = some v ∧ Rep K CA H 0 d v [] Z1 ∧ ∀ a ∈ Z1, a ∈ Z := by
  obtain ⟨v, A, B, A', B', O1, Z1, e, q, h1, h2, _, _⟩ := r.get i d h
  have := q.zero
  subst this
  exact ⟨v, Z1, e, q, fun a ha => by rw [h2]; simp [ha]⟩
end
end Vy

namespace Vy
open PySem PySem.Spec PyProof.Rows L2

inductive BO | add | sub | mul | fdv | mod | pow
  deriving DecidableEq
inductive CO | eq | ne | lt | le | gt | ge | isin | notin | is_ | isnot
  deriving DecidableEq
inductive Bi | len | all | any | sum | min | max | maxd | maxs | sorted | str | int | bool | ord | list | tuple | dict | setlen | lzip
  deriving DecidableEq
inductive Me | join | split | partition | rpartition | replace | find | lstrip | rstrip | strip | isalpha | index | count | get
  deriving DecidableEq
inductive IK | str | int | bool | tuple | list | dict | cls (c : Nat)
  deriving DecidableEq
inductive Tg | one (i : Nat) | tup (is : List Nat)
inductive C where
  | cst (d : D) | var (i : Nat) | glb (g : Nat)
  | bin (o : BO) (a b : C) | cmp (o : CO) (a b : C) | chn (o p : CO) (a b c : C)
  | not (a : C) | neg (a : C) | and (a b : C) | or (a b : C) | ife (t a b : C)
  | tup (es : List C) | lst (es : List C) | dct (ks es : List C)
  | sub (a i : C) | slc (a : C) (lo hi : Option C) | rev (a : C) | rvl (a : C)
  | cal (f : Nat) (es : List C) | bif (f : Bi) (es : List C) | mth (m : Me) (o : C) (es : List C)
  | fld (a : C) (f : Cs) | isi (a : C) (k : IK)
  | lc (it : C) (tg : Tg) (t : Option C) (e : C)
  | rng (es : List C) | enu (e : C) | zip (a b : C) | itm (e : C) | kys (e : C) | rvs (e : C)

structure Exn where
  c : Nat
  fs : List Cs
  vs : List D
inductive Out (α : Type) | ok (a : α) | exc (e : Exn) | bad
inductive OutI | ok (p : D × Nat) (ios : List (D × Nat)) | exc (e : Exn) (ios : List (D × Nat)) | bad
structure Runs where
  pl : Nat → List D → Out (D × Nat)
  ci : Nat → List (D × Nat) → OutI
  io : List Nat
instance : CoeFun Runs fun _ => Nat → List D → Out (D × Nat) := ⟨Runs.pl⟩
def Out.bind {α β : Type} (x : Out α) (f : α → Out β) : Out β := match x with
  | .ok a => f a
  | .exc e => .exc e
  | .bad => .bad
@[simp] theorem Out.bind_ok {α β : Type} (a : α) (f : α → Out β) : (Out.ok a).bind f = f a := id rfl
@[simp] theorem Out.bind_exc {α β : Type} (e : Exn) (f : α → Out β) : (Out.exc e).bind f = .exc e := id rfl
@[simp] theorem Out.bind_bad {α β : Type} (f : α → Out β) : (Out.bad : Out α).bind f = .bad := id rfl
theorem Out.bind_eq_ok {α β : Type} {x : Out α} {f : α → Out β} {b : β} (h : x.bind f = .ok b) : ∃ a, x = .ok a ∧ f a = .ok b := by
  cases x with
  | ok a => exact ⟨a, rfl, h⟩
  | exc e => cases h
  | bad => cases h
def Out.of {α : Type} : Option α → Out α
  | some a => .ok a
  | none => .bad
@[simp] theorem Out.of_some {α : Type} (a : α) : Out.of (some a) = .ok a := id rfl
@[simp] theorem Out.of_none {α : Type} : (Out.of (none : Option α)) = .bad := id rfl
def gd (c : Prop) [Decidable c] {α : Type} (x : Out α) : Out α := if c then x else .bad
theorem gd_pos {c : Prop} [Decidable c] {α : Type} {x : Out α} (h : c) : gd c x = x := if_pos h
theorem gd_ok {c : Prop} [Decidable c] {α : Type} {x : Out α} {a : α} (h : gd c x = .ok a) : c ∧ x = .ok a := by
  unfold gd at h; split at h
  · exact ⟨by assumption, h⟩
  · cases h

mutual
def D.dep : D → Nat
  | .tup xs => depL xs + 1
  | .lst xs => depL xs + 1
  | .dct _ vs => depL vs + 1
  | _ => 0
def depL : List D → Nat
  | [] => 0
  | d :: r => max d.dep (depL r)
end
def lookD [BEq α] (k : α) : List α → List D → Option D
  | j :: ks, v :: vs => if j == k then some v else lookD k ks vs
  | _, _ => none
mutual
def pyEq : D → D → Bool
  | .non, .non => true
  | .bl a, .bl b => a == b
  | .bl a, .int j => (if a then 1 else 0) == j
  | .int i, .bl b => i == (if b then 1 else 0)
  | .int i, .int j => i == j
  | .str s, .str t => s == t
  | .tup xs, .tup ys => pyEqL xs ys
  | .lst xs, .lst ys => pyEqL xs ys
  | _, _ => false
def pyEqL : List D → List D → Bool
  | [], [] => true
  | x :: xs, y :: ys => pyEq x y && pyEqL xs ys
  | _, _ => false
end
mutual
def eqOk : D → Bool
  | .tup xs => eqOkL xs
  | .lst xs => eqOkL xs
  | .dct _ _ => false
  | .ins _ _ _ => false
  | .cls _ => false
  | .scr _ => false
  | .fz _ => false
  | .hol => false
  | _ => true
def eqOkL : List D → Bool
  | [] => true
  | d :: r => eqOk d && eqOkL r
end
def SZ : Nat := 16777216
def truth : D → Option Bool
  | .non => some false
  | .bl b => some b
  | .int i => some (i != 0)
  | .str s => if s.length ≤ SZ then some (!s.isEmpty) else none
  | .tup xs => some (!xs.isEmpty)
  | .lst xs => some (!xs.isEmpty)
  | _ => none
def lvL : List (D × Nat) → Nat
  | [] => 9
  | (d, n) :: r => if d.mdep = 0 then lvL r else min n (lvL r)
def lv1 (xs : List D) : Nat := if mdepL xs = 0 then 9 else 1
def lvt (xs : List D) : Nat := if mdepL xs = 0 then 9 else 0
def ix (n : Nat) (i : Int) : Option Nat := if 0 ≤ i then (if i < n then some i.toNat else none) else if -(n : Int) ≤ i then some (i + n).toNat else none
def at? {α : Type} (xs : List α) (i : Int) : Option α := (ix xs.length i).bind fun j => xs[j]?
def sx (n d : Nat) : Option Int → Nat
  | none => d
  | some i => if 0 ≤ i then min i.toNat n else ((n : Int) + i).toNat
def cut {α : Type} (xs : List α) (lo hi : Option Int) : List α := (xs.drop (sx xs.length 0 lo)).take (sx xs.length xs.length hi - sx xs.length 0 lo)
def strsOf : List D → Option (List Cs)
  | [] => some []
  | .str s :: r => (strsOf r).map (s :: ·)
  | _ :: _ => none
def intsOf : List D → Option (List Int)
  | [] => some []
  | .int i :: r => (intsOf r).map (i :: ·)
  | _ :: _ => none
def boolsOf : List D → Option (List Bool)
  | [] => some []
  | .bl b :: r => (boolsOf r).map (b :: ·)
  | _ :: _ => none
def itemsOf : D → Option (List D)
  | .scr ns => some (ns.map .int)
  | .lst xs => some xs
  | .tup xs => some xs
  | .str s => some (s.map fun c => .str [c])
  | _ => none
def seqOf : D → Option (List D)
  | .scr ns => some (ns.map .int)
  | .lst xs => some xs
  | .tup xs => some xs
  | _ => none
def sq2 : D → Option (List D)
  | .lst xs => some xs
  | .tup xs => some xs
  | _ => none
def lsqOf : D → Option (List D)
  | .scr ns => some (ns.map .int)
  | .lst xs => some xs
  | _ => none
def findC (sub : Cs) : Nat → Cs → Option Nat
  | k, [] => if sub = [] then some k else none
  | k, c :: r => if sub.isPrefixOf (c :: r) then some k else findC sub (k + 1) r
def codesOfInt (i : Int) : Cs := TL.tl (Str.ofString (toString i))
def powOk (i j : Int) : Prop := 0 ≤ j ∧ j ≤ 1000000 ∧ i.natAbs < 2 ^ 64
instance (i j : Int) : Decidable (powOk i j) := inferInstanceAs (Decidable (_ ∧ _ ∧ _))
def mulOk (i j : Int) : Prop := (-(2 ^ 64) < i ∧ i < 2 ^ 64) ∨ (-(2 ^ 64) < j ∧ j < 2 ^ 64)
instance (i j : Int) : Decidable (mulOk i j) := inferInstanceAs (Decidable (_ ∨ _))
def go (c : Prop) [Decidable c] {α : Type} (x : Option α) : Option α := if c then x else none
theorem go_pos {c : Prop} [Decidable c] {α : Type} {x : Option α} (h : c) : go c x = x := if_pos h
theorem go_some {c : Prop} [Decidable c] {α : Type} {x : Option α} {a : α} (h : go c x = some a) : c ∧ x = some a := by
  unfold go at h; split at h
  · exact ⟨by assumption, h⟩
  · cases h
def binD : BO → D × Nat → D × Nat → Option (D × Nat)
  | .add, (.int i, _), (.int j, _) => some (.int (i + j), 9)
  | .add, (.str s, _), (.str t, _) => go (s.length + t.length ≤ SZ) (some (.str (s ++ t), 9))
  | .add, (.lst xs, _), (.lst ys, _) => go (xs.length + ys.length ≤ SZ) (some (.lst (xs ++ ys), lv1 (xs ++ ys)))
  | .add, (.tup xs, _), (.tup ys, _) => go (xs.length + ys.length ≤ SZ) (some (.tup (xs ++ ys), lvt (xs ++ ys)))
  | .sub, (.int i, _), (.int j, _) => some (.int (i - j), 9)
  | .mul, (.int i, _), (.int j, _) => go (mulOk i j) (some (.int (i * j), 9))
  | .mul, (.str s, _), (.int j, _) => go (-(2 ^ 62) ≤ j ∧ j < 2 ^ 62 ∧ s.length * j.toNat ≤ SZ) (some (.str (List.replicate j.toNat s).flatten, 9))
  | .mul, (.tup xs, _), (.int j, _) => go ((j = 0 ∨ j = 1) ∧ xs.isEmpty = false) (some (.tup (List.replicate j.toNat xs).flatten, lvt (List.replicate j.toNat xs).flatten))
  | .mul, (.lst xs, _), (.int j, _) => go (-(2 ^ 62) ≤ j ∧ j < 2 ^ 62 ∧ xs.length * j.toNat ≤ SZ) (some (.lst (List.replicate j.toNat xs).flatten, lv1 xs))
  | .fdv, (.int i, _), (.int j, _) => go (j ≠ 0 ∧ j.natAbs < 1073741824) (some (.int (i.fdiv j), 9))
  | .mod, (.int i, _), (.int j, _) => go (j ≠ 0) (some (.int (i.fmod j), 9))
  | .pow, (.int i, _), (.int j, _) => go (powOk i j) (some (.int (i ^ j.toNat), 9))
  | _, _, _ => none
def inD (d : D) : D → Option Bool
  | .str t => match d with
    | .str s => some (findC s 0 t).isSome
    | _ => none
  | .lst ys => go (eqOk d = true ∧ eqOkL ys = true ∧ min (depL ys) d.dep ≤ 60) (some (ys.any fun y => pyEq y d))
  | .tup ys => go (eqOk d = true ∧ eqOkL ys = true ∧ min (depL ys) d.dep ≤ 60) (some (ys.any fun y => pyEq y d))
  | .dct ks _ => go ((vKey d).isSome = true) (some (ks.any fun k => pyEq k d))
  | _ => none
def dctEq (ks vs ls ws : List D) : Bool := ks.length == ls.length && (ks.zip vs).all fun p => match (ls.zip ws).find? fun q => pyEq q.1 p.1 with
  | some q => pyEq p.2 q.2
  | none => false
def cmpD : CO → D → D → Option Bool
  | .eq, .dct ks vs, .dct ls ws => go (eqOkL vs = true ∧ eqOkL ws = true ∧ depL vs ≤ 50) (some (dctEq ks vs ls ws))
  | .ne, .dct ks vs, .dct ls ws => go (eqOkL vs = true ∧ eqOkL ws = true ∧ depL vs ≤ 50) (some (!dctEq ks vs ls ws))
  | .eq, d, e => go (eqOk d = true ∧ eqOk e = true ∧ min d.dep e.dep ≤ 60) (some (pyEq d e))
  | .ne, d, e => go (eqOk d = true ∧ eqOk e = true ∧ min d.dep e.dep ≤ 60) (some (!pyEq d e))
  | .lt, .int i, .int j => some (decide (i < j))
  | .le, .int i, .int j => some (decide (i ≤ j))
  | .gt, .int i, .int j => some (decide (j < i))
  | .ge, .int i, .int j => some (decide (j ≤ i))
  | .lt, .str i, .str j => some (decide (i < j))
  | .le, .str i, .str j => some (!decide (j < i))
  | .gt, .str i, .str j => some (decide (j < i))
  | .ge, .str i, .str j => some (!decide (i < j))
  | .isin, d, e => inD d e
  | .notin, d, e => (inD d e).bind fun b => some (!b)
  | .is_, .hol, _ => none
  | .isnot, .hol, _ => none
  | .is_, d, .non => some (match d with | .non => true | _ => false)
  | .isnot, d, .non => some (match d with | .non => false | _ => true)
  | .is_, .bl a, .bl b => some (decide (a = b))
  | .isnot, .bl a, .bl b => some (!decide (a = b))
  | _, _, _ => none
def D.unfz : D → D
  | .fz d => d
  | d => d
def subD : D → D → Option (D × Nat)
  | .scr ns, .int i => ((at? ns i).map fun n => (.int n, 9))
  | .lst xs, .int i => ((at? xs i).map (·, 0))
  | .tup xs, .int i => ((at? xs i).map (·, 0))
  | .str s, .int i => go (s.length ≤ SZ) ( ((at? s i).map fun c => (.str [c], 9)))
  | .dct ks vs, k => go ((vKey k).isSome = true) ( (((ks.zip vs).find? fun p => pyEq p.1 k).map fun p => (p.2.unfz, 0)))
  | _, _ => none
def slcD (d : D) (lo hi : Option Int) : Option (D × Nat) := match d with
  | .scr ns => some (.lst ((cut ns lo hi).map .int), 9)
  | .lst xs => some (.lst (cut xs lo hi), lv1 xs)
  | .tup xs => some (.tup (cut xs lo hi), lvt (cut xs lo hi))
  | .str s => go (s.length ≤ SZ) (some (.str (cut s lo hi), 9))
  | _ => none
def isaD (cm : Nat → List Nat) (d : D) : IK → Bool
  | .str => match d with | .str _ => true | _ => false
  | .int => match d with | .int _ => true | .bl _ => true | _ => false
  | .bool => match d with | .bl _ => true | _ => false
  | .tuple => match d with | .tup _ => true | _ => false
  | .list => match d with | .lst _ => true | .scr _ => true | _ => false
  | .dict => match d with | .dct _ _ => true | _ => false
  | .cls c => match d with | .ins c' _ _ => (cm c').contains c | _ => false
def isiOk (d : D) (k : IK) : Bool := match d, k with
  | .ins _ _ _, _ => false
  | .cls _, _ => false
  | .fz _, _ => false
  | .hol, _ => false
  | _, .cls _ => false
  | _, _ => true
def minI : Int → List Int → Int
  | m, [] => m
  | m, x :: r => minI (if x < m then x else m) r
def maxI : Int → List Int → Int
  | m, [] => m
  | m, x :: r => maxI (if m < x then x else m) r
def minS : Cs → List Cs → Cs
  | m, [] => m
  | m, x :: r => minS (if x < m then x else m) r
def maxS : Cs → List Cs → Cs
  | m, [] => m
  | m, x :: r => maxS (if m < x then x else m) r
def leS (a b : Cs) : Bool := !decide (b < a)
def pairD : List D → Option (List D × List D)
  | [] => some ([], [])
  | .tup [k, v] :: r => (pairD r).map fun p => (k :: p.1, v :: p.2)
  | _ => none
def keysU (ks : List D) : Bool := (ks.map vKey).all (·.isSome) && decide ((ks.map vKey).Nodup)
def dst {α : Type} [DecidableEq α] : List α → Nat
  | [] => 0
  | a :: r => if a ∈ r then dst r else dst r + 1
def bifD : Bi → List (D × Nat) → Option (D × Nat)
  | .len, [(.str s, _)] => go (s.length ≤ SZ) (some (.int s.length, 9))
  | .len, [(.scr xs, _)] => some (.int xs.length, 9)
  | .len, [(.lst xs, _)] => some (.int xs.length, 9)
  | .len, [(.tup xs, _)] => some (.int xs.length, 9)
  | .len, [(.dct ks _, _)] => some (.int ks.length, 9)
  | .all, [(.lst xs, _)] => ((boolsOf xs).map fun bs => (.bl (bs.all id), 9))
  | .any, [(.lst xs, _)] => ((boolsOf xs).map fun bs => (.bl (bs.any id), 9))
  | .sum, [(.lst xs, _)] => ((intsOf xs).map fun is => (.int is.sum, 9))
  | .min, [(.lst xs, _)] => match intsOf xs, strsOf xs with
    | some (i :: is), _ => some (.int (minI i is), 9)
    | none, some (s :: ss) => some (.str (minS s ss), 9)
    | _, _ => none
  | .min, [(.tup xs, _)] => match strsOf xs with
    | some (s :: ss) => some (.str (minS s ss), 9)
    | _ => none
  | .max, [(.lst xs, _)] => match intsOf xs with
    | some (i :: is) => some (.int (maxI i is), 9)
    | _ => none
  | .lzip, [(d, _), (e, _)] => (sq2 d).bind fun xs => (sq2 e).bind fun ys => go (mdepL xs = 0 ∧ mdepL ys = 0) (some (.lst ((xs.zip ys).map fun p => .tup [p.1, p.2]), 9))
  | .setlen, [(.lst xs, _)] => (strsOf xs).bind fun ss => if ss.length + 1 < 4096 then some (.int (dst ss.reverse : Nat), 9) else none
  | .setlen, [(.tup xs, _)] => (strsOf xs).bind fun ss => if ss.length + 1 < 4096 then some (.int (dst ss.reverse : Nat), 9) else none
  | .maxs, [(.lst xs, _)] => match strsOf xs with
    | some (s :: ss) => some (.str (maxS s ss), 9)
    | _ => none
  | .maxd, [(.lst xs, _)] => match intsOf xs with
    | some (i :: is) => some (.int (maxI i is), 9)
    | some [] => some (.int 0, 9)
    | _ => none
  | .min, [(.int i, _), (.int j, _)] => some (.int (if j < i then j else i), 9)
  | .max, [(.int i, _), (.int j, _)] => some (.int (if i < j then j else i), 9)
  | .sorted, [(.lst xs, _)] => (strsOf xs).map fun ss => (.lst ((ss.mergeSort leS).map .str), 9)
  | .sorted, [(.dct ks _, _)] => (strsOf ks).map fun ss => (.lst ((ss.mergeSort leS).map .str), 9)
  | .str, [(.int i, _)] => go (i.natAbs.log2 < 1920) (some (.str (codesOfInt i), 9))
  | .int, [(.int i, _)] => some (.int i, 9)
  | .int, [(.bl b, _)] => some (.int (if b then 1 else 0), 9)
  | .bool, [(.int i, _)] => some (.bl (i != 0), 9)
  | .bool, [(.bl b, _)] => some (.bl b, 9)
  | .ord, [(.str [c], _)] => some (.int c, 9)
  | .list, [(.str s, _)] => go (s.length ≤ SZ) (some (.lst (s.map fun c => .str [c]), 9))
  | .list, [(.tup xs, _)] => some (.lst xs, lv1 xs)
  | .list, [(.lst xs, _)] => some (.lst xs, lv1 xs)
  | .list, [(.dct ks _, _)] => some (.lst ks, lv1 ks)
  | .dict, [(.dct ks vs, _)] => some (.dct ks vs, lv1 vs)
  | .dict, [(.lst xs, _ + 1)] => (pairD xs).bind fun p => go (keysU p.1 = true) (some (.dct p.1 p.2, lv1 p.2))
  | .list, [(.scr ns, _)] => some (.lst (ns.map .int), lv1 (ns.map .int))
  | .tuple, [(.lst xs, _)] => go (mdepL xs = 0) (some (.tup xs, 9))
  | .tuple, [(.tup xs, n)] => some (.tup xs, n)
  | _, _ => none
def methD : Me → D × Nat → List (D × Nat) → Option (D × Nat)
  | .join, (.str s, _), [(d, _)] => ((seqOf d).bind fun xs => (strsOf xs).bind fun ps => if (ps.map (·.length)).sum + ps.length * s.length ≤ SZ then some (.str (TL.joinL s ps), 9) else none)
  | .split, (.str s, _), [(.str p, _)] => go (p ≠ [] ∧ p.all (· < 256) = true ∧ s.length + 2 ≤ SZ) (some (.lst ((TL.spl p 0 [] s).map .str), 9))
  | .partition, (.str s, _), [(.str p, _)] => go (p ≠ [] ∧ s.length ≤ SZ) (match TL.par p [] s with
    | some (a, b) => some (.tup [.str a, .str p, .str b], 9)
    | none => some (.tup [.str s, .str [], .str []], 9))
  | .replace, (.str s, _), [(.str [p], _), (.str [q], _)] => go (2 * s.length + 1 ≤ SZ ∧ p < 1114112 ∧ q < 1114112) (some (.str (s.map fun c => if c = p then q else c), 9))
  | .find, (.str s, _), [(.str p, _)] => go (p ≠ []) (some (.int (match findC p 0 s with | some k => (k : Int) | none => -1), 9))
  | .find, (.str s, _), [(.str p, _), (.int i, _)] => go (p ≠ [] ∧ 0 ≤ i ∧ i ≤ s.length) (some (.int (match findC p i.toNat (s.drop i.toNat) with | some k => (k : Int) | none => -1), 9))
  | .lstrip, (.str s, _), [(.str [p], _)] => go (s.length ≤ SZ) (some (.str (s.dropWhile (· == p)), 9))
  | .strip, (.str s, _), [(.str [p], _)] => go (s.length ≤ SZ) (some (.str ((s.dropWhile (· == p)).reverse.dropWhile (· == p)).reverse, 9))
  | .isalpha, (.str s, _), [] => some (.bl (Txt.isalpha (mkS s)), 9)
  | .rstrip, (.str s, _), [(.str [p], _)] => go (s.length ≤ SZ) (some (.str (s.reverse.dropWhile (· == p)).reverse, 9))
  | .index, (.lst xs, _), [(.str s, _)] => ((strsOf xs).bind fun ss => (ss.findIdx? (· == s)).map fun k => (.int k, 9))
  | .count, (.lst xs, _), [(.str s, _)] => match strsOf xs with
    | some ss => some (.int (ss.count s), 9)
    | none => go (eqOkL xs = true) (some (.int ((xs.countP fun y => pyEq y (.str s)) : Nat), 9))
  | .get, (.dct ks vs, _), [(k, _)] => go ((vKey k).isSome = true) (some (match (ks.zip vs).find? fun p => pyEq p.1 k with | some p => (p.2.unfz, 0) | none => (.non, 9)))
  | .get, (.dct ks vs, _), [(k, _), (d, n)] => go ((vKey k).isSome = true) (some (match (ks.zip vs).find? fun p => pyEq p.1 k with | some p => (p.2.unfz, 0) | none => (d, n)))
  | _, _, _ => none

def recvOk (m : Me) (d : D) : Bool := match m, d with
  | .index, .lst _ => true
  | .count, .lst _ => true
  | .get, .dct _ _ => true
  | .index, _ => false
  | .count, _ => false
  | .get, _ => false
  | _, .str _ => true
  | _, _ => false
def unpair : List (D × Nat) → Option (List D × List (D × Nat))
  | [] => some ([], [])
  | k :: v :: r => (unpair r).map fun p => (k.1 :: p.1, v :: p.2)
  | _ => none
def keysOk (ks : List D) : Bool := (ks.map vKey).all (·.isSome) && decide ((ks.map vKey).Nodup) && decide (ks.length ≤ 15)
def wrapD (p : D × Nat) : D × Nat := if p.2 = 0 ∧ p.1.mdep ≠ 0 then (.fz p.1, 9) else p
def dispD (ps : List (D × Nat)) : Option (D × Nat) := (unpair ps).bind fun r => go (keysOk r.1 = true) (some (.dct r.1 ((r.2.map wrapD).map (·.1)), lvL (r.2.map wrapD) + 1))
abbrev Env := List (Option (D × Nat))
def norm (p : D × Nat) : D × Nat := if p.1.mdep = 0 then (p.1, 9) else p
def setV (ρ : Env) (i : Nat) (p : D × Nat) : Env := ρ.set i (some (norm p))
def Tg.put (ρ : Env) : Tg → D → Out Env
  | .one i, d => .ok (setV ρ i (d, 0))
  | .tup is, .tup ds => gd (is.length = ds.length) (.ok ((is.zip ds).foldl (fun r p => setV r p.1 (p.2, 0)) ρ))
  | .tup _, _ => .bad
def rangeD (a b : Int) : List D := (List.range (b - a).toNat).map fun k => .int (a + (k : Nat))
def rangeD3 (a b c : Int) : List D := (List.range (if 0 < c then ((b - a + c - 1) / c).toNat else ((a - b + (-c) - 1) / (-c)).toNat)).map fun k => .int (a + (k : Nat) * c)
def rngD : List D → Out (List D)
  | [.int b] => gd (-(2 ^ 62) ≤ b ∧ b < 2 ^ 62) (.ok (rangeD 0 b))
  | [.int a, .int b] => gd (-(2 ^ 62) ≤ a ∧ a < 2 ^ 62 ∧ -(2 ^ 62) ≤ b ∧ b < 2 ^ 62) (.ok (rangeD a b))
  | [.int a, .int b, .int c] => gd (-(2 ^ 61) ≤ a ∧ a < 2 ^ 61 ∧ -(2 ^ 61) ≤ b ∧ b < 2 ^ 61 ∧ c ≠ 0 ∧ c.natAbs < 1073741824) (.ok (rangeD3 a b c))
  | _ => .bad
def enumD (xs : List D) : List D := (xs.zipIdx).map fun p => .tup [.int (p.2 : Nat), p.1]
def zipD (xs ys : List D) : List D := (xs.zip ys).map fun p => .tup [p.1, p.2]
structure Glo where
  gv : Nat → Option D
  cm : Nat → List Nat
def compL (f : D → Out (Option (D × Nat))) : List D → Out (List (D × Nat))
  | [] => .ok []
  | x :: xs => match f x with
    | .ok (some y) => (compL f xs).bind fun ys => gd (ys.length + 1 ≤ SZ) (.ok (y :: ys))
    | .ok none => compL f xs
    | _ => .bad
section
variable (G : Glo) (cf : Runs)
mutual
def ev (ρ : Env) : C → Out (D × Nat)
  | .cst d => .ok (d, 9)
  | .var i => .of ((ρ[i]?).bind id |>.map fun p => (p.1, 0))
  | .glb g => .of ((G.gv g).map fun d => (d, 9))
  | .bin o a b => (ev ρ a).bind fun x => (ev ρ b).bind fun y => .of (binD o x y)
  | .cmp o a b => (ev ρ a).bind fun x => (ev ρ b).bind fun y => (Out.of (cmpD o x.1 y.1)).bind fun r => .ok (.bl r, 9)
  | .chn o p a b c => (ev ρ a).bind fun x => (ev ρ b).bind fun y => (Out.of (cmpD o x.1 y.1)).bind fun r => if r = true then (ev ρ c).bind fun z => (Out.of (cmpD p y.1 z.1)).bind fun q => .ok (.bl q, 9) else .ok (.bl false, 9)
  | .not a => (ev ρ a).bind fun x => (Out.of (truth x.1)).bind fun b => .ok (.bl (!b), 9)
  | .neg a => (ev ρ a).bind fun x => match x.1 with | .int i => .ok (.int (-i), 9) | _ => .bad
  | .and a b => (ev ρ a).bind fun x => (Out.of (truth x.1)).bind fun r => if r = true then ev ρ b else .ok x
  | .or a b => (ev ρ a).bind fun x => (Out.of (truth x.1)).bind fun r => if r = true then .ok x else ev ρ b
  | .ife t a b => (ev ρ t).bind fun x => (Out.of (truth x.1)).bind fun r => if r = true then ev ρ a else ev ρ b
  | .tup es => (evs ρ es).bind fun ps => gd (ps.length ≤ SZ) (.ok (.tup (ps.map (·.1)), lvL ps))
  | .lst es => (evs ρ es).bind fun ps => gd (ps.length ≤ SZ) (.ok (.lst (ps.map (·.1)), lvL ps + 1))
  | .dct _ es => (evs ρ es).bind fun ps => .of (dispD ps)
  | .sub a i => (ev ρ a).bind fun x => (ev ρ i).bind fun y => .of (subD x.1 y.1)
  | .slc a lo hi => (ev ρ a).bind fun x => (evo ρ lo).bind fun l => (evo ρ hi).bind fun h => .of (slcD x.1 l h)
  | .rev a => (ev ρ a).bind fun x => match x.1 with | .str s => gd (s.length ≤ SZ) (.ok (.str s.reverse, 9)) | _ => .bad
  | .rvl a => (ev ρ a).bind fun x => .of ((lsqOf x.1).map fun xs => (.lst xs.reverse, lv1 xs.reverse))
  | .cal f es => (evs ρ es).bind fun ps => cf f (ps.map (·.1))
  | .bif f es => (evs ρ es).bind fun ps => .of (bifD f ps)
  | .mth m o es => (ev ρ o).bind fun x => gd (recvOk m x.1 = true) ((evs ρ es).bind fun ps => .of (methD m x ps))
  | .fld a f => (ev ρ a).bind fun x => match x.1 with | .ins c fs vs => gd (98 ≤ c ∧ c < 100) (.of ((lookD f fs vs).map (·, 0))) | _ => .bad
  | .isi a k => (ev ρ a).bind fun x => gd (isiOk x.1 k = true) (.ok (.bl (isaD G.cm x.1 k), 9))
  | .lc it tg t e => (ev ρ it).bind fun x => (Out.of (itemsOf x.1)).bind fun xs =>
      (compL (fun d => (tg.put ρ d).bind fun ρ' => (evt ρ' t).bind fun b => if b = true then (ev ρ' e).bind fun y => .ok (some y) else .ok none) xs).bind fun ps => .ok (.lst (ps.map (·.1)), lvL ps + 1)
  -- what is walked alone
  | .rng es => (evs ρ es).bind fun ps => (rngD (ps.map (·.1))).bind fun xs => .ok (.lst xs, 9)
  | .enu e => (ev ρ e).bind fun x => .of ((lsqOf x.1).map fun xs => (.lst (enumD xs), x.2))
  | .zip a b => (ev ρ a).bind fun x => (ev ρ b).bind fun y => match x.1, y.1 with | .lst xs, .lst ys => .ok (.lst (zipD xs ys), 0) | .lst xs, .tup ys => gd (mdepL ys = 0) (.ok (.lst (zipD xs ys), 0)) | .tup xs, .tup ys => gd (mdepL xs = 0 ∧ mdepL ys = 0) (.ok (.lst (zipD xs ys), 0)) | _, _ => .bad
  | .itm e => (ev ρ e).bind fun x => match x.1 with | .dct ks vs => .ok (.lst (zipD ks vs), if x.1.mdep ≤ x.2 then 9 else 0) | _ => .bad
  | .kys e => (ev ρ e).bind fun x => match x.1 with | .dct ks vs => .ok (.lst ks, if x.1.mdep ≤ x.2 then 9 else 0) | _ => .bad
  | .rvs e => (ev ρ e).bind fun x => match x.1 with | .lst xs => .ok (.lst xs.reverse, 0) | _ => .bad
def evs (ρ : Env) : List C → Out (List (D × Nat))
  | [] => .ok []
  | e :: es => (ev ρ e).bind fun x => (evs ρ es).bind fun xs => .ok (x :: xs)
def evo (ρ : Env) : Option C → Out (Option Int)
  | none => .ok none
  | some e => (ev ρ e).bind fun x => match x.1 with | .int i => .ok (some i) | _ => .bad
def evt (ρ : Env) : Option C → Out Bool
  | none => .ok true
  | some c => (ev ρ c).bind fun x => .of (truth x.1)
end
end
end Vy

namespace Vy
open PySem PySem.Spec
open PyProof.Rows hiding St
open L2

structure Root where
  d : D
  n : Nat
  v : V
  O : List Addr
  Z : List Addr
abbrev Slots := List (Option Root)
def envOf (S : Slots) : Env := S.map (·.map fun r => (r.d, r.n))

section
variable (K : PySem.W.Frag) (CA : Nat → Addr)
structure SRep (S : Slots) (σ : St) (H : Hp) : Prop where
  len : S.length = σ.length
  rep : ∀ (i : Nat) (r : Root), S[i]? = some (some r) → σ[i]? = some (some r.v) ∧ Rep K CA H r.n r.d r.v r.O r.Z
def Nod (S : Slots) (is : List Nat) (a : Addr) : Prop := ∃ i ∈ is, ∃ r : Root, S[i]? = some (some r) ∧ a ∈ r.O ++ r.Z
structure PVal (M : Addr → Prop) (H H' : Hp) (d : D) (n : Nat) (v : V) (O Z : List Addr) : Prop where
  same : Same H H'
  rep : Rep K CA H' n d v O Z
  fresh : ∀ a ∈ O, H a = none
  nd : O.Nodup
  zin : ∀ a ∈ Z, H a = none ∨ M a
  zo : ∀ a ∈ Z, a ∉ O
def ExRep (e : Exn) (cls : Value) (dd : Option Addr) (H : Hp) : Prop :=
  cls = .ref (CA e.c) ∧ ((e.fs = [] ∧ e.vs = [] ∧ dd = none) ∨ ∃ dx ys, dd = some dx ∧ H dx = some (.xd ((e.fs.map mkS).zip ys).reverse) ∧ (e.fs.length = ys.length ∧ e.fs.Nodup) ∧ Reps K CA H 0 e.vs ys [] [])
def Den (W : WX) (M : Addr → Prop) (o : Out (D × Nat)) (σ : St) (H : Hp) (Q : VK) : Prop :=
  match o with
  | .ok p => ∀ v H' O Z, PVal K CA M H H' p.1 p.2 v O Z → Q v H'
  | .exc e => ∀ cls dd H', Same H H' → ExRep K CA e cls dd H' → W cls dd σ H'
  | .bad => False
end
section
variable {K : PySem.W.Frag} {CA : Nat → Addr} {S : Slots} {σ : St} {H H0 H1 H2 H' : Hp} {W : WX} {M M' Ma : Addr → Prop} {d : D} {n : Nat} {v : V} {O Z : List Addr}
theorem SRep.same (r : SRep K CA S σ H) (s : Same H H') : SRep K CA S σ H' := ⟨r.len, fun i q e => ⟨(r.rep i q e).1, (r.rep i q e).2.same s⟩⟩
theorem Nod.mono {is js : List Nat} (h : ∀ i ∈ is, i ∈ js) {a : Addr} : Nod S is a → Nod S js a := fun ⟨i, hi, r, e, q⟩ => ⟨i, h i hi, r, e, q⟩
theorem same_none (s : Same H H') {a : Addr} (h : H' a = none) : H a = none := Same.free s h
theorem PVal.mono (h : ∀ a, M a → M' a) (p : PVal K CA M H H' d n v O Z) : PVal K CA M' H H' d n v O Z := ⟨p.same, p.rep, p.fresh, p.nd, fun a q => (p.zin a q).imp id (h a), p.zo⟩
theorem PVal.later (p : PVal K CA M H H1 d n v O Z) (s : Same H1 H2) : PVal K CA M H H2 d n v O Z := ⟨p.same.trans s, p.rep.same s, p.fresh, p.nd, p.zin, p.zo⟩
theorem PVal.ahead (s : Same H H1) (p : PVal K CA M H1 H2 d n v O Z) : PVal K CA M H H2 d n v O Z := ⟨s.trans p.same, p.rep, fun a h => same_none s (p.fresh a h), p.nd, fun a q => (p.zin a q).imp (same_none s) id, p.zo⟩
theorem PVal.imm (s : Same H H') (r : Rep K CA H' n d v [] []) : PVal K CA M H H' d n v [] [] := ⟨s, r, by simp, by simp, by simp, by simp⟩
theorem PVal.low (p : PVal K CA M H H' d n v O Z) {m : Nat} (h : m ≤ n) : ∃ O' Z', PVal K CA M H H' d m v O' Z' ∧ Low O Z O' Z' := by
  obtain ⟨O', Z', r, l⟩ := p.rep.low h
  refine ⟨O', Z', ⟨p.same, r, fun a q => p.fresh a (l.own a q), l.nd p.nd, fun a q => ?_, l.zo p.nd p.zo⟩, l⟩
  exact (l.all a q).elim (fun z => .inl (p.fresh a z)) (p.zin a)
theorem PVal.at0 (p : PVal K CA M H H' d n v O Z) : ∃ Z', PVal K CA M H H' d 0 v [] Z' := by
  obtain ⟨O', Z', q, _⟩ := p.low (Nat.zero_le _)
  have := q.rep.zero
  subst this
  exact ⟨Z', q⟩
theorem Den.seq {x : Out (D × Nat)} {f : D × Nat → Out (D × Nat)} {Q Q1 : VK} (s : Same H0 H1) (h : Den K CA W M (x.bind f) σ H0 Q)
    (k : ∀ p v H2 O Z, x = .ok p → PVal K CA Ma H1 H2 p.1 p.2 v O Z → Den K CA W M (f p) σ H0 Q → Q1 v H2) : Den K CA W Ma x σ H1 Q1 := by
  cases x with
  | ok p => exact fun v H2 O Z pv => k p v H2 O Z rfl pv h
  | exc e => exact fun cls dd H' s' r => h cls dd H' (s.trans s') r
  | bad => exact h
theorem Den.pass {x : Out (D × Nat)} {Q : VK} (s : Same H0 H1) (m : ∀ a, Ma a → M a) (h : Den K CA W M x σ H0 Q) : Den K CA W Ma x σ H1 Q := by
  cases x with
  | ok p => exact fun v H2 O Z pv => h v H2 O Z ((pv.mono m).ahead s)
  | exc e => exact fun cls dd H' s' r => h cls dd H' (s.trans s') r
  | bad => exact h
theorem Den.of {α : Type} {x : Option α} {f : α → Out (D × Nat)} {Q : VK} (h : Den K CA W M ((Out.of x).bind f) σ H Q) : ∃ a, x = some a ∧ Den K CA W M (f a) σ H Q := by
  cases x with
  | none => exact h.elim
  | some a => exact ⟨a, rfl, h⟩
theorem Den.gd {c : Prop} [Decidable c] {x : Out (D × Nat)} {Q : VK} (h : Den K CA W M (gd c x) σ H Q) : c ∧ Den K CA W M x σ H Q := by
  unfold Vy.gd at h; split at h
  · exact ⟨by assumption, h⟩
  · exact h.elim
theorem Den.val {p : D × Nat} {Q : VK} (h : Den K CA W M (.ok p) σ H Q) (s : Same H H') {v : V} (r : Rep K CA H' p.2 p.1 v [] []) : Q v H' := h v H' [] [] (.imm s r)
theorem Den.ofv {o : Option (D × Nat)} {Q : VK} (h : Den K CA W M (Out.of o) σ H Q) : ∃ p, o = some p ∧ Den K CA W M (.ok p) σ H Q := by
  cases o with
  | none => exact h.elim
  | some a => exact ⟨a, rfl, h⟩
end

mutual
def names : C → List Nat
  | .cst _ => []
  | .var i => [i]
  | .glb _ => []
  | .bin _ a b => names a ++ names b
  | .cmp _ a b => names a ++ names b
  | .chn _ _ a b c => names a ++ (names b ++ names c)
  | .not a => names a
  | .neg a => names a
  | .and a b => names a ++ names b
  | .or a b => names a ++ names b
  | .ife t a b => names t ++ (names a ++ names b)
  | .tup es => namesL es
  | .lst es => namesL es
  | .dct ks es => namesL es ++ namesL ks
  | .sub a i => names a ++ names i
  | .slc a lo hi => names a ++ (namesO lo ++ namesO hi)
  | .rev a => names a
  | .rvl a => names a
  | .cal _ es => namesL es
  | .bif _ es => namesL es
  | .mth _ o es => names o ++ namesL es
  | .fld a _ => names a
  | .isi a _ => names a
  | .lc it _ t e => names it ++ (namesO t ++ names e)
  | .rng es => namesL es
  | .enu e => names e
  | .zip a b => names a ++ names b
  | .itm e => names e
  | .kys e => names e
  | .rvs e => names e
def namesL : List C → List Nat
  | [] => []
  | e :: es => names e ++ namesL es
def namesO : Option C → List Nat
  | none => []
  | some e => names e
end

theorem PE.weak {X : Cx} {e : Expr} {t t' : TE} (h : PE X e t) (w : ∀ σ H Q, t' σ H Q → t σ H Q) : PE X e t' := ⟨fun pins s σ H Q I q => h.run pins s σ H Q I (w σ H Q q)⟩
theorem PT.weak {X : Cx} {e : Expr} {t t' : TT} (h : PT X e t) (w : ∀ σ H Q, t' σ H Q → t σ H Q) : PT X e t' := ⟨fun pins s σ H Q I q => h.run pins s σ H Q I (w σ H Q q)⟩
theorem PA.weak {X : Cx} {es : List Expr} {t t' : TA} (h : PA X es t) (w : ∀ σ H Q, t' σ H Q → t σ H Q) : PA X es t' := ⟨fun pos pins s σ H Q I q => h.run pos pins s σ H Q I (w σ H Q q)⟩
theorem PS.weak {X : Cx} {e : Stmt} {t t' : TS} (h : PS X e t) (w : ∀ D σ H, t' D σ H → t D σ H) : PS X e t' := ⟨fun pins s σ H D I q => h.run pins s σ H D I (w D σ H q)⟩
theorem PSs.weak {X : Cx} {e : List Stmt} {t t' : TS} (h : PSs X e t) (w : ∀ D σ H, t' D σ H → t D σ H) : PSs X e t' := ⟨fun pins s σ H D I q => h.run pins s σ H D I (w D σ H q)⟩
theorem OpR.or {X : Cx} {f : Value → Value → Sem Value} {r r' : R2} (h : OpR X f r) (h' : OpR X f r') : OpR X f (fun x y H Q => r x y H Q ∨ r' x y H Q) :=
  fun pins s σ H x y v u Q I rx ry q => q.elim (h pins s σ H x y v u Q I rx ry) (h' pins s σ H x y v u Q I rx ry)
theorem OpR.weak {X : Cx} {f : Value → Value → Sem Value} {r r' : R2} (h : OpR X f r) (w : ∀ x y H Q, r' x y H Q → r x y H Q) : OpR X f r' :=
  fun pins s σ H x y v u Q I rx ry q => h pins s σ H x y v u Q I rx ry (w _ _ _ _ q)
theorem CallR.or {X : Cx} {f : Value} {r r' : List V → Hp → VK → Prop} (h : CallR X f r) (h' : CallR X f r') : CallR X f (fun x H Q => r x H Q ∨ r' x H Q) :=
  fun pins s σ H vs us Q I rv q => q.elim (h pins s σ H vs us Q I rv) (h' pins s σ H vs us Q I rv)
theorem CallR.weak {X : Cx} {f : Value} {r r' : List V → Hp → VK → Prop} (h : CallR X f r) (w : ∀ x H Q, r' x H Q → r x H Q) : CallR X f r' :=
  fun pins s σ H vs us Q I rv q => h pins s σ H vs us Q I rv (w _ _ _ q)

section
variable {K : PySem.W.Frag} {CA : Nat → Addr} {H : Hp} {n : Nat} {v : V} {O Z : List Addr}
theorem Rep.int_inv {i : Int} (r : Rep K CA H n (.int i) v O Z) : v = .int i ∧ O = [] ∧ Z = [] := by cases r; exact ⟨rfl, rfl, rfl⟩
theorem Rep.str_inv {s : Cs} (r : Rep K CA H n (.str s) v O Z) : v = .str (mkS s) ∧ O = [] ∧ Z = [] ∧ Bd s := by cases r with | str h => exact ⟨rfl, rfl, rfl, h⟩
theorem Rep.bl_inv {b : Bool} (r : Rep K CA H n (.bl b) v O Z) : v = .bl b ∧ O = [] ∧ Z = [] := by cases r; exact ⟨rfl, rfl, rfl⟩
theorem Rep.non_inv (r : Rep K CA H n .non v O Z) : v = .non ∧ O = [] ∧ Z = [] := by cases r; exact ⟨rfl, rfl, rfl⟩
theorem Rep.lst_inv {xs : List D} (r : Rep K CA H n (.lst xs) v O Z) : ∃ a vs O' Z' m, v = .ref a ∧ H a = some (.lst vs) ∧ Reps K CA H m xs vs O' Z' ∧ (∀ b ∈ O', b ∈ O) ∧ (∀ b ∈ Z', b ∈ Z) := by
  cases r with
  | lstO e r => exact ⟨_, _, _, _, _, rfl, e, r, fun b h => List.mem_cons_of_mem _ h, fun b h => h⟩
  | lstZ e r => exact ⟨_, _, _, _, _, rfl, e, r, fun b h => h, fun b h => List.mem_cons_of_mem _ h⟩
theorem Rep.scr_inv {ns : List Int} (r : Rep K CA H n (.scr ns) v O Z) : ∃ a, v = .ref a ∧ SqZ K H a (ns.map V.int) ∧ O = [] ∧ Z = [] := by
  cases r with
  | scr e => exact ⟨_, rfl, e, rfl, rfl⟩
theorem Rep.tup_inv {xs : List D} (r : Rep K CA H n (.tup xs) v O Z) : ∃ a vs, v = .ref a ∧ SqT K H a vs ∧ Reps K CA H n xs vs O Z := by
  cases r with
  | tup e r => exact ⟨_, _, rfl, e, r⟩
theorem Rep.dct_inv {ks xs : List D} (r : Rep K CA H n (.dct ks xs) v O Z) : ∃ a kvs O' Z' m, v = .ref a ∧ Rd H a (.dK kvs) ∧ KeyOk ks kvs ∧ Reps K CA H m xs (kvs.map (·.2)) O' Z' ∧ (∀ b ∈ O', b ∈ O) ∧ (∀ b ∈ Z', b ∈ Z) := by
  cases r with
  | dctO e e1 r => exact ⟨_, _, _, _, _, rfl, .inl e, e1, r, fun b h => List.mem_cons_of_mem _ h, fun b h => h⟩
  | dctZ e e1 r => exact ⟨_, _, _, _, _, rfl, e, e1, r, fun b h => h, fun b h => List.mem_cons_of_mem _ h⟩
theorem Rep.un0 {H : Hp} {d : D} {v : V} {Z : List Addr} (r : Rep K CA H 0 d v [] Z) : Rep K CA H 0 d.unfz v [] Z := by
  cases d <;> first | exact r | exact r.unfz.2.2
theorem Reps.zeroed {m : Nat} {ds : List D} {vs : List V} (r : Reps K CA H m ds vs O Z) : ∃ Z', Reps K CA H 0 ds vs [] Z' ∧ ∀ a ∈ Z', a ∈ O ∨ a ∈ Z := by
  obtain ⟨O', Z', r', l⟩ := r.low (Nat.zero_le _)
  have := r'.zero
  subst this
  exact ⟨Z', r', l.all⟩
end
theorem mdepL_append (xs ys : List D) : mdepL (xs ++ ys) = max (mdepL xs) (mdepL ys) := by
  induction xs with
  | nil => simp [mdepL]
  | cons x r ih => simp only [List.cons_append, mdepL, ih]; omega
theorem mdepL_mem {xs : List D} {d : D} (h : d ∈ xs) : d.mdep ≤ mdepL xs := by
  induction xs with
  | nil => cases h
  | cons x r ih =>
    rw [mdepL]
    rcases List.mem_cons.mp h with rfl | h
    · omega
    · have := ih h; omega
theorem mdepL_le {xs : List D} {m : Nat} (h : ∀ d ∈ xs, d.mdep ≤ m) : mdepL xs ≤ m := by
  induction xs with
  | nil => simp [mdepL]
  | cons x r ih =>
    rw [mdepL]
    have h1 := h x (by simp)
    have h2 := ih fun d hd => h d (by simp [hd])
    omega
@[simp] theorem mdepL_strs (ss : List Cs) : mdepL (ss.map D.str) = 0 := Nat.le_zero.mp (mdepL_le fun d h => by
  obtain ⟨s, _, rfl⟩ := List.mem_map.mp h; simp [D.mdep])
end Vy

namespace Vy
open PySem PySem.Spec
open PyProof.Rows hiding St
open L2

theorem SZ_eq : sizeLine = SZ := sizeLine_eq
theorem mkS_len (s : Cs) : (mkS s).length = s.length := by simp [mkS, Str.length]
theorem mkS_tl (s : Cs) : (mkS s).cps.toList = s := by simp [mkS]
theorem mkS_app (s t : Cs) : mkS s ++ mkS t = mkS (s ++ t) := TL.ext_tl (by rw [TL.tl_append]; simp [mkS])
theorem mkS_of (x : Str) : mkS x.cps.toList = x := TL.mk_tl x
theorem mkS_inj {s t : Cs} (h : mkS s = mkS t) : s = t := by
  have := congrArg (fun x : Str => x.cps.toList) h
  simpa [mkS] using this
theorem mkS_beq (s t : Cs) : (mkS s == mkS t) = (s == t) := by
  rw [Bool.eq_iff_iff]; simp only [beq_iff_eq]
  exact ⟨mkS_inj, fun h => by rw [h]⟩
theorem Bd.app {s t : Cs} (h : Bd s) (k : Bd t) : Bd (s ++ t) := fun c q => (List.mem_append.mp q).elim (h c) (k c)
theorem Bd.nil : Bd [] := fun c h => by cases h

mutual
def toPy : D → PyData
  | .bl b => .bool b
  | .int i => .int i
  | .str s => .str (mkS s)
  | .tup xs => .tuple (toPyL xs)
  | .lst xs => .list (toPyL xs)
  | _ => .none
def toPyL : List D → List PyData
  | [] => []
  | d :: r => toPy d :: toPyL r
end
mutual
theorem toPy_depth : ∀ d, eqOk d = true → (toPy d).depth = d.dep
  | .non, _ => rfl
  | .bl _, _ => rfl
  | .int _, _ => rfl
  | .str _, _ => rfl
  | .tup xs, h => by simp only [toPy, PyData.depth, D.dep]; rw [toPyL_depth xs (by simpa [eqOk] using h)]
  | .lst xs, h => by simp only [toPy, PyData.depth, D.dep]; rw [toPyL_depth xs (by simpa [eqOk] using h)]
  | .dct _ _, h => by simp [eqOk] at h
  | .ins _ _ _, h => by simp [eqOk] at h
  | .cls _, h => by simp [eqOk] at h
  | .scr _, h => by simp [eqOk] at h
theorem toPyL_depth : ∀ ds, eqOkL ds = true → PyData.depthAll (toPyL ds) = depL ds
  | [], _ => rfl
  | d :: r, h => by
    have h : eqOk d = true ∧ eqOkL r = true := by simpa [eqOkL] using h
    simp only [toPyL, PyData.depthAll, depL]
    rw [toPy_depth d h.1, toPyL_depth r h.2]
end
mutual
theorem toPy_eqv : ∀ d e, eqOk d = true → eqOk e = true → PyData.eqv (toPy d) (toPy e) = pyEq d e
  | .non, e, _, h => by cases e <;> first | rfl | (simp [eqOk] at h)
  | .bl _, e, _, h => by cases e <;> first | rfl | (simp [eqOk] at h)
  | .int _, e, _, h => by cases e <;> first | rfl | (simp [eqOk] at h)
  | .str s, e, _, h => by
    cases e with
    | str t => simp only [toPy, PyData.eqv, pyEq]; exact mkS_beq s t
    | _ => first | rfl | (simp [eqOk] at h)
  | .tup xs, e, h, k => by
    cases e with
    | tup ys => simp only [toPy, PyData.eqv, pyEq]; exact toPyL_eqv xs ys (by simpa [eqOk] using h) (by simpa [eqOk] using k)
    | _ => first | rfl | (simp [eqOk] at k)
  | .lst xs, e, h, k => by
    cases e with
    | lst ys => simp only [toPy, PyData.eqv, pyEq]; exact toPyL_eqv xs ys (by simpa [eqOk] using h) (by simpa [eqOk] using k)
    | _ => first | rfl | (simp [eqOk] at k)
  | .dct _ _, _, h, _ => by simp [eqOk] at h
  | .ins _ _ _, _, h, _ => by simp [eqOk] at h
  | .cls _, _, h, _ => by simp [eqOk] at h
  | .scr _, _, h, _ => by simp [eqOk] at h
theorem toPyL_eqv : ∀ ds es, eqOkL ds = true → eqOkL es = true → PyData.eqvAll (toPyL ds) (toPyL es) = pyEqL ds es
  | [], [], _, _ => rfl
  | [], _ :: _, _, _ => rfl
  | _ :: _, [], _, _ => rfl
  | d :: r, e :: q, h, k => by
    have h : eqOk d = true ∧ eqOkL r = true := by simpa [eqOkL] using h
    have k : eqOk e = true ∧ eqOkL q = true := by simpa [eqOkL] using k
    simp only [toPyL, PyData.eqvAll, pyEqL]
    rw [toPy_eqv d e h.1 k.1, toPyL_eqv r q h.2 k.2]
end
section
variable {K : PySem.W.Frag} {CA : Nat → Addr} {H : Hp}
mutual
theorem Rep.dp : ∀ {n d v O Z}, Rep K CA H n d v O Z → eqOk d = true → Dp K H v (toPy d) ∧ (toPy d).canLay0 = true
  | _, _, _, _, _, .non, _ => ⟨.non, rfl⟩
  | _, _, _, _, _, .bl _, _ => ⟨.bl _, rfl⟩
  | _, _, _, _, _, .int _, _ => ⟨.int _, rfl⟩
  | _, .str s, _, _, _, .str b, _ => ⟨.str _, by
      show PyData.strOk (mkS s) = true
      unfold PyData.strOk
      rw [Array.all_eq_true_iff_forall_mem]
      intro c hc
      have hc : c ∈ s := by simpa [mkS] using hc
      simpa using b c hc⟩
  | _, _, _, _, _, .cls _, h => by simp [eqOk] at h
  | _, _, _, _, _, .scr _, h => by simp [eqOk] at h
  | _, _, _, _, _, .tup e r, h => let ⟨a, b⟩ := r.dp (by simpa [eqOk] using h); ⟨.tup e a, by simpa [toPy, PyData.canLay0] using b⟩
  | _, _, _, _, _, .lstO e r, h => let ⟨a, b⟩ := r.dp (by simpa [eqOk] using h); ⟨.lst (.of e) a, by simpa [toPy, PyData.canLay0] using b⟩
  | _, _, _, _, _, .lstZ e r, h => let ⟨a, b⟩ := r.dp (by simpa [eqOk] using h); ⟨.lst (.of e) a, by simpa [toPy, PyData.canLay0] using b⟩
  | _, _, _, _, _, .dctO _ _ _, h => by simp [eqOk] at h
  | _, _, _, _, _, .dctZ _ _ _, h => by simp [eqOk] at h
  | _, _, _, _, _, .insO _ _ _, h => by simp [eqOk] at h
  | _, _, _, _, _, .insZ _ _ _, h => by simp [eqOk] at h
theorem Reps.dp : ∀ {n ds vs O Z}, Reps K CA H n ds vs O Z → eqOkL ds = true → DpAll K H vs (toPyL ds) ∧ PyData.canLayAll0 (toPyL ds) = true
  | _, _, _, _, _, .nil, _ => ⟨.nil, rfl⟩
  | _, d :: r, _, _, _, .cons q s, h => by
    have h : eqOk d = true ∧ eqOkL r = true := by simpa [eqOkL] using h
    obtain ⟨a, b⟩ := q.dp h.1
    obtain ⟨a', b'⟩ := s.dp h.2
    exact ⟨.cons a a', by simp [toPyL, PyData.canLayAll0, b, b']⟩
end
end
section
variable {X : Cx} {CA : Nat → Addr} {W : WX} {σ0 : St}
def r2 (X : Cx) (CA : Nat → Addr) (W : WX) (σ0 : St) (f : D × Nat → D × Nat → Option (D × Nat)) : R2 := fun x y H2 Q => ∃ H M p q Ox Zx Oy Zy,
  PVal X.K CA M H H2 p.1 p.2 x Ox Zx ∧ PVal X.K CA M H H2 q.1 q.2 y Oy Zy ∧ Den X.K CA W M (Out.of (f p q)) σ0 H Q
def cmpV (o : CO) (p q : D × Nat) : Option (D × Nat) := (cmpD o p.1 q.1).map fun r => (.bl r, 9)
theorem cmp_as (o : CO) (p q : D × Nat) : ((Out.of (cmpD o p.1 q.1)).bind fun r => Out.ok (D.bl r, 9)) = Out.of (cmpV o p q) := by
  unfold cmpV; cases cmpD o p.1 q.1 <;> rfl
def isDct : D → Bool
  | .dct _ _ => true
  | _ => false
def eqV (p q : D × Nat) : Option (D × Nat) := (go (eqOk p.1 = true ∧ eqOk q.1 = true ∧ min p.1.dep q.1.dep ≤ 60) (some (pyEq p.1 q.1))).map fun r => (.bl r, 9)
def neV (p q : D × Nat) : Option (D × Nat) := (go (eqOk p.1 = true ∧ eqOk q.1 = true ∧ min p.1.dep q.1.dep ≤ 60) (some (!pyEq p.1 q.1))).map fun r => (.bl r, 9)
theorem cmp_eqV {p q : D × Nat} (h : (isDct p.1 && isDct q.1) = false) : cmpV .eq p q = eqV p q := by
  obtain ⟨d, n⟩ := p
  obtain ⟨e, m⟩ := q
  unfold cmpV eqV
  cases d <;> cases e <;> first | rfl | cases h
theorem cmp_neV {p q : D × Nat} (h : (isDct p.1 && isDct q.1) = false) : cmpV .ne p q = neV p q := by
  obtain ⟨d, n⟩ := p
  obtain ⟨e, m⟩ := q
  unfold cmpV neV
  cases d <;> cases e <;> first | rfl | cases h
theorem op_eqG {k : Nat} (hr : Room k X.A) : OpR X (compareOp .Eq) (r2 X CA W σ0 eqV) := by
  intro pins s σ H x y v u Q I rx ry h
  obtain ⟨H0, M, p, q, Ox, Zx, Oy, Zy, pv, pw, hd⟩ := h
  obtain ⟨r, e, hd⟩ := Den.ofv hd
  obtain ⟨b, e', rfl⟩ := Option.map_eq_some_iff.mp e
  obtain ⟨⟨h1, h2, h3⟩, e⟩ := go_some (show go _ _ = _ from e')
  cases e
  obtain ⟨d1, c1⟩ := pv.rep.dp h1
  obtain ⟨d2, c2⟩ := pw.rep.dp h2
  obtain ⟨as, r1⟩ := Dp.reads I _ x v d1 rx
  obtain ⟨bs, r2⟩ := Dp.reads I _ y u d2 ry
  refine SeqAt.compareEq_reads r1 r2 c1 c2 (by rw [toPy_depth _ h1, toPy_depth _ h2]; have := hr.units; omega) ?_
  rw [toPy_eqv _ _ h1 h2]
  exact ⟨.bl _, H, I, rfl, hd.val pv.same (.bl _)⟩
theorem op_neG {k : Nat} (hr : Room k X.A) : OpR X (compareOp .NotEq) (r2 X CA W σ0 neV) := by
  intro pins s σ H x y v u Q I rx ry h
  obtain ⟨H0, M, p, q, Ox, Zx, Oy, Zy, pv, pw, hd⟩ := h
  obtain ⟨r, e, hd⟩ := Den.ofv hd
  obtain ⟨b, e', rfl⟩ := Option.map_eq_some_iff.mp e
  obtain ⟨⟨h1, h2, h3⟩, e⟩ := go_some (show go _ _ = _ from e')
  cases e
  obtain ⟨d1, c1⟩ := pv.rep.dp h1
  obtain ⟨d2, c2⟩ := pw.rep.dp h2
  obtain ⟨as, r1⟩ := Dp.reads I _ x v d1 rx
  obtain ⟨bs, r2⟩ := Dp.reads I _ y u d2 ry
  refine SeqAt.compareNe_reads r1 r2 c1 c2 (by rw [toPy_depth _ h1, toPy_depth _ h2]; have := hr.units; omega) ?_
  rw [toPy_eqv _ _ h1 h2]
  exact ⟨.bl _, H, I, rfl, hd.val pv.same (.bl _)⟩
theorem OpR.weak' {f : Value → Value → Sem Value} {g : D × Nat → D × Nat → Option (D × Nat)} {r : R2} (h : OpR X f r)
    (w : ∀ (d e : D) (n m : Nat) x y H0 H (M : Addr → Prop) Ox Zx Oy Zy (z : D × Nat) (Q : VK), PVal X.K CA M H0 H d n x Ox Zx → PVal X.K CA M H0 H e m y Oy Zy → g (d, n) (e, m) = some z → Den X.K CA W M (.ok z) σ0 H0 Q → r x y H Q) : OpR X f (r2 X CA W σ0 g) := by
  intro pins s σ H x y v u Q I rx ry h'
  obtain ⟨H0, M, ⟨d, n⟩, ⟨e, m⟩, Ox, Zx, Oy, Zy, pv, pw, hd⟩ := h'
  obtain ⟨z, e', hd⟩ := Den.ofv hd
  exact h pins s σ H x y v u Q I rx ry (w d e n m x y H0 H M Ox Zx Oy Zy z Q pv pw e' hd)
theorem op_lt' : OpR X (compareOp .Lt) (r2 X CA W σ0 (cmpV .lt)) := by
  refine OpR.weak' (OpR.or op_lt op_lt_str) fun d e n m x y H0 H M Ox Zx Oy Zy z Q pv pw hz hd => ?_
  obtain ⟨b, e', rfl⟩ := Option.map_eq_some_iff.mp hz
  cases d <;> cases e <;> first | (cases e'; done) | skip
  · cases e'; obtain ⟨rfl, _⟩ := pv.rep.int_inv; obtain ⟨rfl, _⟩ := pw.rep.int_inv
    exact .inl ⟨_, _, rfl, rfl, hd.val pv.same (.bl _)⟩
  · cases e'; obtain ⟨rfl, _⟩ := pv.rep.str_inv; obtain ⟨rfl, _⟩ := pw.rep.str_inv
    exact .inr ⟨_, _, rfl, rfl, hd.val pv.same (.bl _)⟩
theorem op_le' : OpR X (compareOp .LtE) (r2 X CA W σ0 (cmpV .le)) := by
  refine OpR.weak' (OpR.or op_le op_le_str) fun d e n m x y H0 H M Ox Zx Oy Zy z Q pv pw hz hd => ?_
  obtain ⟨b, e', rfl⟩ := Option.map_eq_some_iff.mp hz
  cases d <;> cases e <;> first | (cases e'; done) | skip
  · cases e'; obtain ⟨rfl, _⟩ := pv.rep.int_inv; obtain ⟨rfl, _⟩ := pw.rep.int_inv
    exact .inl ⟨_, _, rfl, rfl, hd.val pv.same (.bl _)⟩
  · cases e'; obtain ⟨rfl, _⟩ := pv.rep.str_inv; obtain ⟨rfl, _⟩ := pw.rep.str_inv
    exact .inr ⟨_, _, rfl, rfl, hd.val pv.same (.bl _)⟩
theorem op_gt' : OpR X (compareOp .Gt) (r2 X CA W σ0 (cmpV .gt)) := by
  refine OpR.weak' (OpR.or op_gt op_gt_str) fun d e n m x y H0 H M Ox Zx Oy Zy z Q pv pw hz hd => ?_
  obtain ⟨b, e', rfl⟩ := Option.map_eq_some_iff.mp hz
  cases d <;> cases e <;> first | (cases e'; done) | skip
  · cases e'; obtain ⟨rfl, _⟩ := pv.rep.int_inv; obtain ⟨rfl, _⟩ := pw.rep.int_inv
    exact .inl ⟨_, _, rfl, rfl, hd.val pv.same (.bl _)⟩
  · cases e'; obtain ⟨rfl, _⟩ := pv.rep.str_inv; obtain ⟨rfl, _⟩ := pw.rep.str_inv
    exact .inr ⟨_, _, rfl, rfl, hd.val pv.same (.bl _)⟩
theorem op_ge' : OpR X (compareOp .GtE) (r2 X CA W σ0 (cmpV .ge)) := by
  refine OpR.weak' (OpR.or op_ge op_ge_str) fun d e n m x y H0 H M Ox Zx Oy Zy z Q pv pw hz hd => ?_
  obtain ⟨b, e', rfl⟩ := Option.map_eq_some_iff.mp hz
  cases d <;> cases e <;> first | (cases e'; done) | skip
  · cases e'; obtain ⟨rfl, _⟩ := pv.rep.int_inv; obtain ⟨rfl, _⟩ := pw.rep.int_inv
    exact .inl ⟨_, _, rfl, rfl, hd.val pv.same (.bl _)⟩
  · cases e'; obtain ⟨rfl, _⟩ := pv.rep.str_inv; obtain ⟨rfl, _⟩ := pw.rep.str_inv
    exact .inr ⟨_, _, rfl, rfl, hd.val pv.same (.bl _)⟩

theorem findC_iff (sub : Cs) : ∀ (s : Cs) (k : Nat), (findC sub k s).isSome = true ↔ ∃ i, i ≤ s.length ∧ sub <+: s.drop i
  | [], k => by
    unfold findC
    constructor
    · intro h
      split at h
      · rename_i e; exact ⟨0, Nat.le_refl _, by rw [e]; exact List.nil_prefix⟩
      · cases h
    · rintro ⟨i, hi, h⟩
      have : sub = [] := by simpa using h
      rw [if_pos this]; rfl
  | c :: r, k => by
    unfold findC
    constructor
    · intro h
      split at h
      · rename_i e; exact ⟨0, Nat.zero_le _, List.isPrefixOf_iff_prefix.mp e⟩
      · obtain ⟨i, hi, q⟩ := (findC_iff sub r (k + 1)).mp h
        exact ⟨i + 1, by simpa using hi, by simpa using q⟩
    · rintro ⟨i, hi, h⟩
      split
      · rfl
      · rename_i e
        cases i with
        | zero => exact absurd (List.isPrefixOf_iff_prefix.mpr (by simpa using h)) e
        | succ j => exact (findC_iff sub r (k + 1)).mpr ⟨j, by simpa using hi, by simpa using h⟩
theorem pre_prefix (S l : Cs) : TL.pre S l = true ↔ S <+: l := by
  unfold TL.pre
  rw [beq_iff_eq, List.prefix_iff_eq_take]
  exact eq_comm
theorem subAt_iff (x y : Str) (i : Nat) : (i + y.length ≤ x.length ∧ Builtin.Str.subAt x y i = true) ↔ (i ≤ x.length ∧ y.cps.toList <+: x.cps.toList.drop i) := by
  by_cases hy : TL.tl y = []
  · have e : y = mkS [] := TL.ext_tl (by rw [hy]; rfl)
    subst e
    have h0 : (mkS []).length = 0 := mkS_len []
    rw [h0, Nat.add_zero]
    refine and_congr_right fun h => ⟨fun _ => by simp [mkS], fun _ => ?_⟩
    simp [Builtin.Str.subAt, mkS, Str.length]; omega
  · have := TL.at_iff (x := x) hy i
    rw [pre_prefix] at this
    constructor
    · intro h
      exact ⟨by omega, this.mp h⟩
    · intro h
      exact this.mpr h.2
theorem in_findC (s t : Cs) : (!(Builtin.Str.occurrences (mkS t) (mkS s) 0 (mkS t).length 1).isEmpty) = (findC s 0 t).isSome := by
  rw [Bool.eq_iff_iff, StrLaws.found_iff, findC_iff]
  constructor
  · rintro ⟨i, h⟩
    obtain ⟨a, b⟩ := (subAt_iff _ _ i).mp h
    exact ⟨i, by rwa [mkS_len] at a, by simpa [mkS] using b⟩
  · rintro ⟨i, a, b⟩
    exact ⟨i, (subAt_iff _ _ i).mpr ⟨by rwa [mkS_len], by simpa [mkS] using b⟩⟩
theorem any_py (d : D) (hd : eqOk d = true) : ∀ ys, eqOkL ys = true → (toPyL ys).any (fun z => PyData.eqv z (toPy d)) = ys.any (fun y => pyEq y d)
  | [], _ => rfl
  | y :: r, h => by
    have h : eqOk y = true ∧ eqOkL r = true := by simpa [eqOkL] using h
    simp only [toPyL, List.any_cons]
    rw [toPy_eqv y d h.1 hd, any_py d hd r h.2]
def rInA (K : PySem.W.Frag) (CA : Nat → Addr) (neg : Bool) : R2 := fun x y H Q => ∃ d e n m Ox Zx Oy Zy b, Rep K CA H n d x Ox Zx ∧ Rep K CA H m e y Oy Zy ∧ (match e with | .lst _ => True | .tup _ => True | _ => False) ∧ inD d e = some b ∧ Q (.bl (if neg then !b else b)) H
theorem op_inA {k : Nat} (hr : Room k X.A) : OpR X (compareOp .In) (rInA X.K CA false) := by
  intro pins s σ H x y v u Q I rx ry ⟨d, e, n, m, Ox, Zx, Oy, Zy, b, r1, r2, hm, hb, q⟩
  cases e <;> first | exact hm.elim | skip
  all_goals
    rename_i ys
    obtain ⟨⟨h1, h2, h3⟩, e⟩ := go_some (show go _ _ = _ from hb)
    cases e
    obtain ⟨d1, c1⟩ := r1.dp h1
    obtain ⟨d2, c2⟩ := r2.dp (by simpa [eqOk] using h2)
    obtain ⟨as, q1⟩ := Dp.reads I _ x v d1 rx
    obtain ⟨bs, q2⟩ := Dp.reads I _ y u d2 ry
    simp only [toPy] at q2 c2
  · refine SeqAt.in_tuple_reads q2 q1 (by simpa [PyData.canLay0] using c2) c1 (by rw [toPyL_depth _ h2, toPy_depth _ h1]; have := hr.units; omega) ?_
    rw [any_py d h1 ys h2]
    exact ⟨.bl _, H, I, rfl, q⟩
  · refine SeqAt.in_list_reads q2 q1 (by simpa [PyData.canLay0] using c2) c1 (by rw [toPyL_depth _ h2, toPy_depth _ h1]; have := hr.units; omega) ?_
    rw [any_py d h1 ys h2]
    exact ⟨.bl _, H, I, rfl, q⟩
theorem op_notInA {k : Nat} (hr : Room k X.A) : OpR X (compareOp .NotIn) (rInA X.K CA true) := by
  intro pins s σ H x y v u Q I rx ry ⟨d, e, n, m, Ox, Zx, Oy, Zy, b, r1, r2, hm, hb, q⟩
  cases e <;> first | exact hm.elim | skip
  all_goals
    rename_i ys
    obtain ⟨⟨h1, h2, h3⟩, e⟩ := go_some (show go _ _ = _ from hb)
    cases e
    obtain ⟨d1, c1⟩ := r1.dp h1
    obtain ⟨d2, c2⟩ := r2.dp (by simpa [eqOk] using h2)
    obtain ⟨as, q1⟩ := Dp.reads I _ x v d1 rx
    obtain ⟨bs, q2⟩ := Dp.reads I _ y u d2 ry
    simp only [toPy] at q2 c2
  · refine SeqAt.notIn_tuple_reads q2 q1 (by simpa [PyData.canLay0] using c2) c1 (by rw [toPyL_depth _ h2, toPy_depth _ h1]; have := hr.units; omega) ?_
    rw [any_py d h1 ys h2]
    exact ⟨.bl _, H, I, rfl, q⟩
  · refine SeqAt.notIn_list_reads q2 q1 (by simpa [PyData.canLay0] using c2) c1 (by rw [toPyL_depth _ h2, toPy_depth _ h1]; have := hr.units; omega) ?_
    rw [any_py d h1 ys h2]
    exact ⟨.bl _, H, I, rfl, q⟩
end
end Vy

namespace Vy
open PySem PySem.Spec
open PyProof.Rows hiding St
open L2

theorem vKey_kV {k : D} {κ : Key} (h : vKey k = some κ) {K : PySem.W.Frag} {CA : Nat → Addr} {H : Hp} {n : Nat} {v : V} {O Z : List Addr} (r : Rep K CA H n k v O Z) : v = kV κ := by
  cases k <;> first | (cases h; done) | skip
  · cases h; exact r.int_inv.1
  · cases h; exact r.str_inv.1
theorem vKey_eq {j k : D} {κ κ' : Key} (h : vKey j = some κ') (h' : vKey k = some κ) : pyEq j k = decide (κ' = κ) := by
  cases j <;> first | (cases h; done) | skip
  · cases k <;> first | (cases h'; done) | skip
    · cases h; cases h'; rw [key_ll]; rfl
    · cases h; cases h'; rw [key_lr]; rfl
  · cases k <;> first | (cases h'; done) | skip
    · cases h; cases h'; rw [key_rl]; rfl
    · cases h; cases h'; rw [key_rr]; rename_i s t; show (s == t) = _; rw [← mkS_beq]; (rw [Bool.eq_iff_iff]; simp)
theorem valV_cons {κ κ' : Key} {v : V} {r : List (Key × V)} : valV ((κ', v) :: r) κ = if κ' = κ then some v else valV r κ := by
  unfold valV
  rw [List.find?_cons]
  by_cases h : κ' = κ <;> simp [h]
section
variable {K : PySem.W.Frag} {CA : Nat → Addr} {H : Hp}
theorem dct_find {k : D} {κ : Key} (hk : vKey k = some κ) {n : Nat} : ∀ {ks ds : List D} {kvs : List (Key × V)} {O Z : List Addr}, ks.map vKey = kvs.map (fun p => some p.1) → Reps K CA H n ds (kvs.map (·.2)) O Z →
    (∀ p, (ks.zip ds).find? (fun p => pyEq p.1 k) = some p → ∃ v O1 Z1, valV kvs κ = some v ∧ Rep K CA H n p.2 v O1 Z1 ∧ (∀ a ∈ O1, a ∈ O) ∧ ∀ a ∈ Z1, a ∈ Z) ∧
    ((ks.zip ds).find? (fun p => pyEq p.1 k) = none → valV kvs κ = none) ∧ ks.any (fun j => pyEq j k) = (valV kvs κ).isSome := by
  intro ks
  induction ks with
  | nil =>
    intro ds kvs O Z e r
    cases kvs with
    | nil => exact ⟨fun p h => by simp at h, fun _ => rfl, rfl⟩
    | cons _ _ => simp at e
  | cons j ks ih =>
    intro ds kvs O Z e r
    cases kvs with
    | nil => simp at e
    | cons q kvs =>
      obtain ⟨κ', v⟩ := q
      simp only [List.map_cons, List.cons.injEq] at e
      rw [List.map_cons] at r
      cases r with
      | @cons _ d _ ds' _ O1 Z1 O2 Z2 r1 r2 =>
        have ee := vKey_eq e.1 hk
        rw [valV_cons]
        by_cases hc : κ' = κ
        · rw [if_pos hc]
          have e1 : pyEq j k = true := by rw [ee]; exact decide_eq_true hc
          refine ⟨fun p h => ?_, fun h => ?_, ?_⟩
          · simp only [List.zip_cons_cons, List.find?_cons, e1] at h
            cases h
            exact ⟨v, O1, Z1, rfl, r1, fun a q => List.mem_append_left _ q, fun a q => List.mem_append_left _ q⟩
          · simp [List.zip_cons_cons, List.find?_cons, e1] at h
          · simp [e1]
        · rw [if_neg hc]
          have e1 : pyEq j k = false := by rw [ee]; exact decide_eq_false hc
          obtain ⟨a, b, c⟩ := ih e.2 r2
          refine ⟨fun p h => ?_, fun h => ?_, ?_⟩
          · simp only [List.zip_cons_cons, List.find?_cons, e1] at h
            obtain ⟨v, P, Y, h1, h2, h3, h4⟩ := a p h
            exact ⟨v, P, Y, h1, h2, fun a q => List.mem_append_right _ (h3 a q), fun a q => List.mem_append_right _ (h4 a q)⟩
          · simp only [List.zip_cons_cons, List.find?_cons, e1] at h
            exact b h
          · simp only [List.any_cons, e1, Bool.false_or]; exact c
end
section
variable {X : Cx} {CA : Nat → Addr} {W : WX} {σ0 : St}
theorem eqOk_mem : ∀ {ws : List D}, eqOkL ws = true → ∀ {d : D}, d ∈ ws → eqOk d = true
  | w :: ws, h, d, hd => by
    have h : eqOk w = true ∧ eqOkL ws = true := by simpa [eqOkL] using h
    rcases List.mem_cons.mp hd with z | z
    · rw [z]; exact h.1
    · exact eqOk_mem h.2 z
theorem dct_hits {pins : List (Addr × Obj)} {σ : St} {H : Hp} {s : Shared} {A : Around} {k : Nat} (I : Inv X pins σ H s) (hr : A.units + 150 < cLine) {ls ws : List D} {lvs : List (Key × V)} {lva : List (Key × Value)} {n2 : Nat} {O2 Z2 : List Addr} (hl : ls.map vKey = lvs.map (fun p => some p.1)) (r2 : Reps X.K CA H n2 ws (lvs.map (·.2)) O2 Z2) (hw : eqOkL ws = true) (rb : KV lvs lva) :
    ∀ {ks vs : List D} {kvs : List (Key × V)} {va : List (Key × Value)} {n : Nat} {O Z : List Addr}, ks.map vKey = kvs.map (fun p => some p.1) → Reps X.K CA H n vs (kvs.map (·.2)) O Z → eqOkL vs = true → depL vs ≤ 50 → KV kvs va →
      PySem.W.KeqHits A s lva va ((ks.zip vs).all fun p => match (ls.zip ws).find? fun q => pyEq q.1 p.1 with | some q => pyEq p.2 q.2 | none => false) := by
  intro ks
  induction ks with
  | nil =>
    intro vs kvs va n O Z e r _ _ ra
    cases kvs with
    | nil => unfold KV at ra; cases ra; exact .nil
    | cons _ _ => cases e
  | cons j ks ih =>
    intro vs kvs va n O Z e r hv hd ra
    cases kvs with
    | nil => cases e
    | cons kv kvs =>
      simp only [List.map_cons] at e r
      have hk : vKey j = some kv.1 := (List.cons.inj e).1
      unfold KV at ra
      cases ra with
      | cons rh rt =>
        cases r with
        | cons q1 q2 =>
          rename_i b bs v vs' _ _ _ _
          have hv : eqOk v = true ∧ eqOkL vs' = true := by simpa [eqOkL] using hv
          have hd : v.dep ≤ 50 ∧ depL vs' ≤ 50 := by simp only [depL] at hd; omega
          obtain ⟨f1, f2, _⟩ := dct_find hk hl r2
          have rr := rb.val kv.1
          have tl := ih (List.cons.inj e).2 q2 hv.2 hd.2 rt
          rw [List.zip_cons_cons, List.all_cons]
          obtain ⟨bk, bv⟩ := b
          have hb : bk = kv.1 := rh.1.symm
          subst hb
          simp only
          cases hf : (ls.zip ws).find? fun q => pyEq q.1 j with
          | none =>
            rw [f2 hf] at rr
            have : valueAt lva kv.1 = none := by
              cases ev : valueAt lva kv.1 with
              | none => rfl
              | some u => rw [ev] at rr; exact rr.elim
            exact .miss this
          | some q =>
            obtain ⟨y, O1, Z1, g1, g2, _, _⟩ := f1 q hf
            rw [g1] at rr
            obtain ⟨yv, hy, ry⟩ := rr.some_of
            have hq : eqOk q.2 = true := by
              have hm := List.mem_of_find?_eq_some hf
              exact eqOk_mem hw (List.of_mem_zip (a := q.1) (b := q.2) hm).2
            obtain ⟨d1, c1⟩ := q1.dp hv.1
            obtain ⟨d2, c2⟩ := g2.dp hq
            obtain ⟨as, r1⟩ := Dp.reads I _ _ bv d1 rh.2
            obtain ⟨bs', r2'⟩ := Dp.reads I _ _ yv d2 ry
            refine .hit hy ?_ tl
            have := SeqAt.eqAt_reads (toPy v) (toPy q.2) A s bv yv as bs' r1 r2' c1 c2 (by rw [toPy_depth _ hv.1, toPy_depth _ hq]; omega)
            rwa [toPy_eqv _ _ hv.1 hq] at this
theorem op_eq' {k : Nat} (hr : Room k X.A) : OpR X (compareOp .Eq) (r2 X CA W σ0 (cmpV .eq)) := by
  intro pins s σ H x y v u Q I rx ry h
  obtain ⟨H0, M, p, q, Ox, Zx, Oy, Zy, pv, pw, hd⟩ := h
  cases hb : isDct p.1 && isDct q.1 with
  | false =>
    rw [cmp_eqV hb] at hd
    exact op_eqG hr pins s σ H x y v u Q I rx ry ⟨H0, M, p, q, Ox, Zx, Oy, Zy, pv, pw, hd⟩
  | true =>
    obtain ⟨d, n⟩ := p
    obtain ⟨e, m⟩ := q
    obtain ⟨z, hz, hd⟩ := Den.ofv hd
    cases d <;> first | (cases hb; done) | skip
    cases e <;> first | (cases hb; done) | skip
    obtain ⟨b, e', rfl⟩ := Option.map_eq_some_iff.mp hz
    obtain ⟨⟨h1, h2, h3⟩, e⟩ := go_some (show go _ _ = _ from e')
    cases e
    obtain ⟨a, kvs, _, _, _, rfl, ra, ka, sa, _⟩ := pv.rep.dct_inv
    obtain ⟨b, lvs, _, _, _, rfl, rb, kb, sb, _⟩ := pw.rep.dct_inv
    obtain rfl : v = Value.ref a := rx
    obtain rfl : u = Value.ref b := ry
    obtain ⟨_, ya, va, xa, da⟩ := dk_rd I.hok ra
    obtain ⟨_, yb, vb, xb, db⟩ := dk_rd I.hok rb
    have l1 := congrArg List.length ka.1
    have l2 := congrArg List.length kb.1
    simp only [List.length_map] at l1 l2
    refine PySem.W.keq_eq (knd := mixKind X.prog X.w) ya yb da db (by have := hr.un; omega) (fun _ => dct_hits (k := k) I (by have := hr.un; show X.A.units + 1 + 150 < cLine; omega) kb.1 sb h2 xb ka.1 sa h1 h3 xa) ?_
    refine ⟨.bl _, H, I, ?_, hd.val pv.same (.bl _)⟩
    show Value.bool _ = Value.bool _
    rw [← xa.length, ← xb.length, ← l1, ← l2]; rfl
theorem op_ne' {k : Nat} (hr : Room k X.A) : OpR X (compareOp .NotEq) (r2 X CA W σ0 (cmpV .ne)) := by
  intro pins s σ H x y v u Q I rx ry h
  obtain ⟨H0, M, p, q, Ox, Zx, Oy, Zy, pv, pw, hd⟩ := h
  cases hb : isDct p.1 && isDct q.1 with
  | false =>
    rw [cmp_neV hb] at hd
    exact op_neG hr pins s σ H x y v u Q I rx ry ⟨H0, M, p, q, Ox, Zx, Oy, Zy, pv, pw, hd⟩
  | true =>
    obtain ⟨d, n⟩ := p
    obtain ⟨e, m⟩ := q
    obtain ⟨z, hz, hd⟩ := Den.ofv hd
    cases d <;> first | (cases hb; done) | skip
    cases e <;> first | (cases hb; done) | skip
    obtain ⟨b, e', rfl⟩ := Option.map_eq_some_iff.mp hz
    obtain ⟨⟨h1, h2, h3⟩, e⟩ := go_some (show go _ _ = _ from e')
    cases e
    obtain ⟨a, kvs, _, _, _, rfl, ra, ka, sa, _⟩ := pv.rep.dct_inv
    obtain ⟨b, lvs, _, _, _, rfl, rb, kb, sb, _⟩ := pw.rep.dct_inv
    obtain rfl : v = Value.ref a := rx
    obtain rfl : u = Value.ref b := ry
    obtain ⟨_, ya, va, xa, da⟩ := dk_rd I.hok ra
    obtain ⟨_, yb, vb, xb, db⟩ := dk_rd I.hok rb
    have l1 := congrArg List.length ka.1
    have l2 := congrArg List.length kb.1
    simp only [List.length_map] at l1 l2
    refine PySem.W.keq_ne (knd := mixKind X.prog X.w) ya yb da db (by have := hr.un; omega) (fun _ => dct_hits (k := k) I (by have := hr.un; show X.A.units + 1 + 150 < cLine; omega) kb.1 sb h2 xb ka.1 sa h1 h3 xa) ?_
    refine ⟨.bl _, H, I, ?_, hd.val pv.same (.bl _)⟩
    show Value.bool _ = Value.bool _
    rw [← xa.length, ← xb.length, ← l1, ← l2]; rfl
theorem op_in' {k : Nat} (hr : Room k X.A) : OpR X (compareOp .In) (r2 X CA W σ0 (cmpV .isin)) := by
  have hD : OpR X (compareOp .In) (fun y x H Q => ∃ a o, x = .ref a ∧ DGet H a y o ∧ Q (.bl o.isSome) H) := by
    intro pins s σ H y x v u Q I ry rx ⟨a, o, e, g, q⟩
    subst e
    obtain rfl : u = Value.ref a := rx
    exact d_in (hu_of hr) I g ry fun s3 I3 => ⟨.bl o.isSome, H, I3, rfl, q⟩
  refine OpR.weak' (OpR.or op_in_str (OpR.or (op_inA (CA := CA) hr) hD)) fun d e n m x y H0 H M Ox Zx Oy Zy z Q pv pw hz hd => ?_
  obtain ⟨b, e', rfl⟩ := Option.map_eq_some_iff.mp hz
  have e' : inD d e = some b := e'
  cases e <;> first | (cases e'; done) | skip
  · -- text
    cases d <;> first | (cases e'; done) | skip
    cases e'
    obtain ⟨rfl, _⟩ := pv.rep.str_inv; obtain ⟨rfl, _⟩ := pw.rep.str_inv
    refine .inl ⟨_, _, rfl, rfl, ?_⟩
    rw [in_findC]
    exact hd.val pv.same (.bl _)
  · exact .inr (.inl ⟨_, _, _, _, _, _, _, _, _, pv.rep, pw.rep, trivial, e', hd.val pv.same (.bl _)⟩)
  · exact .inr (.inl ⟨_, _, _, _, _, _, _, _, _, pv.rep, pw.rep, trivial, e', hd.val pv.same (.bl _)⟩)
  · obtain ⟨h1, e⟩ := go_some (show go _ _ = _ from e')
    cases e
    obtain ⟨κ, hk⟩ := Option.isSome_iff_exists.mp h1
    obtain ⟨a, kvs, O', Z', m', rfl, hrd, hko, hrs, _⟩ := pw.rep.dct_inv
    obtain ⟨_, _, h3⟩ := dct_find hk hko.1 hrs
    refine .inr (.inr ⟨a, valV kvs κ, rfl, .inl ⟨kvs, κ, hrd, vKey_kV hk pv.rep, rfl⟩, ?_⟩)
    rw [← h3]
    exact hd.val pv.same (.bl _)
theorem op_notIn' {k : Nat} (hr : Room k X.A) : OpR X (compareOp .NotIn) (r2 X CA W σ0 (cmpV .notin)) := by
  have hD : OpR X (compareOp .NotIn) (fun y x H Q => ∃ a o, x = .ref a ∧ DGet H a y o ∧ Q (.bl (!o.isSome)) H) := by
    intro pins s σ H y x v u Q I ry rx ⟨a, o, e, g, q⟩
    subst e
    obtain rfl : u = Value.ref a := rx
    exact d_notIn (hu_of hr) I g ry fun s3 I3 => ⟨.bl (!o.isSome), H, I3, rfl, q⟩
  refine OpR.weak' (OpR.or L2.op_notIn_str (OpR.or (op_notInA (CA := CA) hr) hD)) fun d e n m x y H0 H M Ox Zx Oy Zy z Q pv pw hz hd => ?_
  obtain ⟨b, e', rfl⟩ := Option.map_eq_some_iff.mp hz
  obtain ⟨b', e'', e3⟩ := Option.bind_eq_some_iff.mp (show (inD d e).bind _ = some b from e')
  cases e3
  have e' : inD d e = some b' := e''
  cases e <;> first | (cases e'; done) | skip
  · cases d <;> first | (cases e'; done) | skip
    cases e'
    obtain ⟨rfl, _⟩ := pv.rep.str_inv; obtain ⟨rfl, _⟩ := pw.rep.str_inv
    refine .inl ⟨_, _, rfl, rfl, ?_⟩
    rw [in_findC]
    exact hd.val pv.same (.bl _)
  · exact .inr (.inl ⟨_, _, _, _, _, _, _, _, _, pv.rep, pw.rep, trivial, e', hd.val pv.same (.bl _)⟩)
  · exact .inr (.inl ⟨_, _, _, _, _, _, _, _, _, pv.rep, pw.rep, trivial, e', hd.val pv.same (.bl _)⟩)
  · obtain ⟨h1, e⟩ := go_some (show go _ _ = _ from e')
    cases e
    obtain ⟨κ, hk⟩ := Option.isSome_iff_exists.mp h1
    obtain ⟨a, kvs, O', Z', m', rfl, hrd, hko, hrs, _⟩ := pw.rep.dct_inv
    obtain ⟨_, _, h3⟩ := dct_find hk hko.1 hrs
    refine .inr (.inr ⟨a, valV kvs κ, rfl, .inl ⟨kvs, κ, hrd, vKey_kV hk pv.rep, rfl⟩, ?_⟩)
    rw [← h3]
    exact hd.val pv.same (.bl _)
theorem op_is' : OpR X (compareOp .Is) (r2 X CA W σ0 (cmpV .is_)) := by
  refine OpR.weak' (OpR.or op_isN op_isBl) fun d e n m x y H0 H M Ox Zx Oy Zy z Q pv pw hz hd => ?_
  obtain ⟨b, e', rfl⟩ := Option.map_eq_some_iff.mp hz
  cases e <;> first | (cases e'; done) | (cases d <;> (cases e'; done)) | skip
  case non =>
    obtain ⟨rfl, _⟩ := pw.rep.non_inv
    refine .inl ⟨rfl, ?_⟩
    have : decide (x = V.non) = b := by
      cases d <;> cases e' <;> (have r := pv.rep; cases r <;> first | rfl | (rename_i hq _ hr; obtain ⟨a, rfl⟩ := hr.ref (by assumption); rfl))
    rw [this]
    exact hd.val pv.same (.bl _)
  case bl c =>
    cases d <;> first | (cases e'; done) | skip
    rename_i a
    cases e'
    obtain ⟨rfl, _⟩ := pv.rep.bl_inv
    obtain ⟨rfl, _⟩ := pw.rep.bl_inv
    exact .inr ⟨_, _, rfl, rfl, hd.val pv.same (.bl _)⟩
theorem op_isnot' : OpR X (compareOp .IsNot) (r2 X CA W σ0 (cmpV .isnot)) := by
  refine OpR.weak' (OpR.or op_notN op_notBl) fun d e n m x y H0 H M Ox Zx Oy Zy z Q pv pw hz hd => ?_
  obtain ⟨b, e', rfl⟩ := Option.map_eq_some_iff.mp hz
  cases e <;> first | (cases e'; done) | (cases d <;> (cases e'; done)) | skip
  case non =>
    obtain ⟨rfl, _⟩ := pw.rep.non_inv
    refine .inl ⟨rfl, ?_⟩
    have : (!decide (x = V.non)) = b := by
      cases d <;> cases e' <;> (have r := pv.rep; cases r <;> first | rfl | (rename_i hq _ hr; obtain ⟨a, rfl⟩ := hr.ref (by assumption); rfl))
    rw [this]
    exact hd.val pv.same (.bl _)
  case bl c =>
    cases d <;> first | (cases e'; done) | skip
    rename_i a
    cases e'
    obtain ⟨rfl, _⟩ := pv.rep.bl_inv
    obtain ⟨rfl, _⟩ := pw.rep.bl_inv
    exact .inr ⟨_, _, rfl, rfl, hd.val pv.same (.bl _)⟩
end
def CO.op : CO → CmpOp
  | .eq => .Eq | .ne => .NotEq | .lt => .Lt | .le => .LtE | .gt => .Gt | .ge => .GtE | .isin => .In | .notin => .NotIn | .is_ => .Is | .isnot => .IsNot
theorem op_cmp {X : Cx} {CA : Nat → Addr} {W : WX} {σ0 : St} {k : Nat} (hr : Room k X.A) : ∀ o : CO, OpR X (compareOp o.op) (r2 X CA W σ0 (cmpV o))
  | .eq => op_eq' hr
  | .ne => op_ne' hr
  | .lt => op_lt'
  | .le => op_le'
  | .gt => op_gt'
  | .ge => op_ge'
  | .isin => op_in' hr
  | .notin => op_notIn' hr
  | .is_ => op_is'
  | .isnot => op_isnot'
end Vy

namespace Vy
open PySem PySem.Spec
open PyProof.Rows hiding St
open L2

section
variable {K : PySem.W.Frag} {CA : Nat → Addr} {H H0 H1 H' : Hp} {M : Addr → Prop} {n : Nat} {v : V} {O Z : List Addr}
theorem PVal.lst_inv {xs : List D} (p : PVal K CA M H H' (.lst xs) n v O Z) : ∃ a vs Z0, v = .ref a ∧ H' a = some (.lst vs) ∧ Reps K CA H' 0 xs vs [] Z0 ∧ ∀ b ∈ Z0, H b = none ∨ M b := by
  obtain ⟨a, vs, O', Z', m, e, h, r, h1, h2⟩ := p.rep.lst_inv
  obtain ⟨Z0, r0, h0⟩ := r.zeroed
  exact ⟨a, vs, Z0, e, h, r0, fun b q => (h0 b q).elim (fun z => .inl (p.fresh b (h1 b z))) fun z => p.zin b (h2 b z)⟩
theorem PVal.tup_inv {xs : List D} (p : PVal K CA M H H' (.tup xs) n v O Z) : ∃ a vs Z0, v = .ref a ∧ SqT K H' a vs ∧ Reps K CA H' 0 xs vs [] Z0 ∧ ∀ b ∈ Z0, H b = none ∨ M b := by
  obtain ⟨a, vs, e, h, r⟩ := p.rep.tup_inv
  obtain ⟨Z0, r0, h0⟩ := r.zeroed
  exact ⟨a, vs, Z0, e, h, r0, fun b q => (h0 b q).elim (fun z => .inl (p.fresh b z)) fun z => p.zin b z⟩
theorem PVal.newList {xs : List D} {vs : List V} {Z0 : List Addr} {p : Addr} (s : Same H H1) (r : Reps K CA H1 0 xs vs [] Z0) (hz : ∀ b ∈ Z0, H b = none ∨ M b) (hp : H1 p = none) :
    ∃ O Z, PVal K CA M H (upd H1 p (.lst vs)) (.lst xs) (lv1 xs) (.ref p) O Z := by
  have k : Same H1 (upd H1 p (.lst vs)) := sameNew hp
  have r' := r.same k
  unfold lv1
  by_cases hm : mdepL xs = 0
  · rw [if_pos hm]
    obtain ⟨_, _, r8⟩ := r'.imm (m := 8) hm
    exact ⟨[p], [], s.trans k, .lstO upd_same r8, fun a q => by simp at q; subst q; exact same_none s hp, by simp, by simp, by simp⟩
  · rw [if_neg hm]
    refine ⟨[p], Z0, s.trans k, .lstO (O := []) upd_same r', fun a q => by simp at q; subst q; exact same_none s hp, by simp, hz, fun a q z => ?_⟩
    simp at z; subst z
    exact (r.there a (by simpa using q)) hp
theorem PVal.newDct {ks xs : List D} {kvs : List (L2.Key × V)} {Z0 : List Addr} {p : Addr} (s : Same H H1) (hk : KeyOk ks kvs) (r : Reps K CA H1 0 xs (kvs.map (·.2)) [] Z0) (hz : ∀ b ∈ Z0, H b = none ∨ M b) (hp : H1 p = none) :
    ∃ O Z, PVal K CA M H (upd H1 p (.dK kvs)) (.dct ks xs) (lv1 xs) (.ref p) O Z := by
  have k : Same H1 (upd H1 p (.dK kvs)) := sameNew hp
  have r' := r.same k
  unfold lv1
  by_cases hm : mdepL xs = 0
  · rw [if_pos hm]
    obtain ⟨_, _, r8⟩ := r'.imm (m := 8) hm
    exact ⟨[p], [], s.trans k, .dctO upd_same hk r8, fun a q => by simp at q; subst q; exact same_none s hp, by simp, by simp, by simp⟩
  · rw [if_neg hm]
    refine ⟨[p], Z0, s.trans k, .dctO (O := []) upd_same hk r', fun a q => by simp at q; subst q; exact same_none s hp, by simp, hz, fun a q z => ?_⟩
    simp at z; subst z
    exact (r.there a (by simpa using q)) hp
theorem PVal.newTup {xs : List D} {vs : List V} {p : Addr} {m : Nat} (s : Same H H1) (r : Reps K CA H1 m xs vs O Z) (hm : mdepL xs = 0) (hp : H1 p = none) :
    PVal K CA M H (upd H1 p (.tup vs)) (.tup xs) 9 (.ref p) [] [] := by
  have k : Same H1 (upd H1 p (.tup vs)) := sameNew hp
  obtain ⟨_, _, r9⟩ := (r.same k).imm (m := 9) hm
  exact .imm (s.trans k) (.tup (.of upd_same) r9)
theorem PVal.newTup0 {xs : List D} {vs : List V} {Z0 : List Addr} {p : Addr} (s : Same H H1) (r : Reps K CA H1 0 xs vs [] Z0) (hz : ∀ b ∈ Z0, H b = none ∨ M b) (hp : H1 p = none) :
    ∃ O Z, PVal K CA M H (upd H1 p (.tup vs)) (.tup xs) (lvt xs) (.ref p) O Z := by
  by_cases hm : mdepL xs = 0
  · exact ⟨_, _, by unfold lvt; rw [if_pos hm]; exact PVal.newTup s r hm hp⟩
  · have k : Same H1 (upd H1 p (.tup vs)) := sameNew hp
    refine ⟨[], Z0, ?_⟩
    unfold lvt
    rw [if_neg hm]
    exact ⟨s.trans k, .tup (.of upd_same) (r.same k), by simp, by simp, hz, by simp⟩
theorem PVal.sameTup {xs : List D} {vs : List V} {Z0 : List Addr} {a : Addr} (s : Same H H1) (r : Reps K CA H1 0 xs vs [] Z0) (hz : ∀ b ∈ Z0, H b = none ∨ M b) (ha : SqT K H1 a vs) :
    ∃ O Z, PVal K CA M H H1 (.tup xs) (lvt xs) (.ref a) O Z := by
  unfold lvt
  by_cases hm : mdepL xs = 0
  · rw [if_pos hm]
    obtain ⟨_, _, r9⟩ := r.imm (m := 9) hm
    exact ⟨_, _, .imm s (.tup ha r9)⟩
  · rw [if_neg hm]
    exact ⟨[], Z0, s, .tup ha r, by simp, by simp, hz, by simp⟩
theorem Reps.take : ∀ {n ds vs O Z} (k : Nat), Reps K CA H n ds vs O Z → ∃ O' Z', Reps K CA H n (ds.take k) (vs.take k) O' Z' ∧ (∀ a ∈ O', a ∈ O) ∧ ∀ a ∈ Z', a ∈ Z
  | _, _, _, _, _, 0, r => ⟨[], [], by simpa using Reps.nil, by simp, by simp⟩
  | _, _, _, _, _, _ + 1, .nil => ⟨[], [], by simpa using Reps.nil, by simp, by simp⟩
  | _, _, _, _, _, k + 1, .cons r s => by
    obtain ⟨O', Z', q, h1, h2⟩ := s.take k
    refine ⟨_, _, by simpa using Reps.cons r q, fun a z => ?_, fun a z => ?_⟩
    · rcases List.mem_append.mp z with z | z
      · simp [z]
      · simp [h1 a z]
    · rcases List.mem_append.mp z with z | z
      · simp [z]
      · simp [h2 a z]
theorem Reps.drop : ∀ {n ds vs O Z} (k : Nat), Reps K CA H n ds vs O Z → ∃ O' Z', Reps K CA H n (ds.drop k) (vs.drop k) O' Z' ∧ (∀ a ∈ O', a ∈ O) ∧ ∀ a ∈ Z', a ∈ Z
  | _, _, _, _, _, 0, r => ⟨_, _, by simpa using r, fun a h => h, fun a h => h⟩
  | _, _, _, _, _, _ + 1, .nil => ⟨[], [], by simpa using Reps.nil, by simp, by simp⟩
  | _, _, _, _, _, k + 1, .cons r s => by
    obtain ⟨O', Z', q, h1, h2⟩ := s.drop k
    exact ⟨_, _, by simpa using q, fun a z => List.mem_append_right _ (h1 a z), fun a z => List.mem_append_right _ (h2 a z)⟩
theorem Reps.rep : ∀ {ds vs Z} (k : Nat), Reps K CA H 0 ds vs [] Z → ∃ Z', Reps K CA H 0 (List.replicate k ds).flatten (List.replicate k vs).flatten [] Z' ∧ ∀ a ∈ Z', a ∈ Z
  | _, _, _, 0, r => ⟨[], by simpa using Reps.nil, by simp⟩
  | _, _, Z, k + 1, r => by
    obtain ⟨Z', q, h⟩ := r.rep k
    refine ⟨Z ++ Z', by simpa [List.replicate_succ] using r.append q, fun a z => ?_⟩
    rcases List.mem_append.mp z with z | z
    · exact z
    · exact h a z
theorem mdepL_rep (k : Nat) (xs : List D) : mdepL (List.replicate k xs).flatten ≤ mdepL xs := mdepL_le fun d h => by
  obtain ⟨l, hl, hd⟩ := List.mem_flatten.mp h
  have := List.eq_of_mem_replicate hl
  subst this
  exact mdepL_mem hd
theorem lv1_rep {k : Nat} {xs : List D} (h : k ≠ 0) : lv1 (List.replicate k xs).flatten = lv1 xs := by
  unfold lv1
  have : mdepL (List.replicate k xs).flatten = mdepL xs := by
    refine Nat.le_antisymm (mdepL_rep k xs) ?_
    cases k with
    | zero => exact absurd rfl h
    | succ k => rw [List.replicate_succ, List.flatten_cons, mdepL_append]; omega
  rw [this]
end
theorem sx_eq (n d : Nat) (o : Option Int) : sx n d o = HT.sIx n d o := by
  cases o with
  | none => rfl
  | some i =>
    unfold sx HT.sIx
    first
    | rfl
    | (simp only; split <;> first | rfl | omega | (split <;> first | rfl | omega))
section
variable {X : Cx} {CA : Nat → Addr} {W : WX} {σ0 : St}
theorem op_mulS : OpR X (binaryOp .Mult) (fun x y H Q => ∃ z i, x = .str z ∧ y = .int i ∧ -(2 ^ 62) ≤ i ∧ i < 2 ^ 62 ∧ z.length * i.toNat ≤ sizeLine ∧ Q (.str (mkS (List.replicate i.toNat z.cps.toList).flatten)) H) := by
  intro pins s σ H x y v u Q I rx ry ⟨z, i, e1, e2, h1, h2, hz, q⟩
  subst e1; subst e2
  obtain ⟨t, rfl⟩ := rx
  obtain ⟨t', rfl⟩ := ry
  have hs : sizeLine = 16777216 := sizeLine_eq
  refine SB.mul ⟨by simp; omega, fun a b => ?_, fun a b => ?_⟩ fun t' k => ?_
  · have hi : (0 : Int) < i := by omega
    have : (z.length : Int) * i ≤ 16777216 := by
      have e : ((z.length * i.toNat : Nat) : Int) = (z.length : Int) * i := by rw [Int.natCast_mul, Int.toNat_of_nonneg (by omega)]
      rw [← e]; omega
    intro hlt
    have h3 : (2 ^ 63 - 1) / i < (z.length : Int) := hlt
    have h4 := (Int.ediv_lt_iff_lt_mul hi).mp h3
    omega
  · unfold Builtin.Str.tooLong
    first
    | (simp; omega)
    | (rw [decide_eq_false]; omega)
  · refine ⟨.str (mkS (List.replicate i.toNat z.cps.toList).flatten), H, I.tok _, ?_, q⟩
    have e : Txt.mul z i = mkS (List.replicate i.toNat z.cps.toList).flatten := by
      unfold Txt.mul
      by_cases h : i < 1
      · rw [if_pos h]
        have : i.toNat = 0 := by omega
        rw [this]; rfl
      · rw [if_neg h]
        have fl : ∀ (m : Nat) (acc : Array Nat), (List.replicate m z.cps).foldl (· ++ ·) acc = acc ++ (List.replicate m z.cps.toList).flatten.toArray := fun m => by
          induction m with
          | zero => intro acc; simp
          | succ m ih => intro acc; rw [List.replicate_succ, List.foldl_cons, ih, List.replicate_succ, List.flatten_cons]; apply Array.toList_inj.mp; simp
        by_cases hc : (i == 1 || z.length == 0) = true
        · rw [if_pos hc]
          apply TL.ext_tl
          show z.cps.toList = (mkS _).cps.toList
          rw [mkS_tl]
          simp only [Bool.or_eq_true, beq_iff_eq] at hc
          rcases hc with hc | hc
          · subst hc; simp
          · have : z.cps.toList = [] := by have := TL.len_tl z; rw [hc] at this; exact List.eq_nil_of_length_eq_zero this.symm
            rw [this]
            induction i.toNat with
            | zero => rfl
            | succ m ih => rw [List.replicate_succ, List.flatten_cons, ← ih]; rfl
        · rw [if_neg hc, fl]; simp [mkS]
    rw [← e]
    exact ⟨_, rfl⟩
end
end Vy

namespace L2
open PySem PySem.Spec PyProof.Rows
theorem tuple_mul1 (l : Addr) (items : Array Value) (n : Nat) (dd : Option Addr) (sl : Array (Option Value)) (u : Tok) :
    Meets (Builtin.«tuple.__mul__» ⟨[.ref l, .int 1 u], []⟩) (fun _ R s => s.heap.get? l = some { cls := .type "tuple", dict := dd, data := .seq items n, slots := sl } ∧ R (.ok (.ret (Value.ref l))) s) :=
  .of_wp fun prog w A R s h => by
    obtain ⟨hp, g, d, tk, os⟩ := s
    obtain ⟨hl, h⟩ := h
    have f1 := AutoSeq1.idx_int
    have c0 : (decide ((1 : Int) < -(2 ^ 63)) || decide ((1 : Int) ≥ 2 ^ 63)) = false := by decide
    have c1 : (items.isEmpty || (1 : Int) == 1) = true := by simp
    wp_walk using wpAny_loadPart' hl
    repeat (first
      | (refine wpAny_ite_false (decide_eq_false (by rw [c0]; exact Bool.false_ne_true)) ?_; wp_walk using wpAny_loadPart' hl)
      | (refine wpAny_ite_true (decide_eq_true c1) ?_; wp_walk using wpAny_loadPart' hl))
    exact ⟨_, rfl, h⟩
theorem tuple_mul0 (l : Addr) (items : Array Value) (n : Nat) (dd : Option Addr) (sl : Array (Option Value)) (u : Tok) (hi : items.isEmpty = false) :
    Meets (Builtin.«tuple.__mul__» ⟨[.ref l, .int 0 u], []⟩) (fun _ R s => s.heap.get? l = some { cls := .type "tuple", dict := dd, data := .seq items n, slots := sl } ∧
      R (.ok (.ret (Value.ref s.heap.objs.size))) { s with heap := s.heap.push { cls := Value.type "tuple", data := Data.seq #[] }, toks := s.toks }) :=
  .of_wp fun prog w A R s h => by
    obtain ⟨hp, g, d, tk, os⟩ := s
    obtain ⟨hl, h⟩ := h
    have f1 := AutoSeq1.idx_int
    have c0 : (decide ((0 : Int) < -(2 ^ 63)) || decide ((0 : Int) ≥ 2 ^ 63)) = false := by decide
    have c1 : (items.isEmpty || (0 : Int) == 1) = false := by rw [hi]; rfl
    have c2 : (decide ((0 : Int) ≤ 0) || items.isEmpty) = true := by simp
    wp_walk using wpAny_loadPart' hl
    repeat (first
      | (refine wpAny_ite_false (decide_eq_false (by rw [c0]; exact Bool.false_ne_true)) ?_; wp_walk using wpAny_loadPart' hl)
      | (refine wpAny_ite_false (decide_eq_false (by rw [c1]; exact Bool.false_ne_true)) ?_; wp_walk using wpAny_loadPart' hl)
      | (refine wpAny_ite_true (decide_eq_true c2) ?_; wp_walk using wpAny_loadPart' hl))
    exact ⟨_, rfl, h⟩
def rRep1 (K : PySem.W.Frag) : R2 := fun x y H Q => ∃ l k xs, x = .ref l ∧ y = .int k ∧ SqT K H l xs ∧ xs ≠ [] ∧ ((k = 1 ∧ Q (.ref l) H) ∨ (k = 0 ∧ ∀ p, H p = none → Q (.ref p) (upd H p (.tup []))))
section
variable {X : Cx}
theorem op_rep1 : OpR X (binaryOp .Mult) (rRep1 X.K) := by
  intro pins s σ H x y v u Q I rx ry h
  obtain ⟨l, k, xs, rfl, rfl, hT, hne, q⟩ := h
  cases rx
  obtain ⟨t, rfl⟩ := ry
  obtain ⟨its, r, ⟨⟨cls, dd, data, sl⟩, ho, hc, n, hd⟩, hs⟩ := I.tuple hT
  simp only at hc hd
  subst hc hd
  have hle : its.length = xs.length := r.length.symm
  have hn : its ≠ [] := fun e => hne (by
    rw [e] at hle
    exact List.eq_nil_of_length_eq_zero hle.symm)
  have hi : its.toArray.isEmpty = false := by
    cases its with
    | nil => exact absurd rfl hn
    | cons a b => rfl
  rcases q with ⟨rfl, q⟩ | ⟨rfl, q⟩
  · exact wpAny_binaryOp_repeat_ref (T := "tuple") (U := "int") (by decide) ⟨_, ho, rfl⟩ (fun s' => typeIs_int s' 1 t) noFill_tuple_mul F.fills_int_mul F.slot_int_rmul repeat_tuple F.slot_int_index.lookup
      (call_meets F.slot_int_rmul (typeIs_int s 1 t) F.entry_int_rmul (F.args_int_rmul_2 _ _) (int_rmul_tuple 1 t l its.toArray n dd sl)
        ⟨ho, rfl, ⟨_, ho, rfl⟩, call_meets F.slot_tuple_mul ⟨_, ho, rfl⟩ F.entry_tuple_mul (F.args_tuple_mul_2 _ _) (tuple_mul1 l its.toArray n dd sl t) ⟨ho, .ref l, H, I, rfl, q⟩⟩)
  · refine wpAny_binaryOp_repeat_ref (T := "tuple") (U := "int") (by decide) ⟨_, ho, rfl⟩ (fun s' => typeIs_int s' 0 t) noFill_tuple_mul F.fills_int_mul F.slot_int_rmul repeat_tuple F.slot_int_index.lookup
      (call_meets F.slot_int_rmul (typeIs_int s 0 t) F.entry_int_rmul (F.args_int_rmul_2 _ _) (int_rmul_tuple 0 t l its.toArray n dd sl)
        ⟨ho, rfl, ⟨_, ho, rfl⟩, call_meets F.slot_tuple_mul ⟨_, ho, rfl⟩ F.entry_tuple_mul (F.args_tuple_mul_2 _ _) (tuple_mul0 l its.toArray n dd sl t hi) ⟨ho, ?_⟩⟩)
    refine ⟨.ref s.heap.objs.size, _, I.laid (t' := s.toks) (o := .tup []) (fun b ob q => Heap.get?_push_of_some _ q) (Nat.le_refl _) ?_, rfl, q _ (I.hok.fresh (Nat.le_refl _))⟩
    exact ⟨by rw [sizeLine_eq, List.length_nil]; omega, _, .nil, IsTup.new _ _⟩
end
end L2

namespace Vy
open PySem PySem.Spec
open PyProof.Rows hiding St
open L2
theorem Reps.ne {K : PySem.W.Frag} {CA : Nat → Addr} {H : Hp} {n : Nat} {ds : List D} {vs : List V} {O Z : List Addr} (r : Reps K CA H n ds vs O Z) : ds = [] ↔ vs = [] := by
  have := r.length
  constructor
  · intro h; subst h; exact List.eq_nil_of_length_eq_zero this.symm
  · intro h; subst h; exact List.eq_nil_of_length_eq_zero this
section
variable {X : Cx} {CA : Nat → Addr} {W : WX} {σ0 : St}
def BO.op : BO → Operator
  | .add => .Add | .sub => .Sub | .mul => .Mult | .fdv => .FloorDiv | .mod => .Mod | .pow => .Pow
theorem Bd.rep {s : Cs} (h : Bd s) (k : Nat) : Bd (List.replicate k s).flatten := fun c q => by
  obtain ⟨l, hl, hc⟩ := List.mem_flatten.mp q
  rw [List.eq_of_mem_replicate hl] at hc
  exact h c hc
theorem op_badd : OpR X (binaryOp .Add) (r2 X CA W σ0 (binD .add)) := by
  refine OpR.weak' (OpR.or op_add (OpR.or op_add_str (OpR.or op_cat op_catA))) fun d e n m x y H0 H M Ox Zx Oy Zy z Q pv pw hz hd => ?_
  cases d <;> first | (cases hz; done) | skip
  all_goals (cases e <;> first | (cases hz; done) | skip)
  · cases hz; obtain ⟨rfl, _⟩ := pv.rep.int_inv; obtain ⟨rfl, _⟩ := pw.rep.int_inv
    exact .inl ⟨_, _, rfl, rfl, hd.val pv.same (.int _)⟩
  · obtain ⟨hl, e⟩ := go_some (show go _ _ = _ from hz)
    cases e
    obtain ⟨rfl, _, _, b1⟩ := pv.rep.str_inv; obtain ⟨rfl, _, _, b2⟩ := pw.rep.str_inv
    refine .inr (.inl ⟨_, _, rfl, rfl, by rw [mkS_len, mkS_len, SZ_eq]; exact hl, ?_⟩)
    rw [mkS_app]
    exact hd.val pv.same (.str (b1.app b2))
  · obtain ⟨hl, e⟩ := go_some (show go _ _ = _ from hz)
    cases e
    obtain ⟨a, vs, Z1, e1, h1, r1, z1⟩ := pv.tup_inv
    obtain ⟨b, ws, Z2, e2, h2, r2, z2⟩ := pw.tup_inv
    refine .inr (.inr (.inr ⟨a, b, vs, ws, e1, e2, h1, h2, by rw [← r1.length, ← r2.length, SZ_eq]; exact hl, fun h => ?_, fun _ h => ?_, fun _ _ p hp => ?_⟩))
    · have := r1.ne.mpr h
      subst this
      obtain ⟨O, Z, pp⟩ := PVal.sameTup pv.same r2 z2 h2
      rw [List.nil_append] at hd
      exact hd _ _ _ _ pp
    · have := r2.ne.mpr h
      subst this
      obtain ⟨O, Z, pp⟩ := PVal.sameTup pv.same r1 z1 h1
      rw [List.append_nil] at hd
      exact hd _ _ _ _ pp
    · obtain ⟨O, Z, pp⟩ := PVal.newTup0 pv.same (r1.append r2) (fun b q => (List.mem_append.mp q).elim (z1 b) (z2 b)) hp
      exact hd _ _ _ _ pp
  · obtain ⟨hl, e⟩ := go_some (show go _ _ = _ from hz)
    cases e
    obtain ⟨a, vs, Z1, e1, h1, r1, z1⟩ := pv.lst_inv
    obtain ⟨b, ws, Z2, e2, h2, r2, z2⟩ := pw.lst_inv
    refine .inr (.inr (.inl ⟨a, b, vs, ws, e1, e2, h1, h2, by rw [← r1.length, ← r2.length, SZ_eq]; exact hl, fun p hp => ?_⟩))
    obtain ⟨O, Z, pp⟩ := PVal.newList pv.same (r1.append r2) (fun b q => (List.mem_append.mp q).elim (z1 b) (z2 b)) hp
    exact hd _ _ _ _ pp
theorem op_bmul : OpR X (binaryOp .Mult) (r2 X CA W σ0 (binD .mul)) := by
  refine OpR.weak' (OpR.or op_mul (OpR.or op_mulS (OpR.or op_rep op_rep1))) fun d e n m x y H0 H M Ox Zx Oy Zy z Q pv pw hz hd => ?_
  cases d <;> first | (cases hz; done) | skip
  all_goals (cases e <;> first | (cases hz; done) | skip)
  · obtain ⟨hl, e⟩ := go_some (show go _ _ = _ from hz)
    cases e
    obtain ⟨rfl, _⟩ := pv.rep.int_inv; obtain ⟨rfl, _⟩ := pw.rep.int_inv
    exact .inl ⟨_, _, rfl, rfl, hl, hd.val pv.same (.int _)⟩
  · obtain ⟨⟨a1, a2, hl⟩, e⟩ := go_some (show go _ _ = _ from hz)
    cases e
    obtain ⟨rfl, _, _, b1⟩ := pv.rep.str_inv; obtain ⟨rfl, _⟩ := pw.rep.int_inv
    refine .inr (.inl ⟨_, _, rfl, rfl, a1, a2, by rw [mkS_len, SZ_eq]; exact hl, ?_⟩)
    rw [mkS_tl]
    exact hd.val pv.same (.str (b1.rep _))
  · obtain ⟨⟨hj, hne⟩, e⟩ := go_some (show go _ _ = _ from hz)
    cases e
    rename_i xs j
    obtain ⟨a, vs, Z1, e1, h1, r1, z1⟩ := pv.tup_inv
    obtain ⟨rfl, _⟩ := pw.rep.int_inv
    refine .inr (.inr (.inr ⟨a, j, vs, e1, rfl, h1, fun e => ?_, ?_⟩))
    · rw [r1.ne.mpr e] at hne
      cases hne
    · rcases hj with rfl | rfl
      · refine .inr ⟨rfl, fun p hp => ?_⟩
        obtain ⟨O, Z, pp⟩ := PVal.newTup0 (M := M) (xs := []) (vs := []) (Z0 := []) pv.same .nil (fun b q => nomatch q) hp
        exact hd _ _ _ _ pp
      · refine .inl ⟨rfl, ?_⟩
        obtain ⟨O, Z, pp⟩ := PVal.sameTup (M := M) pv.same r1 z1 h1
        have e2 : (List.replicate (1 : Int).toNat xs).flatten = xs := by simp
        rw [e2] at hd
        exact hd _ _ _ _ pp
  · obtain ⟨⟨a1, a2, hl⟩, e⟩ := go_some (show go _ _ = _ from hz)
    cases e
    rename_i xs j
    obtain ⟨a, vs, Z1, e1, h1, r1, z1⟩ := pv.lst_inv
    obtain ⟨rfl, _⟩ := pw.rep.int_inv
    refine .inr (.inr (.inl ⟨a, _, vs, e1, rfl, h1, by omega, by omega, by rw [← r1.length, SZ_eq]; exact hl, fun p hp => ?_⟩))
    obtain ⟨Z', r', h'⟩ := r1.rep j.toNat
    obtain ⟨O, Z, pp⟩ := PVal.newList pv.same r' (fun b q => z1 b (h' b q)) hp
    by_cases hj : j.toNat = 0
    · rw [hj] at pp ⊢
      rw [hj] at hd
      have : lv1 (List.replicate 0 xs).flatten = 9 := rfl
      rw [this] at pp
      obtain ⟨O', Z', p', _⟩ := pp.low (m := lv1 xs) (by unfold lv1; split <;> omega)
      exact hd _ _ _ _ p'
    · rw [lv1_rep hj] at pp
      exact hd _ _ _ _ pp
theorem op_bin : ∀ o : BO, OpR X (binaryOp o.op) (r2 X CA W σ0 (binD o))
  | .add => op_badd
  | .mul => op_bmul
  | .sub => by
    refine OpR.weak' op_sub fun d e n m x y H0 H M Ox Zx Oy Zy z Q pv pw hz hd => ?_
    cases d <;> first | (cases hz; done) | skip
    cases e <;> first | (cases hz; done) | skip
    cases hz; obtain ⟨rfl, _⟩ := pv.rep.int_inv; obtain ⟨rfl, _⟩ := pw.rep.int_inv
    exact ⟨_, _, rfl, rfl, hd.val pv.same (.int _)⟩
  | .fdv => by
    refine OpR.weak' op_fdivN fun d e n m x y H0 H M Ox Zx Oy Zy z Q pv pw hz hd => ?_
    cases d <;> first | (cases hz; done) | skip
    cases e <;> first | (cases hz; done) | skip
    obtain ⟨hl, e⟩ := go_some (show go _ _ = _ from hz)
    cases e; obtain ⟨rfl, _⟩ := pv.rep.int_inv; obtain ⟨rfl, _⟩ := pw.rep.int_inv
    exact ⟨_, _, rfl, rfl, hl, hd.val pv.same (.int _)⟩
  | .mod => by
    refine OpR.weak' op_modN fun d e n m x y H0 H M Ox Zx Oy Zy z Q pv pw hz hd => ?_
    cases d <;> first | (cases hz; done) | skip
    cases e <;> first | (cases hz; done) | skip
    obtain ⟨hl, e⟩ := go_some (show go _ _ = _ from hz)
    cases e; obtain ⟨rfl, _⟩ := pv.rep.int_inv; obtain ⟨rfl, _⟩ := pw.rep.int_inv
    exact ⟨_, _, rfl, rfl, hl, hd.val pv.same (.int _)⟩
  | .pow => by
    refine OpR.weak' op_pow fun d e n m x y H0 H M Ox Zx Oy Zy z Q pv pw hz hd => ?_
    cases d <;> first | (cases hz; done) | skip
    cases e <;> first | (cases hz; done) | skip
    obtain ⟨hl, e⟩ := go_some (show go _ _ = _ from hz)
    cases e; obtain ⟨rfl, _⟩ := pv.rep.int_inv; obtain ⟨rfl, _⟩ := pw.rep.int_inv
    exact ⟨_, _, rfl, rfl, hl, hd.val pv.same (.int _)⟩
end

theorem ix_eq (n : Nat) (i : Int) : ix n i = ixN n i := rfl
theorem Reps.atI {K : PySem.W.Frag} {CA : Nat → Addr} {H : Hp} {ds : List D} {vs : List V} {Z : List Addr} {i : Int} {d : D} (r : Reps K CA H 0 ds vs [] Z) (h : at? ds i = some d) :
    ∃ v Z1, L2.atI vs i = some v ∧ Rep K CA H 0 d v [] Z1 ∧ ∀ a ∈ Z1, a ∈ Z := by
  obtain ⟨j, hj, hd⟩ := Option.bind_eq_some_iff.mp h
  obtain ⟨v, Z1, e, q, hz⟩ := r.get0 j d hd
  refine ⟨v, Z1, ?_, q, hz⟩
  show (ixN vs.length i).bind _ = _
  rw [← r.length, ← ix_eq, hj]
  exact e
theorem IxR.weak {X : Cx} {r r' : R2} (h : IxR X r) (w : ∀ x y H Q, r' x y H Q → r x y H Q) : IxR X r' := fun va sl pins s σ H x y v u Q I rx ry q => h va sl pins s σ H x y v u Q I rx ry (w _ _ _ _ q)
theorem IxR.weak' {X : Cx} {CA : Nat → Addr} {W : WX} {σ0 : St} {g : D × Nat → D × Nat → Option (D × Nat)} {r : R2} (h : IxR X r)
    (w : ∀ (d e : D) (n m : Nat) x y H0 H (M : Addr → Prop) Ox Zx Oy Zy (z : D × Nat) (Q : VK), PVal X.K CA M H0 H d n x Ox Zx → PVal X.K CA M H0 H e m y Oy Zy → g (d, n) (e, m) = some z → Den X.K CA W M (.ok z) σ0 H0 Q → r x y H Q) : IxR X (r2 X CA W σ0 g) := by
  intro va sl pins s σ H x y v u Q I rx ry h' hs
  obtain ⟨H0, M, ⟨d, n⟩, ⟨e, m⟩, Ox, Zx, Oy, Zy, pv, pw, hd⟩ := h'
  obtain ⟨z, e', hd⟩ := Den.ofv hd
  exact h va sl pins s σ H x y v u Q I rx ry (w d e n m x y H0 H M Ox Zx Oy Zy z Q pv pw e' hd) hs
def subV (p q : D × Nat) : Option (D × Nat) := subD p.1 q.1
def rIxD : R2 := fun x y H Q => ∃ a v, x = .ref a ∧ DGet H a y (some v) ∧ Q v H
theorem ix_dict {X : Cx} {k : Nat} (hr : Room k X.A) : IxR X rIxD := by
  intro va sl pins s σ H x y v u Q I rx ry ⟨a, w, e, g, q⟩ hs
  subst e
  obtain rfl : v = Value.ref a := rx
  exact tail_any (dict_typeIs I g) PySem.F.slot_dict_getitem.lookup (d_getItem (hu_of hr) I g ry fun w' s3 I3 rw' => ⟨w, H, I3, rw', q⟩) hs
theorem ix_sub {X : Cx} {CA : Nat → Addr} {W : WX} {σ0 : St} {k : Nat} (hr : Room k X.A) : IxR X (r2 X CA W σ0 subV) := by
  refine IxR.weak' (ix_seq.or (ix_dict hr)) fun d e n m x y H0 H M Ox Zx Oy Zy z Q pv pw hz hd => ?_
  have hz : subD d e = some z := hz
  cases d <;> first | (cases hz; done) | skip
  · cases e <;> first | (cases hz; done) | skip
    obtain ⟨hl, e⟩ := go_some (show go _ _ = _ from hz)
    obtain ⟨c, e2, rfl⟩ := Option.map_eq_some_iff.mp e
    obtain ⟨rfl, _, _, b⟩ := pv.rep.str_inv; obtain ⟨rfl, _⟩ := pw.rep.int_inv
    refine .inl (.inr (.inr ⟨_, _, c, rfl, rfl, by rw [mkS_len, SZ_eq]; exact hl, by rw [mkS_tl]; exact e2, ?_⟩))
    have hc : c < 1114112 := by
      obtain ⟨j, _, hj⟩ := Option.bind_eq_some_iff.mp e2
      exact b c (List.mem_of_getElem? hj)
    exact hd.val pv.same (.str (s := [c]) fun a q => by simp at q; subst q; exact hc)
  · cases e <;> first | (cases hz; done) | skip
    obtain ⟨c, e, rfl⟩ := Option.map_eq_some_iff.mp hz
    obtain ⟨a, vs, Z0, e1, h1, r, z0⟩ := pv.tup_inv; obtain ⟨rfl, _⟩ := pw.rep.int_inv
    obtain ⟨v, Z1, q1, q2, q3⟩ := r.atI e
    exact .inl (.inr (.inl ⟨a, vs, _, v, e1, rfl, h1, q1, hd v H [] Z1 ⟨pv.same, q2, by simp, by simp, fun b q => z0 b (q3 b q), by simp⟩⟩))
  · cases e <;> first | (cases hz; done) | skip
    obtain ⟨c, e, rfl⟩ := Option.map_eq_some_iff.mp hz
    obtain ⟨a, vs, Z0, e1, h1, r, z0⟩ := pv.lst_inv; obtain ⟨rfl, _⟩ := pw.rep.int_inv
    obtain ⟨v, Z1, q1, q2, q3⟩ := r.atI e
    exact .inl (.inl ⟨a, vs, _, v, e1, rfl, .of h1, q1, hd v H [] Z1 ⟨pv.same, q2, by simp, by simp, fun b q => z0 b (q3 b q), by simp⟩⟩)
  · obtain ⟨h1, e'⟩ := go_some (show go _ _ = _ from hz)
    obtain ⟨p, e2, rfl⟩ := Option.map_eq_some_iff.mp e'
    obtain ⟨κ, hk⟩ := Option.isSome_iff_exists.mp h1
    obtain ⟨a, kvs, O', Z', m', rfl, hrd, hko, hrs, hO, hZ⟩ := pv.rep.dct_inv
    obtain ⟨h1, _, _⟩ := dct_find hk hko.1 hrs
    obtain ⟨v, O1, Z1, q1, q2, q3, q4⟩ := h1 p e2
    refine .inr ⟨a, v, rfl, .inl ⟨kvs, κ, hrd, vKey_kV hk pw.rep, q1.symm⟩, ?_⟩
    obtain ⟨O2, Z2, q5, l⟩ := q2.low (Nat.zero_le _)
    have := q5.zero
    subst this
    refine hd v H [] Z2 ⟨pv.same, q5.un0, by simp, by simp, fun b q => ?_, by simp⟩
    rcases l.all b q with z | z
    · exact .inl (pv.fresh b (hO b (q3 b z)))
    · exact pv.zin b (hZ b (q4 b z))
  · cases e <;> first | (cases hz; done) | skip
    obtain ⟨c, e, rfl⟩ := Option.map_eq_some_iff.mp hz
    obtain ⟨a, rfl, h1, _⟩ := pv.rep.scr_inv; obtain ⟨rfl, _⟩ := pw.rep.int_inv
    refine .inl (.inl ⟨a, _, _, .int c, rfl, rfl, h1.l, ?_, hd.val pv.same (.int _)⟩)
    obtain ⟨j, hj, hc⟩ := Option.bind_eq_some_iff.mp e
    show (ixN _ _).bind _ = _
    rw [List.length_map, ← ix_eq, hj]
    show (List.map V.int _)[j]? = _
    rw [List.getElem?_map, hc]; rfl

theorem cutV_cut (xs : List V) (lo hi : Option Int) : cutV xs lo hi = cut xs lo hi := by unfold cutV cut; rw [sx_eq, sx_eq]
theorem SlR.or {X : Cx} {r r' : V → Option Int → Option Int → Hp → VK → Prop} (h : SlR X r) (h' : SlR X r') : SlR X fun x l u H Q => r x l u H Q ∨ r' x l u H Q :=
  fun pins s σ H x v vl vu lo hi sl Q I rx hs pl pu q => q.elim (h pins s σ H x v vl vu lo hi sl Q I rx hs pl pu) (h' pins s σ H x v vl vu lo hi sl Q I rx hs pl pu)
theorem SlR.weak {X : Cx} {r r' : V → Option Int → Option Int → Hp → VK → Prop} (h : SlR X r) (w : ∀ x l u H Q, r' x l u H Q → r x l u H Q) : SlR X r' :=
  fun pins s σ H x v vl vu lo hi sl Q I rx hs pl pu q => h pins s σ H x v vl vu lo hi sl Q I rx hs pl pu (w _ _ _ _ _ q)
def rSl (X : Cx) (CA : Nat → Addr) (W : WX) (σ0 : St) : V → Option Int → Option Int → Hp → VK → Prop := fun x lo hi H Q => ∃ (H0 : Hp) (M : Addr → Prop) (p : D × Nat) (Ox Zx : List Addr), PVal X.K CA M H0 H p.1 p.2 x Ox Zx ∧ Den X.K CA W M (Out.of (slcD p.1 lo hi)) σ0 H0 Q
theorem Bd.cut {s : Cs} (h : Bd s) (lo hi : Option Int) : Bd (cut s lo hi) := fun c q => h c (List.mem_of_mem_drop (List.mem_of_mem_take q))
theorem mdepL_sub {xs ys : List D} (h : ∀ d ∈ ys, d ∈ xs) : mdepL ys ≤ mdepL xs := mdepL_le fun d hd => mdepL_mem (h d hd)
theorem lv1_sub {xs ys : List D} (h : ∀ d ∈ ys, d ∈ xs) : lv1 xs ≤ lv1 ys := by
  have := mdepL_sub h
  unfold lv1
  split <;> split <;> omega
theorem sl_all {X : Cx} {CA : Nat → Addr} {W : WX} {σ0 : St} : SlR X (rSl X CA W σ0) := by
  refine SlR.weak (SlR.or sl_list (SlR.or sl_tupA sl_str)) fun x lo hi H Q ⟨H0, M, ⟨d, n⟩, Ox, Zx, pv, hd⟩ => ?_
  obtain ⟨z, hz, hd'⟩ := Den.ofv hd
  replace hd := hd'
  clear hd'
  cases d <;> first | (cases hz; done) | skip
  · rename_i s
    obtain ⟨hl, e⟩ := go_some (show go _ _ = _ from hz)
    cases e
    obtain ⟨rfl, _, _, b⟩ := pv.rep.str_inv
    refine .inr (.inr ⟨_, rfl, by rw [mkS_len, SZ_eq]; exact hl, ?_⟩)
    have e : cutS (mkS s) lo hi = mkS (cut s lo hi) := by
      apply TL.ext_tl
      unfold cutS cut
      simp [mkS, Str.length, sx_eq]
    rw [e]
    exact hd.val pv.same (.str (b.cut _ _))
  · rename_i xs
    cases hz
    obtain ⟨a, vs, Z0, e1, h1, r, z0⟩ := pv.tup_inv
    subst e1
    obtain ⟨O1, Z1, r1, h3, h4⟩ := r.drop (sx xs.length 0 lo)
    obtain ⟨O2, Z2, r2, h5, h6⟩ := r1.take (sx xs.length xs.length hi - sx xs.length 0 lo)
    have : O2 = [] := r2.zero
    subst this
    have hc : cutV vs lo hi = (vs.drop (sx xs.length 0 lo)).take (sx xs.length xs.length hi - sx xs.length 0 lo) := by rw [cutV_cut, cut, ← r.length]
    refine .inr (.inl ⟨a, vs, rfl, h1, fun hw => ?_, fun hw p hp => ?_⟩)
    · rw [← sx_eq, ← sx_eq, ← r.length] at hw
      have e : cut xs lo hi = xs := by unfold cut; rw [hw.1, hw.2]; simp
      rw [e] at hd
      obtain ⟨O, Z, pp⟩ := PVal.sameTup pv.same r z0 h1
      exact hd _ _ _ _ pp
    · rw [hc]
      obtain ⟨O, Z, pp⟩ := PVal.newTup0 pv.same r2 (fun b q => z0 b (h4 b (h6 b q))) hp
      exact hd _ _ _ _ pp
  · rename_i xs
    cases hz
    obtain ⟨a, vs, Z0, e1, h1, r, z0⟩ := pv.lst_inv
    refine .inl ⟨a, vs, e1, .of h1, fun p hp => ?_⟩
    obtain ⟨O1, Z1, r1, h3, h4⟩ := r.drop (sx xs.length 0 lo)
    obtain ⟨O2, Z2, r2, h5, h6⟩ := r1.take (sx xs.length xs.length hi - sx xs.length 0 lo)
    have : O2 = [] := r2.zero
    subst this
    have hc : cutV vs lo hi = (vs.drop (sx xs.length 0 lo)).take (sx xs.length xs.length hi - sx xs.length 0 lo) := by rw [cutV_cut, cut, ← r.length]
    rw [hc]
    obtain ⟨O, Z, pp⟩ := PVal.newList pv.same r2 (fun b q => z0 b (h4 b (h6 b q))) hp
    obtain ⟨O', Z', p', _⟩ := pp.low (m := lv1 xs) (lv1_sub fun d hd => List.mem_of_mem_drop (List.mem_of_mem_take hd))
    exact hd _ _ _ _ p'
  · rename_i ns
    cases hz
    obtain ⟨a, rfl, h1, _⟩ := pv.rep.scr_inv
    refine .inl ⟨a, _, rfl, h1.l, fun p hp => ?_⟩
    have ri : ∀ l : List Int, Reps X.K CA H 0 (l.map D.int) (l.map V.int) [] [] := fun l => by
      induction l with
      | nil => exact .nil
      | cons i r ih => exact Reps.cons (O := []) (Z := []) (.int i) ih
    have hc : cutV (ns.map V.int) lo hi = (cut ns lo hi).map V.int := by
      rw [cutV_cut]; unfold cut; rw [List.length_map, List.map_take, List.map_drop]
    rw [hc]
    have hm : lv1 ((cut ns lo hi).map D.int) = 9 := by
      unfold lv1; rw [if_pos]
      exact Nat.le_zero.mp (mdepL_le fun d h => by obtain ⟨i, _, rfl⟩ := List.mem_map.mp h; simp [D.mdep])
    obtain ⟨O, Z, pp⟩ := PVal.newList pv.same (ri (cut ns lo hi)) (by simp) hp
    rw [hm] at pp
    exact hd _ _ _ _ pp
end Vy

namespace Vy
open PySem PySem.Spec
open PyProof.Rows hiding St
open L2
def CXm (m : Bool) (P : Program) (w : World) : CXT := match m with
  | true => L2N.CX P w
  | false => L2.CX P w
def TkM (m : Bool) (X : Cx) (W : WX) : Prop := match m with
  | true => L2N.Takes X W
  | false => L2.Takes X W
section
variable {m : Bool} {X : Cx} {W W' : WX}
theorem xeN {u : Value} {s' : Shared} (h : L2N.XE X W u s') : L2.XE X W u s' := by
  obtain ⟨a, B, sI, pins, σ, H, cls, d, z1, z2, z3, z4, sk, z5⟩ := h
  refine ⟨a, B, sI, pins, σ, H, cls, d, z1, z2, z3, z4, ?_, z5⟩
  rcases sk with ⟨y1, y2, y3, oe, vs, y4, y5, y6⟩ | y | y
  · exact .inl ⟨y1, y2, y3, oe, vs, y4, y5.zc, y6⟩
  · exact .inr (.inl (L2H.flyingZ_imp (fun _ q => q.zc) y))
  · exact .inr (.inr ⟨y.1, y.2.1, y.2.2.1, L2H.tracedZ_imp (fun _ q => q.zc) y.2.2.2⟩)
theorem TkM.n (t : TkM m X W) : L2N.Takes X W := by
  cases m with
  | true => exact t
  | false => exact fun u s' h => t u s' (xeN h)
theorem TkM.imp (t : TkM m X W) (h : ∀ c d σ H, W' c d σ H → W c d σ H) : TkM m X W' := by
  cases m with
  | true => exact L2N.Takes.imp t h
  | false => exact L2.Takes.imp t h
theorem TkM.pass (t : TkM m X W) (σ : St) : PassesAt (CXm m X.prog X.w) X σ (WE W σ) := by
  cases m with
  | true => exact L2N.passAt t σ
  | false => exact L2.passAt t σ
theorem tkM0 : TkM m X (fun _ _ _ _ => False) := by
  cases m with
  | true => exact fun u s' ⟨_, _, _, _, _, _, _, _, _, _, _, _, _, _, _, _, z⟩ => z.elim
  | false => exact L2.takes0
theorem TkM.of {P : Program} {w : World} {K : PySem.W.Frag} {mg : Str → Option Value} {base : Heap} {N : List Str} {qual : Str} {sc : Scope} {a : Addr} {cdv : Value} {A : Around} {outer : List PySem.Env} {s : Shared} {H : Hp} {E : XK} :
    TkM m (cxOf (CXm m P w) P w K mg base N qual sc a cdv A outer s H E) (fun cls d _ H => E cls d H) := by
  cases m with
  | true => exact L2N.takes_of rfl rfl rfl rfl
  | false => exact L2.takes_of rfl rfl rfl rfl
end
structure YiC (K : PySem.W.Frag) (Y : Addr) (mc : Value) : Prop where
  rd : PySem.W.readsIn K Y mc = true
  ga : PySem.W.specialIn K (.ref Y) "__getattribute__" = some (some (.builtin "type.__getattribute__"))
  vi : PySem.W.findCls K (.ref Y) mc "__init__" = some (.val (.builtin "ValueError.__init__"))
section
variable {X : Cx} {e : Expr} {es : List Expr} {ta : TA} {p p' p1 p2 pos : Pos} {y : Str} {Y : Addr} {mc : Value}
end
def spIni (K : PySem.W.Frag) (C : Addr) (fs : List Str) : Sp := fun vs H Q _ => ∃ (a : Addr) (ys : List V), vs = .ref a :: ys ∧ ys.length = fs.length ∧ OexC K C ∧ (∀ f ∈ fs, PySem.W.findIn K (.ref C) f = some none) ∧ H a = some (exo a C none) ∧
  ∀ dx H2, H dx = none → dx ≠ a → H2 a = some (exo a C (some dx)) → H2 dx = some (exd dx (fs.zip ys).reverse) → (∀ b, b ≠ a → b ≠ dx → H2 b = H b) → Q .non H2
section
variable {P : Program} {w : World} {K : PySem.W.Frag} {mg : Str → Option Value} {base : Heap} {C : Addr} {x qual : Str} {st : Stmt} {fI : Addr} {fd : FuncData} {CX : CXT}
structure IniOk (P : Program) (w : World) (K : PySem.W.Frag) (mg : Str → Option Value) (base : Heap) (C : Addr) (fs : List Str) (fI : Addr) (fd : FuncData) (N : List Str) : Prop where
  calm : FnOk P w K mg base (L2.CX P w) 1 fI fd N (spIni K C fs)
  hot : L2H.FnH P w K mg base (L2.CX P w) 1 fI fd N (spIni K C fs)
end
section
variable {X : Cx} {x : Str} {e : Expr} {es : List Expr} {t : TA} {p pos : Pos} {C : Addr}
theorem mkN_0 {bmB : List Value} {B newId initId : String} (F : ExcBaseFacts B newId initId bmB) (q : PySem.W.excIn X.K C bmB newId = true) (gC : X.mg x = some (.ref C)) (kC : PySem.W.keepIn X.K (.ref C) = true) (r : Raises X (.ref C)) (hg : Gl X x) (ha : PA X (e :: es) t)
    (hdb : (x == ("__debug__" : Str)) = false) (he : starEach (e :: es) X.env = (false, eval e X.env) :: starEach es X.env) (hpl : (backTo pos (starEach es X.env)).any (·.1) = false) :
    L2N.PMk X (.Call (.Name x p) (e :: es) [] pos) (fun σ H Q => t σ H fun vs H1 => vs.length ≤ sizeLine ∧ Q (.ref C) none H1) := fun pins s σ H Q I h =>
  wpAny_Call_Name_kw (ld_glob I hg gC (PySem.W.callWith_K (h₀ := X.base) I.ok.mod.kin kC (thn (ha.run pos pins s σ H _ I h) fun us s1 ⟨vs, H1, I1, r1, hz, q1⟩ => ⟨I1.kIn, by
    obtain ⟨y1, y2, y3, y4, y5, y6, y7, y8, y9, y10, y11, y12, y13, y14, y15, y16, y17, hC, hN, hi, T⟩ := exc_obj I1.kIn q
    show wpAny _ _ (call (.ref C) us) _ _ _
    exact wpAny_call_exc_subT F T hC hN hi (fun h' e hm => L2N.mk_of I1 hm r q1 (I1.hok.gone hm.new)) (by rw [← r1.length]; exact hz)⟩) he hpl) hdb)
theorem raise_m {m : Bool} {W : WX} {t : St → Hp → XK → Prop} (hc : X.calm = true) (tk : TkM m X W) (he : L2N.PMk X e t) : PS X (.Raise (some e) none pos) (fun _ σ H => t σ H fun cls d H' => W cls d σ H') := L2N.ps_raise hc tk.n he
end
end Vy

namespace Vy
open PySem PySem.Spec
open PyProof.Rows hiding St
open L2

section
variable (K : PySem.W.Frag) (CA : Nat → Addr)
inductive PVs (M : Addr → Prop) (H H' : Hp) : List (D × Nat) → List V → List Addr → List Addr → Prop
  | nil : PVs M H H' [] [] [] []
  | cons {p v O Z ps vs O' Z'} : PVal K CA M H H' p.1 p.2 v O Z → PVs M H H' ps vs O' Z' → (∀ a ∈ O', a ∉ O ++ Z) → (∀ a ∈ O, a ∉ Z') → PVs M H H' (p :: ps) (v :: vs) (O ++ O') (Z ++ Z')
def DenL (W : WX) (M : Addr → Prop) (o : Out (List (D × Nat))) (σ : St) (H : Hp) (Q : List V → Hp → Prop) : Prop :=
  match o with
  | .ok ps => ∀ vs H' O Z, Same H H' → PVs K CA M H H' ps vs O Z → Q vs H'
  | .exc e => ∀ cls dd H', Same H H' → ExRep K CA e cls dd H' → W cls dd σ H'
  | .bad => False
end
section
variable {K : PySem.W.Frag} {CA : Nat → Addr} {S : Slots} {σ : St} {H H0 H1 H2 H' : Hp} {W : WX} {M M' Ma : Addr → Prop} {O Z : List Addr} {ps : List (D × Nat)} {vs : List V}
theorem PVs.mono (h : ∀ a, M a → M' a) (p : PVs K CA M H H' ps vs O Z) : PVs K CA M' H H' ps vs O Z := by
  induction p with
  | nil => exact .nil
  | cons q _ a b ih => exact .cons (q.mono h) ih a b
theorem PVs.later (p : PVs K CA M H H1 ps vs O Z) (s : Same H1 H2) : PVs K CA M H H2 ps vs O Z := by
  induction p with
  | nil => exact .nil
  | cons q _ a b ih => exact .cons (q.later s) ih a b
theorem PVs.ahead (s : Same H H1) (p : PVs K CA M H1 H2 ps vs O Z) : PVs K CA M H H2 ps vs O Z := by
  induction p with
  | nil => exact .nil
  | cons q _ a b ih => exact .cons (q.ahead s) ih a b
theorem PVs.fresh (p : PVs K CA M H H' ps vs O Z) : ∀ a ∈ O, H a = none := by
  induction p with
  | nil => simp
  | cons q _ a b ih => exact fun x h => (List.mem_append.mp h).elim (q.fresh x) (ih x)
theorem PVs.zin (p : PVs K CA M H H' ps vs O Z) : ∀ a ∈ Z, H a = none ∨ M a := by
  induction p with
  | nil => simp
  | cons q _ a b ih => exact fun x h => (List.mem_append.mp h).elim (q.zin x) (ih x)
theorem PVs.there (p : PVs K CA M H H' ps vs O Z) : ∀ a ∈ O ++ Z, H' a ≠ none := by
  induction p with
  | nil => simp
  | cons q _ a b ih =>
    intro x h
    simp only [List.mem_append] at h
    rcases h with (h | h) | h | h
    · exact q.rep.there x (by simp [h])
    · exact ih x (by simp [h])
    · exact q.rep.there x (by simp [h])
    · exact ih x (by simp [h])
theorem PVs.nd (p : PVs K CA M H H' ps vs O Z) : O.Nodup := by
  induction p with
  | nil => simp
  | cons q _ a b ih =>
    refine List.nodup_append.mpr ⟨q.nd, ih, fun x hx y hy e => ?_⟩
    subst e
    exact a x hy (by simp [hx])
theorem PVs.zo (p : PVs K CA M H H' ps vs O Z) : ∀ a ∈ Z, a ∉ O := by
  induction p with
  | nil => simp
  | cons q _ a b ih =>
    intro x h z
    rcases List.mem_append.mp h with h | h <;> rcases List.mem_append.mp z with z | z
    · exact q.zo x h z
    · exact a x z (by simp [h])
    · exact b x z h
    · exact ih x h z
theorem PVs.length (p : PVs K CA M H H' ps vs O Z) : ps.length = vs.length := by
  induction p with
  | nil => rfl
  | cons q _ a b ih => simp [ih]
theorem PVs.reps (p : PVs K CA M H H' ps vs O Z) : ∀ m, m ≤ lvL ps → ∃ O' Z', Reps K CA H' m (ps.map (·.1)) vs O' Z' ∧ Low O Z O' Z' := by
  induction p with
  | nil => exact fun m _ => ⟨[], [], .nil, .refl⟩
  | @cons q v O1 Z1 ps vs O2 Z2 pv _ a b ih =>
    intro m hm
    obtain ⟨d, n⟩ := q
    rw [lvL] at hm
    by_cases hd : d.mdep = 0
    · rw [if_pos hd] at hm
      obtain ⟨O', Z', r, l⟩ := ih m hm
      obtain ⟨e1, e2, r1⟩ := pv.rep.imm (m := m) hd
      subst e1; subst e2
      exact ⟨_, _, .cons r1 r, Low.append .refl l⟩
    · rw [if_neg hd] at hm
      obtain ⟨O', Z', r, l⟩ := ih m (by omega)
      obtain ⟨O3, Z3, r1, l1⟩ := pv.rep.low (m := m) (by show m ≤ n; omega)
      exact ⟨_, _, .cons r1 r, Low.append l1 l⟩
theorem PVs.reps0 (p : PVs K CA M H H' ps vs O Z) : ∃ Z', Reps K CA H' 0 (ps.map (·.1)) vs [] Z' ∧ ∀ a ∈ Z', H a = none ∨ M a := by
  obtain ⟨O', Z', r, l⟩ := p.reps 0 (Nat.zero_le _)
  have := r.zero
  subst this
  exact ⟨Z', r, fun a h => (l.all a h).elim (fun z => .inl (p.fresh a z)) (p.zin a)⟩
theorem DenL.seq {x : Out (List (D × Nat))} {f : List (D × Nat) → Out (D × Nat)} {Q : VK} {Q1 : List V → Hp → Prop} (s : Same H0 H1) (h : Den K CA W M (x.bind f) σ H0 Q)
    (k : ∀ ps vs H2 O Z, x = .ok ps → Same H1 H2 → PVs K CA Ma H1 H2 ps vs O Z → Den K CA W M (f ps) σ H0 Q → Q1 vs H2) : DenL K CA W Ma x σ H1 Q1 := by
  cases x with
  | ok p => exact fun vs H2 O Z s2 pv => k p vs H2 O Z rfl s2 pv h
  | exc e => exact fun cls dd H' s' r => h cls dd H' (s.trans s') r
  | bad => exact h
end

inductive Rc | fn | me (c : Nat) (m : Cs) | mk (c fi : Nat)
structure ExI where
  x : Str
  fs : List Cs
structure Nm where
  N : List Str
  fn : Nat → Str
  gn : Nat → Str
  ex : Nat → Option ExI
  mt : Nat → Rc
  m : Bool
  cold : Nat → Bool
  ix : Bool
  fl : List Cs
structure ExF (P : Program) (w : World) (K : PySem.W.Frag) (mg : Str → Option Value) (base : Heap) (C : Addr) (i : ExI) : Prop where
  gC : mg i.x = some (.ref C)
  kC : PySem.W.keepIn K (.ref C) = true
  exC : PySem.W.subIn K (.ref C) (.type "BaseException") = some true
  tyC : PySem.W.typeIn K (.ref C) = some (.type "type")
  ne : i.x ≠ "__debug__"
  mk0 : i.fs = [] → PySem.W.excIn K C He.veBase "ValueError.__new__" = true
  mk1 : i.fs ≠ [] → OexC K C ∧ XfC K C ∧ i.fs.Nodup ∧ (∀ f ∈ i.fs, PySem.W.findIn K (.ref C) (mkS f) = some none) ∧ ∃ fI fd ps, PySem.W.findIn K (.ref C) "__init__" = some (some (.ref fI)) ∧ PySem.W.typeIn K (.ref fI) = some (.type "function") ∧ Binds K fd ps [] ∧ IniOk P w K mg base C (i.fs.map mkS) fI fd ps
structure IsX (K : PySem.W.Frag) (G : Glo) (CA : Nat → Addr) (ex : Nat → Option ExI) (c : Nat) : Prop where
  C : ExcC K (CA c)
  ve : PySem.W.kitOne K (.ref (CA c)) (.type "ValueError") = some true
  on : ∀ c', (ex c').isSome = true → PySem.W.kitOne K (.ref (CA c)) (.ref (CA c')) = some ((G.cm c).contains c')
structure ClsK (K : PySem.W.Frag) (CA : Nat → Addr) (fl : List Cs) : Prop where
  cl : ∀ c, 98 ≤ c ∧ c < 100 → Cls K (CA c)
  no : ∀ c, 98 ≤ c ∧ c < 100 → ∀ f ∈ fl, NoAttr K (CA c) (mkS f)
structure ScOk (sc : Scope) (X : Cx) : Prop where
  loc : ∀ x, sc.names.lookup x = some .local → X.env.scope.names.lookup x = some .local
  cel : ∀ x, sc.names.lookup x = some .cell → X.env.scope.names.lookup x = some .cell ∧ X.fn x = true
  fre : ∀ x, sc.names.lookup x = some .free → X.env.scope.names.lookup x = some .free ∨ X.env.scope.names.lookup x = some .cell
  glo : ∀ x, sc.names.lookup x = some .globalImplicit → X.env.kindOf x = some .globalImplicit
def spF (K : PySem.W.Frag) (CA : Nat → Addr) (cf : Runs) (np : Nat) (f : Nat) : Sp := fun vs H Q E =>
  vs.length = np ∧ ∃ ds Z, Reps K CA H 0 ds vs [] Z ∧ Den K CA (fun cls dd _ H' => E cls dd H') (fun a => a ∈ Z) (cf f ds) [] H Q
def Reach (K : PySem.W.Frag) (mg : Str → Option Value) (CA : Nat → Addr) (x : Str) (a : Addr) : Rc → Prop
  | .fn => mg x = some (.ref a)
  | .me c m => Meth K (CA c) (mkS m) a ∧ Cls K (CA c)
  | .mk c _ => mg x = some (.ref (CA c)) ∧ Mk K (CA c) a
def spK (K : PySem.W.Frag) (CA : Nat → Addr) (cf : Runs) (np : Nat) (f c : Nat) : Sp := fun vs' H' Q' E =>
  ∃ x dx vs H Q, vs' = V.ref x :: vs ∧ H x = none ∧ H dx = none ∧ dx ≠ x ∧ H' = upd (upd H dx (.own x)) x (.ins (CA c) dx []) ∧ spF K CA cf np f vs H Q E ∧ ∀ H2, Q (.ref x) H2 → Q' .non H2
def spR (K : PySem.W.Frag) (CA : Nat → Addr) (cf : Runs) (np : Nat) (f : Nat) : Rc → Sp
  | .mk c _ => spK K CA cf np f c
  | _ => spF K CA cf np f
def npR (np : Nat) : Rc → Nat
  | .mk _ _ => np + 1
  | _ => np
def kR (k : Nat) : Rc → Nat
  | .mk _ _ => k - 1
  | _ => k
def gdR {α : Type} (bad : α) (pl : List D → α) (mt : Rc) : Prop := ∀ c m, mt = .me c m → ∀ ds, pl ds ≠ bad → ∃ fs vs r, ds = .ins c fs vs :: r ∧ m ∉ fs
structure FnRec (m : Bool) (X : Cx) (CA : Nat → Addr) (cf : Runs) (k : Nat) (x : Str) (mt : Rc) (f : Nat) (np : Nat) : Prop where
  ex : ∃ (a : Addr) (fd : FuncData) (ps : List Str), Reach X.K X.mg CA x a mt ∧ PySem.W.keepIn X.K (.ref a) = true ∧ Binds X.K fd ps [] ∧ ps.length = npR np mt ∧ FnOk X.prog X.w X.K X.mg X.base (CXm m X.prog X.w) (kR k mt) a fd ps (spR X.K CA cf np f mt)
  gd : gdR .bad (cf.pl f) mt
structure CtxOk (X : Cx) (nm : Nm) (G : Glo) (CA : Nat → Addr) (cf : Runs) (np : Nat → Option Nat) (bl : List Str) : Prop where
  N : X.N = nm.N
  nd : X.N.Nodup
  calm : X.calm = true
  lev : ∃ k, Room k X.A ∧ (∀ f n, np f = some n → FnRec nm.m X CA cf k (nm.fn f) (nm.mt f) f n) ∧ 2 ≤ k ∧ ∀ f n, np f = some n → nm.cold f = true → FnRec true X CA cf k (nm.fn f) (nm.mt f) f n
  ex : ∀ c i, nm.ex c = some i → ExF X.prog X.w X.K X.mg X.base (CA c) i
  exm : ∀ c c', (nm.ex c).isSome = true → (nm.ex c').isSome = true → PySem.W.exmOne X.K (.ref (CA c)) (.ref (CA c')) = some ((G.cm c).contains c')
  cmx : ∀ c, G.cm c ≠ [] → (nm.ex c).isSome = true
  isx : nm.ix = true → ∀ c, (nm.ex c).isSome = true → IsX X.K G CA nm.ex c
  cls : nm.fl.isEmpty = false → ClsK X.K CA nm.fl
  blt : ∀ x ∈ bl, X.mg x = none
  glb : ∀ g d, G.gv g = some d → ∃ u v, X.mg (nm.gn g) = some u ∧ RelV v u ∧ ∀ H, Rep X.K CA H 9 d v [] []
end Vy

namespace Vy
open PySem PySem.Spec
open PyProof.Rows hiding St
open L2

section
variable {X : Cx} {nm : Nm} {G : Glo} {CA : Nat → Addr} {cf : Runs} {W : WX}
def tE (X : Cx) (G : Glo) (CA : Nat → Addr) (cf : Runs) (W : WX) (c : C) : TE := fun σ H Q => ∃ S, SRep X.K CA S σ H ∧ Den X.K CA W (Nod S (names c)) (ev G cf (envOf S) c) σ H Q
def tL (X : Cx) (G : Glo) (CA : Nat → Addr) (cf : Runs) (W : WX) (cs : List C) : TA := fun σ H Q => ∃ S, SRep X.K CA S σ H ∧ DenL X.K CA W (Nod S (namesL cs)) (evs G cf (envOf S) cs) σ H Q
def DenB (K : PySem.W.Frag) (CA : Nat → Addr) (W : WX) (o : Out Bool) (σ : St) (H : Hp) (Q : Bool → Hp → Prop) : Prop :=
  match o with
  | .ok b => ∀ H', Same H H' → Q b H'
  | .exc e => ∀ cls dd H', Same H H' → ExRep K CA e cls dd H' → W cls dd σ H'
  | .bad => False
def evB (G : Glo) (cf : Runs) (ρ : Env) (c : C) : Out Bool := (ev G cf ρ c).bind fun x => .of (truth x.1)
def tT (X : Cx) (G : Glo) (CA : Nat → Addr) (cf : Runs) (W : WX) (c : C) : TT := fun σ H Q => ∃ S, SRep X.K CA S σ H ∧ DenB X.K CA W (evB G cf (envOf S) c) σ H Q


theorem envOf_get (S : Slots) (i : Nat) : ((envOf S)[i]?).bind id = ((S[i]?).bind id).map fun r => (r.d, r.n) := by
  unfold envOf
  rw [List.getElem?_map]
  cases S[i]? with
  | none => rfl
  | some o => cases o <;> rfl
theorem var_read {i : Nat} {σ : St} {H : Hp} {Q : VK} (h : tE X G CA cf W (.var i) σ H Q) : tVar i σ H Q := by
  obtain ⟨S, sr, hd⟩ := h
  obtain ⟨p, hp, hd⟩ := Den.ofv (show Den _ _ _ _ (Out.of _) _ _ _ from hd)
  rw [envOf_get] at hp
  obtain ⟨q, hq, e⟩ := Option.map_eq_some_iff.mp hp
  obtain ⟨r, hr, e2⟩ := Option.map_eq_some_iff.mp hq
  subst e2; subst e
  have hi : S[i]? = some (some r) := by
    cases h : S[i]? with
    | none => rw [h] at hr; cases hr
    | some o => rw [h] at hr; cases o with
      | none => cases hr
      | some r' => cases hr; rfl
  obtain ⟨h1, h2⟩ := sr.rep i r hi
  obtain ⟨O', Z', r', l⟩ := h2.low (Nat.zero_le _)
  have := r'.zero
  subst this
  exact ⟨r.v, h1, hd r.v H [] Z' ⟨Same.refl H, r', by simp, by simp, fun a q => .inr ⟨i, by simp [names], r, hi, by
    rcases l.all a q with z | z <;> simp [z]⟩, by simp⟩⟩
def bdB (s : Cs) : Bool := s.all (· < 1114112)
theorem e_var {i : Nat} {x : Str} {pos : Pos} (hN : X.N[i]? = some x) (hv : Vis X.env.scope x) (hd : (x == ("__debug__" : Str)) = false) (hcd : (x == ("__classdict__" : Str)) = false) : PE X (.Name x pos) (tE X G CA cf W (.var i)) := PE.weak (pe_var hN hv hd hcd) fun σ H Q h => var_read h
theorem bdB_ok {s : Cs} (h : bdB s = true) : Bd s := fun c q => by
  have := List.all_eq_true.mp h c q
  simpa using this
theorem e_int {i : Int} {j pos} : PE X (.Constant (.int i) j pos) (tE X G CA cf W (.cst (.int i))) := PE.weak pe_int fun σ H Q ⟨S, sr, hd⟩ => hd _ H [] [] (.imm (Same.refl H) (.int i))
theorem e_bl {b : Bool} {j pos} : PE X (.Constant (.bool b) j pos) (tE X G CA cf W (.cst (.bl b))) := PE.weak pe_bl fun σ H Q ⟨S, sr, hd⟩ => hd _ H [] [] (.imm (Same.refl H) (.bl b))
theorem e_non {j pos} : PE X (.Constant .none j pos) (tE X G CA cf W (.cst .non)) := PE.weak pe_non fun σ H Q ⟨S, sr, hd⟩ => hd _ H [] [] (.imm (Same.refl H) .non)
theorem e_str {x : Str} {s : Cs} {j pos} (e : x = mkS s) (h : bdB s = true) : PE X (.Constant (.str x) j pos) (tE X G CA cf W (.cst (.str s))) := by
  subst e
  exact PE.weak pe_str fun σ H Q ⟨S, sr, hd⟩ => hd _ H [] [] (.imm (Same.refl H) (.str (bdB_ok h)))
theorem e_glb {g : Nat} {x : Str} {pos : Pos} {np : Nat → Option Nat} {bl : List Str} (C : CtxOk X nm G CA cf np bl) (hx : x = nm.gn g) (hg : Gl X x) (hg' : (G.gv g).isSome = true) (hd : (x == ("__debug__" : Str)) = false) : PE X (.Name x pos) (tE X G CA cf W (.glb g)) := by
  obtain ⟨d, hd'⟩ := Option.isSome_iff_exists.mp hg'
  obtain ⟨u, v, h1, h2, h3⟩ := C.glb g d hd'
  subst hx
  refine PE.weak (pe_glob hg h1 h2 hd) fun σ H Q ⟨S, sr, hh⟩ => ?_
  have e : ev G cf (envOf S) (.glb g) = .ok (d, 9) := by simp [ev, hd']
  rw [e] at hh
  exact hh v H [] [] (.imm (Same.refl H) (h3 H))
theorem Nod.l {S : Slots} {is js : List Nat} {a : Addr} : Nod S is a → Nod S (is ++ js) a := Nod.mono fun i h => List.mem_append_left _ h
theorem Nod.r {S : Slots} {is js : List Nat} {a : Addr} : Nod S js a → Nod S (is ++ js) a := Nod.mono fun i h => List.mem_append_right _ h
theorem two {a b c : C} {f : D × Nat → D × Nat → Option (D × Nat)} (hn : names c = names a ++ names b) (he : ∀ ρ, ev G cf ρ c = (ev G cf ρ a).bind fun x => (ev G cf ρ b).bind fun y => .of (f x y)) {σ0 : St} {σ : St} {H : Hp} {Q : VK}
    (h : tE X G CA cf W c σ H Q) : tE X G CA cf W a σ H fun x H1 => tE X G CA cf W b σ H1 fun y H2 => r2 X CA W σ f x y H2 Q := by
  obtain ⟨S, sr, hd⟩ := h
  rw [he, hn] at hd
  refine ⟨S, sr, Den.seq (Same.refl H) hd fun p v H1 O Z e1 pv hd1 => ?_⟩
  refine ⟨S, sr.same pv.same, Den.seq pv.same hd1 fun q w H2 O' Z' e2 pw hd2 => ?_⟩
  exact ⟨H, _, p, q, O, Z, O', Z', (pv.later pw.same).mono fun a => Nod.l, (pw.ahead pv.same).mono fun a => Nod.r, hd2⟩
theorem e_bin {o : BO} {a b : C} {ea eb : Expr} {pos : Pos} (ha : PE X ea (tE X G CA cf W a)) (hb : PE X eb (tE X G CA cf W b)) : PE X (.BinOp ea o.op eb pos) (tE X G CA cf W (.bin o a b)) := by
  refine ⟨fun pins s σ H Q I h => ?_⟩
  exact (pe_op (op_bin (σ0 := σ) o) ha hb).run pins s σ H Q I (two rfl (fun ρ => by rw [ev]) (σ0 := σ) h)
theorem e_sub {a b : C} {ea eb : Expr} {pos : Pos} {k : Nat} (hr : Room k X.A) (ha : PE X ea (tE X G CA cf W a)) (hb : PE X eb (tE X G CA cf W b)) (hs : PlainIx eb) : PE X (.Subscript ea eb pos) (tE X G CA cf W (.sub a b)) := by
  refine ⟨fun pins s σ H Q I h => ?_⟩
  exact (pe_ix (ix_sub (σ0 := σ) hr) ha hb hs).run pins s σ H Q I (two (f := subV) rfl (fun ρ => by rw [ev]; rfl) (σ0 := σ) h)
theorem e_cmp {o : CO} {a b : C} {ea eb : Expr} {pos : Pos} {k : Nat} (hr : Room k X.A) (ha : PE X ea (tE X G CA cf W a)) (hb : PE X eb (tE X G CA cf W b)) (hm : behindInMarks o.op eb = false) : PE X (.Compare ea [o.op] [eb] pos) (tE X G CA cf W (.cmp o a b)) := by
  refine ⟨fun pins s σ H Q I h => ?_⟩
  exact (pe_cmpR (op_cmp (σ0 := σ) hr o) ha hb hm).run pins s σ H Q I (two (f := cmpV o) rfl (fun ρ => by rw [ev]; simp only [cmp_as]) (σ0 := σ) h)
theorem tru_of {d : D} {n : Nat} {v : V} {O Z : List Addr} {H : Hp} {b : Bool} (r : Rep X.K CA H n d v O Z) (h : truth d = some b) : TruV X.K v H b := by
  cases r with
  | non => cases h; rfl
  | bl => cases h; rfl
  | int => cases h; rfl
  | @str n s hb =>
    obtain ⟨hl, e⟩ : s.length ≤ SZ ∧ _ := by
      have h : (if s.length ≤ SZ then some (!s.isEmpty) else none) = some b := h
      split at h
      · exact ⟨by assumption, h⟩
      · cases h
    cases e
    refine ⟨by rw [mkS_len, SZ_eq]; exact hl, ?_⟩
    rw [mkS_len]
    cases s with
    | nil => rfl
    | cons c r => simp; omega
  | cls => cases h
  | scr e => cases h
  | tup e r => cases h; exact .inr (.inl ⟨_, e, by cases r <;> rfl⟩)
  | lstO e r => cases h; exact .inl ⟨_, .of e, by cases r <;> rfl⟩
  | lstZ e r => cases h; exact .inl ⟨_, .of e, by cases r <;> rfl⟩
  | dctO e r => cases h
  | dctZ e r => cases h
  | insO e r => cases h
  | insZ e r => cases h
  | fz _ _ _ => cases h
  | hol => cases h
end
end Vy

namespace Vy
open PySem PySem.Spec
open PyProof.Rows hiding St
open L2
section
variable {X : Cx} {nm : Nm} {G : Glo} {CA : Nat → Addr} {cf : Runs} {W : WX}

theorem DenB.seq {K : PySem.W.Frag} {CA : Nat → Addr} {σ : St} {H0 H1 : Hp} {Ma : Addr → Prop} {x : Out (D × Nat)} {f : D × Nat → Out Bool} {Q : Bool → Hp → Prop} {Q1 : VK} (s : Same H0 H1) (h : DenB K CA W (x.bind f) σ H0 Q)
    (k : ∀ p v H2 O Z, x = .ok p → PVal K CA Ma H1 H2 p.1 p.2 v O Z → DenB K CA W (f p) σ H0 Q → Q1 v H2) : Den K CA W Ma x σ H1 Q1 := by
  cases x with
  | ok p => exact fun v H2 O Z pv => k p v H2 O Z rfl pv h
  | exc e => exact fun cls dd H' s' r => h cls dd H' (s.trans s') r
  | bad => exact h
theorem DenB.seqB {K : PySem.W.Frag} {CA : Nat → Addr} {σ : St} {H0 H1 : Hp} {x : Out Bool} {f : Bool → Out Bool} {Q : Bool → Hp → Prop} {Q1 : Bool → Hp → Prop} (s : Same H0 H1) (h : DenB K CA W (x.bind f) σ H0 Q)
    (k : ∀ b H2, x = .ok b → Same H1 H2 → DenB K CA W (f b) σ H0 Q → Q1 b H2) : DenB K CA W x σ H1 Q1 := by
  cases x with
  | ok p => exact fun H2 s2 => k p H2 rfl s2 h
  | exc e => exact fun cls dd H' s' r => h cls dd H' (s.trans s') r
  | bad => exact h
theorem Den.seqB {K : PySem.W.Frag} {CA : Nat → Addr} {σ : St} {H0 H1 : Hp} {M : Addr → Prop} {x : Out Bool} {f : Bool → Out (D × Nat)} {Q : VK} {Q1 : Bool → Hp → Prop} (s : Same H0 H1) (h : Den K CA W M (x.bind f) σ H0 Q)
    (k : ∀ b H2, x = .ok b → Same H1 H2 → Den K CA W M (f b) σ H0 Q → Q1 b H2) : DenB K CA W x σ H1 Q1 := by
  cases x with
  | ok p => exact fun H2 s2 => k p H2 rfl s2 h
  | exc e => exact fun cls dd H' s' r => h cls dd H' (s.trans s') r
  | bad => exact h
theorem DenB.of {K : PySem.W.Frag} {CA : Nat → Addr} {σ : St} {H : Hp} {x : Option Bool} {Q : Bool → Hp → Prop} (h : DenB K CA W (Out.of x) σ H Q) : ∃ b, x = some b ∧ ∀ H', Same H H' → Q b H' := by
  cases x with
  | none => exact h.elim
  | some b => exact ⟨b, rfl, h⟩
theorem obind_assoc {α β γ : Type} (x : Out α) (f : α → Out β) (g : β → Out γ) : (x.bind f).bind g = x.bind fun a => (f a).bind g := by cases x <;> rfl
theorem t_val {c : C} {e : Expr} (h : PE X e (tE X G CA cf W c)) (he : ∀ whole, isTrue e X.env whole = (do let v ← whole; standAt e.pos; holding [v] (truthy v))) : PT X e (tT X G CA cf W c) := by
  refine PT.weak (pt_truth h he) fun σ H Q ⟨S, sr, hd⟩ => ?_
  refine ⟨S, sr, DenB.seq (Same.refl H) hd fun p v H2 O Z e1 pv hd => ?_⟩
  obtain ⟨b, hb, q⟩ := DenB.of hd
  exact ⟨b, tru_of pv.rep hb, q H2 pv.same⟩
theorem twoB {a b : C} {f : D × Nat → D × Nat → Option Bool} {x : Out Bool} {σ : St} {H : Hp} {Q : Bool → Hp → Prop} {S : Slots} (sr : SRep X.K CA S σ H) (he : x = (ev G cf (envOf S) a).bind fun p => (ev G cf (envOf S) b).bind fun q => .of (f p q))
    (h : DenB X.K CA W x σ H Q) : tE X G CA cf W a σ H fun x H1 => tE X G CA cf W b σ H1 fun y H2 => r2 X CA W σ (fun p q => (f p q).map fun r => (.bl r, 9)) x y H2 fun z H3 => ∃ k, z = .bl k ∧ Q k H3 := by
  rw [he] at h
  refine ⟨S, sr, DenB.seq (Same.refl H) h fun p v H1 O Z e1 pv hd1 => ?_⟩
  refine ⟨S, sr.same pv.same, DenB.seq pv.same hd1 fun q w H2 O' Z' e2 pw hd2 => ?_⟩
  refine ⟨H, Nod S (names a ++ names b), p, q, O, Z, O', Z', (pv.later pw.same).mono fun a => Nod.l, (pw.ahead pv.same).mono fun a => Nod.r, ?_⟩
  obtain ⟨r, hr, hq⟩ := DenB.of hd2
  show Den X.K CA W _ (Out.of ((f p q).map _)) σ H _
  rw [hr]
  intro v' H' O3 Z3 p3
  exact ⟨r, p3.rep.bl_inv.1, hq H' p3.same⟩
theorem t_cmp {o : CO} {a b : C} {ea eb : Expr} {pos : Pos} {k : Nat} (hr : Room k X.A) (ha : PE X ea (tE X G CA cf W a)) (hb : PE X eb (tE X G CA cf W b)) (hm : behindInMarks o.op eb = false) : PT X (.Compare ea [o.op] [eb] pos) (tT X G CA cf W (.cmp o a b)) := by
  refine ⟨fun pins s σ H Q I h => ?_⟩
  obtain ⟨S, sr, hd⟩ := h
  refine (pt_cmpR (op_cmp (CA := CA) (W := W) (σ0 := σ) hr o) ha hb hm).run pins s σ H Q I ?_
  refine twoB (f := fun p q => cmpD o p.1 q.1) sr ?_ hd
  unfold evB
  rw [ev, obind_assoc]
  congr 1; funext p
  rw [obind_assoc]
  congr 1; funext q
  cases cmpD o p.1 q.1 <;> rfl
theorem PVal.rest {K : PySem.W.Frag} {CA : Nat → Addr} {M : Addr → Prop} {H H' : Hp} {d : D} {n : Nat} {v : V} {O Z : List Addr} (p : PVal K CA M H H' d n v O Z) : ∃ Z', PVal K CA (fun _ => True) H' H' d 0 v [] Z' := by
  obtain ⟨O', Z', r, l⟩ := p.rep.low (Nat.zero_le _)
  have := r.zero
  subst this
  exact ⟨Z', Same.refl _, r, by simp, by simp, fun _ _ => .inr trivial, by simp⟩
theorem chn_ok {o o' : CO} {a b c : C} {σ : St} {H : Hp} {Q : VK} {S : Slots} (sr : SRep X.K CA S σ H) (h : Den X.K CA W (Nod S (names (.chn o o' a b c))) (ev G cf (envOf S) (.chn o o' a b c)) σ H Q) :
    tChain (r2 X CA W σ (cmpV o)) (r2 X CA W σ (cmpV o')) (tE X G CA cf W a) (tE X G CA cf W b) (tE X G CA cf W c) σ H Q := by
  rw [ev] at h
  refine ⟨S, sr, Den.seq (Same.refl H) h fun p v H1 O Z e1 pv hd1 => ?_⟩
  refine ⟨S, sr.same pv.same, Den.seq pv.same hd1 fun q w H2 O' Z' e2 pw hd2 => ?_⟩
  obtain ⟨Zp, p0⟩ := (pv.later pw.same).rest
  obtain ⟨Zq, q0⟩ := pw.rest
  refine ⟨H2, fun _ => True, (p.1, 0), (q.1, 0), [], Zp, [], Zq, p0, q0, ?_⟩
  obtain ⟨r, hr, hd3⟩ := Den.of hd2
  unfold cmpV
  rw [hr]
  intro v' H3 O3 Z3 p3
  refine ⟨r, p3.rep.bl_inv.1, ?_⟩
  have s23 : Same H2 H3 := p3.same
  have s3 : Same H H3 := (pv.same.trans pw.same).trans s23
  cases r with
  | false =>
    rw [if_neg (by decide)] at hd3 ⊢
    exact hd3.val s3 (.bl false)
  | true =>
    rw [if_pos rfl] at hd3 ⊢
    refine ⟨S, sr.same s3, Den.seq s3 hd3 fun z w' H4 O4 Z4 e4 pz hd4 => ?_⟩
    rw [cmp_as] at hd4
    exact ⟨H, Nod S (names (.chn o o' a b c)), q, z, _, _, _, _, ((pw.ahead pv.same).later (s23.trans pz.same)).mono fun a h => Nod.r (Nod.l h), (pz.ahead s3).mono fun a h => Nod.r (Nod.r h), hd4⟩
theorem chn_val {o o' : CO} {a b c : C} {ρ : Env} {p : D × Nat} (h : ev G cf ρ (.chn o o' a b c) = .ok p) : ∃ r, p = (.bl r, 9) := by
  rw [ev] at h
  obtain ⟨x, _, h⟩ := Out.bind_eq_ok h
  obtain ⟨y, _, h⟩ := Out.bind_eq_ok h
  obtain ⟨r, _, h⟩ := Out.bind_eq_ok h
  split at h
  · obtain ⟨z, _, h⟩ := Out.bind_eq_ok h
    obtain ⟨q, _, h⟩ := Out.bind_eq_ok h
    cases h; exact ⟨_, rfl⟩
  · cases h; exact ⟨_, rfl⟩
theorem as_test {c : C} {S : Slots} {σ : St} {H : Hp} {Q : Bool → Hp → Prop} (hv : ∀ p, ev G cf (envOf S) c = .ok p → ∃ r, p = (.bl r, 9)) (h : DenB X.K CA W (evB G cf (envOf S) c) σ H Q) :
    Den X.K CA W (Nod S (names c)) (ev G cf (envOf S) c) σ H fun z H3 => ∃ k, z = .bl k ∧ Q k H3 := by
  unfold evB at h
  cases e : ev G cf (envOf S) c with
  | ok p =>
    obtain ⟨r, rfl⟩ := hv p e
    rw [e] at h
    intro v' H' O Z pv
    exact ⟨r, pv.rep.bl_inv.1, h H' pv.same⟩
  | exc x => rw [e] at h; exact h
  | bad => rw [e] at h; exact h
theorem t_chn {o o' : CO} {a b c : C} {ea eb ec : Expr} {pos : Pos} {k : Nat} (hr : Room k X.A) (ha : PE X ea (tE X G CA cf W a)) (hb : PE X eb (tE X G CA cf W b)) (hc : PE X ec (tE X G CA cf W c)) (hm : lastMarks [o.op, o'.op] [eb, ec] = false) : PT X (.Compare ea [o.op, o'.op] [eb, ec] pos) (tT X G CA cf W (.chn o o' a b c)) := by
  refine ⟨fun pins s σ H Q I ⟨S, sr, h⟩ => ?_⟩
  exact (pt_chain (op_cmp (CA := CA) (W := W) (σ0 := σ) hr o) (op_cmp (CA := CA) (W := W) (σ0 := σ) hr o') ha hb hc hm).run pins s σ H Q I (chn_ok sr (as_test (fun p => chn_val) h))
theorem evB_not (ρ : Env) (a : C) : evB G cf ρ (.not a) = (evB G cf ρ a).bind fun b => .ok (!b) := by
  unfold evB; rw [ev, obind_assoc, obind_assoc]
  congr 1; funext x
  cases truth x.1 <;> rfl
theorem evB_and (ρ : Env) (a b : C) : evB G cf ρ (.and a b) = (evB G cf ρ a).bind fun r => if r = true then evB G cf ρ b else .ok false := by
  unfold evB; rw [ev, obind_assoc, obind_assoc]
  congr 1; funext x
  cases e : truth x.1 with
  | none => rfl
  | some r => cases r <;> simp [e]
theorem evB_or (ρ : Env) (a b : C) : evB G cf ρ (.or a b) = (evB G cf ρ a).bind fun r => if r = true then .ok true else evB G cf ρ b := by
  unfold evB; rw [ev, obind_assoc, obind_assoc]
  congr 1; funext x
  cases e : truth x.1 with
  | none => rfl
  | some r => cases r <;> simp [e]
theorem t_not {a : C} {ea : Expr} {pos : Pos} (ha : PT X ea (tT X G CA cf W a)) : PT X (.UnaryOp .Not ea pos) (tT X G CA cf W (.not a)) := by
  refine PT.weak (pt_not ha) fun σ H Q ⟨S, sr, h⟩ => ?_
  rw [evB_not] at h
  exact ⟨S, sr, DenB.seqB (Same.refl H) h fun b H2 _ s2 hd => hd H2 s2⟩
theorem t_and {a b : C} {ea eb : Expr} {rest : List Expr} {pos : Pos} (ha : PT X ea (tT X G CA cf W a)) (hb : PW X (.BoolOp .And (eb :: rest) pos) (tT X G CA cf W b)) : PW X (.BoolOp .And (ea :: eb :: rest) pos) (tT X G CA cf W (.and a b)) := by
  refine ⟨fun wh pins s σ H Q I ⟨S, sr, h⟩ => (pw_and ha hb).run wh pins s σ H Q I ?_⟩
  rw [evB_and] at h
  refine ⟨S, sr, DenB.seqB (Same.refl H) h fun r H2 _ s2 hd => ?_⟩
  cases r with
  | true => rw [if_pos rfl] at hd ⊢; exact ⟨S, sr.same s2, by cases e : evB G cf (envOf S) b with
    | ok x => rw [e] at hd; exact fun H' s' => hd H' (s2.trans s')
    | exc x => rw [e] at hd; exact fun cls dd H' s' r => hd cls dd H' (s2.trans s') r
    | bad => rw [e] at hd; exact hd⟩
  | false => rw [if_neg (by decide)] at hd ⊢; exact hd H2 s2
theorem t_or {a b : C} {ea eb : Expr} {rest : List Expr} {pos : Pos} (ha : PT X ea (tT X G CA cf W a)) (hb : PW X (.BoolOp .Or (eb :: rest) pos) (tT X G CA cf W b)) : PW X (.BoolOp .Or (ea :: eb :: rest) pos) (tT X G CA cf W (.or a b)) := by
  refine ⟨fun wh pins s σ H Q I ⟨S, sr, h⟩ => (pw_or ha hb).run wh pins s σ H Q I ?_⟩
  rw [evB_or] at h
  refine ⟨S, sr, DenB.seqB (Same.refl H) h fun r H2 _ s2 hd => ?_⟩
  cases r with
  | false => rw [if_neg (by decide)] at hd ⊢; exact ⟨S, sr.same s2, by cases e : evB G cf (envOf S) b with
    | ok x => rw [e] at hd; exact fun H' s' => hd H' (s2.trans s')
    | exc x => rw [e] at hd; exact fun cls dd H' s' r => hd cls dd H' (s2.trans s') r
    | bad => rw [e] at hd; exact hd⟩
  | true => rw [if_pos rfl] at hd ⊢; exact hd H2 s2
theorem t_and1 {b : C} {eb : Expr} {pos : Pos} (hb : PT X eb (tT X G CA cf W b)) : PW X (.BoolOp .And [eb] pos) (tT X G CA cf W b) := pw_and1 hb
theorem t_or1 {b : C} {eb : Expr} {pos : Pos} (hb : PT X eb (tT X G CA cf W b)) : PW X (.BoolOp .Or [eb] pos) (tT X G CA cf W b) := pw_or1 hb

theorem a_nil : PA X [] (tL X G CA cf W []) := PA.weak pa_nil fun σ H Q ⟨S, sr, h⟩ => h [] H [] [] (Same.refl H) .nil
theorem Nod.there {S : Slots} {σ : St} {H : Hp} (sr : SRep X.K CA S σ H) {is : List Nat} {a : Addr} (h : Nod S is a) : H a ≠ none := by
  obtain ⟨i, _, r, e, q⟩ := h
  exact (sr.rep i r e).2.there a q
theorem a_cons {c : C} {cs : List C} {e : Expr} {es : List Expr} (ha : PE X e (tE X G CA cf W c)) (hr : PA X es (tL X G CA cf W cs)) (hs : starEach (e :: es) X.env = (false, eval e X.env) :: starEach es X.env) : PA X (e :: es) (tL X G CA cf W (c :: cs)) := by
  refine PA.weak (pa_cons ha hr hs) fun σ H Q ⟨S, sr, h⟩ => ?_
  rw [evs] at h
  have key : ∀ {α : Type} (x : Out α), True := fun _ => trivial
  refine ⟨S, sr, ?_⟩
  cases e1 : ev G cf (envOf S) c with
  | exc x => rw [e1] at h; exact h
  | bad => rw [e1] at h; exact h
  | ok p =>
    rw [e1] at h
    simp only [Out.bind_ok] at h
    intro v H1 O Z pv
    refine ⟨S, sr.same pv.same, ?_⟩
    cases e2 : evs G cf (envOf S) cs with
    | exc x => rw [e2] at h; exact fun cls dd H' s' r => h cls dd H' (pv.same.trans s') r
    | bad => rw [e2] at h; exact h
    | ok ps =>
      rw [e2] at h
      intro vs H2 O' Z' s2 pw
      refine h _ _ _ _ (pv.same.trans s2) (.cons ((pv.later s2).mono fun a => Nod.l) ((pw.ahead pv.same).mono fun a => Nod.r) (fun a ha hb => ?_) fun a ha hb => ?_)
      · exact pv.rep.there a hb (pw.fresh a ha)
      · rcases pw.zin a hb with z | z
        · exact pv.rep.there a (by simp [ha]) z
        · exact Nod.there sr z (pv.fresh a ha)
theorem e_tup {cs : List C} {es : List Expr} {x1} {pos : Pos} (ha : PA X es (tL X G CA cf W cs)) : PE X (.Tuple es x1 pos) (tE X G CA cf W (.tup cs)) := by
  refine PE.weak (pe_tup ha) fun σ H Q ⟨S, sr, h⟩ => ?_
  rw [ev] at h
  refine ⟨S, sr, DenL.seq (Same.refl H) h fun ps vs H2 O Z e1 s2 pv hd => ?_⟩
  obtain ⟨hl, hd⟩ := hd.gd
  refine ⟨by rw [← pv.length, SZ_eq]; exact hl, fun p hp => ?_⟩
  have k : Same H2 (upd H2 p (.tup vs)) := sameNew hp
  obtain ⟨O', Z', r, l⟩ := pv.reps (lvL ps) (Nat.le_refl _)
  exact hd _ _ O' Z' ⟨s2.trans k, .tup (.of upd_same) (r.same k), fun a q => pv.fresh a (l.own a q), l.nd pv.nd, fun a q => (l.all a q).elim (fun z => .inl (pv.fresh a z)) (pv.zin a), l.zo pv.nd pv.zo⟩
theorem lst_read {cs : List C} {σ : St} {H : Hp} {Q : VK} (h : tE X G CA cf W (.lst cs) σ H Q) : tLst (tL X G CA cf W cs) σ H Q := by
  obtain ⟨S, sr, h⟩ := h
  rw [ev] at h
  refine ⟨S, sr, DenL.seq (Same.refl H) h fun ps vs H2 O Z e1 s2 pv hd => ?_⟩
  obtain ⟨hl, hd⟩ := hd.gd
  refine ⟨by rw [← pv.length, SZ_eq]; exact hl, fun p hp => ?_⟩
  have k : Same H2 (upd H2 p (.lst vs)) := sameNew hp
  obtain ⟨O', Z', r, l⟩ := pv.reps (lvL ps) (Nat.le_refl _)
  have hn : ∀ a ∈ O ++ Z, a ≠ p := fun a q e => pv.there a q (by rw [e]; exact hp)
  refine hd _ _ (p :: O') Z' ⟨s2.trans k, .lstO upd_same (r.same k), fun a q => ?_, ?_, fun a q => (l.all a q).elim (fun z => .inl (pv.fresh a z)) (pv.zin a), fun a q z => ?_⟩
  · rcases List.mem_cons.mp q with rfl | q
    · exact same_none s2 hp
    · exact pv.fresh a (l.own a q)
  · exact List.nodup_cons.mpr ⟨fun q => hn p (by simp [l.own p q]) rfl, l.nd pv.nd⟩
  · rcases List.mem_cons.mp z with rfl | z
    · exact hn a (by rcases l.all a q with w | w <;> simp [w]) rfl
    · exact l.zo pv.nd pv.zo a q z
theorem e_lst {cs : List C} {es : List Expr} {pos : Pos} (ha : PA X es (tL X G CA cf W cs)) : PE X (.List es pos) (tE X G CA cf W (.lst cs)) := PE.weak (pe_lst ha) fun σ H Q h => lst_read h
end
end Vy

namespace Vy
open PySem PySem.Spec
open PyProof.Rows hiding St
open L2
def noStar : Expr → Bool
  | .Starred _ _ => false
  | _ => true
theorem star_cons {e : Expr} {es : List Expr} {env : PySem.Env} (h : noStar e = true) : starEach (e :: es) env = (false, eval e env) :: starEach es env := by
  cases e <;> first | rfl | (cases h)
theorem star_all {env : PySem.Env} : ∀ {es : List Expr}, es.all noStar = true → ∀ x ∈ starEach es env, x.1 = false
  | [], _, x, hx => by cases hx
  | e :: es, h, x, hx => by
    rw [List.all_cons, Bool.and_eq_true] at h
    rw [star_cons h.1] at hx
    rcases List.mem_cons.mp hx with rfl | hx
    · rfl
    · exact star_all h.2 x hx

theorem back_any {env : PySem.Env} {es : List Expr} {pos : Pos} (h : es.all noStar = true) : (backTo pos (starEach es env)).any (·.1) = false := by
  rw [List.any_eq_false]
  intro x hx
  obtain ⟨y, hy, rfl⟩ := List.mem_map.mp hx
  simp [star_all h y hy]
theorem back_few {env : PySem.Env} {es : List Expr} {pos : Pos} (h : es.all noStar = true) (hl : es.length < 30) :
    ((backTo pos (starEach es env)).all (fun x => !x.1) && (backToKw pos (keywordEach [] env)).all (fun x => x.1.isSome)
      && decide (es.length + ([] : List Keyword).length + (if ([] : List Keyword).isEmpty then 0 else 1) < 30)) = true := by
  rw [Bool.and_eq_true, Bool.and_eq_true]
  refine ⟨⟨?_, rfl⟩, by simpa using hl⟩
  rw [List.all_eq_true]
  intro x hx
  obtain ⟨y, hy, rfl⟩ := List.mem_map.mp hx
  simp [star_all h y hy]
def noSup : Expr → Bool
  | .Call (.Name _ _) [] [] _ => false
  | _ => true
theorem base_ok {o : Expr} {m : Str} {env : PySem.Env} (h : noSup o = true) : attributeBase o m env (eval o env) = eval o env := by
  unfold attributeBase
  split
  · simp [noSup] at h
  · rfl
section
variable {X : Cx} {nm : Nm} {G : Glo} {CA : Nat → Addr} {cf : Runs} {W : WX}
def tO (X : Cx) (G : Glo) (CA : Nat → Addr) (cf : Runs) (W : WX) (c : Option C) : TO := fun σ H Q => ∃ S, SRep X.K CA S σ H ∧ (match evo G cf (envOf S) c with
  | .ok o => ∀ H', Same H H' → Q o H'
  | .exc e => ∀ cls dd H', Same H H' → ExRep X.K CA e cls dd H' → W cls dd σ H'
  | .bad => False)
theorem o_none : PO X none (tO X G CA cf W none) := ⟨fun pins s σ H Q I ⟨S, sr, h⟩ => po_none.run pins s σ H Q I (h H (Same.refl H))⟩
theorem o_some {c : C} {e : Expr} (h : PE X e (tE X G CA cf W c)) : PO X (some e) (tO X G CA cf W (some c)) := by
  refine ⟨fun pins s σ H Q I ⟨S, sr, hd⟩ => (po_some h).run pins s σ H Q I ?_⟩
  rw [evo] at hd
  refine ⟨S, sr, ?_⟩
  cases e1 : ev G cf (envOf S) c with
  | exc x => rw [e1] at hd; exact hd
  | bad => rw [e1] at hd; exact hd
  | ok p =>
    rw [e1] at hd
    intro v H1 O Z pv
    obtain ⟨d, n⟩ := p
    cases d <;> first | exact hd.elim | skip
    exact ⟨_, pv.rep.int_inv.1, hd H1 pv.same⟩
theorem e_slc {a : C} {lo hi : Option C} {ea : Expr} {elo ehi : Option Expr} {p2 pos : Pos} (ha : PE X ea (tE X G CA cf W a)) (hl : PO X elo (tO X G CA cf W lo)) (hh : PO X ehi (tO X G CA cf W hi)) : PE X (.Subscript ea (.Slice elo ehi none p2) pos) (tE X G CA cf W (.slc a lo hi)) := by
  refine ⟨fun pins s σ H Q I ⟨S, sr, h⟩ => (pe_slice (sl_all (CA := CA) (W := W) (σ0 := σ)) ha hl hh).run pins s σ H Q I ?_⟩
  rw [ev] at h
  refine ⟨S, sr, Den.seq (Same.refl H) h fun p v H1 O Z e1 pv hd1 => ⟨S, sr.same pv.same, ?_⟩⟩
  cases e2 : evo G cf (envOf S) lo with
  | exc x => rw [e2] at hd1; exact fun cls dd H' s' r => hd1 cls dd H' (pv.same.trans s') r
  | bad => rw [e2] at hd1; exact hd1
  | ok l =>
    rw [e2] at hd1
    intro H2 s2
    refine ⟨S, sr.same (pv.same.trans s2), ?_⟩
    simp only [Out.bind_ok] at hd1
    cases e3 : evo G cf (envOf S) hi with
    | exc x => rw [e3] at hd1; exact fun cls dd H' s' r => hd1 cls dd H' ((pv.same.trans s2).trans s') r
    | bad => rw [e3] at hd1; exact hd1
    | ok u =>
      rw [e3] at hd1
      intro H3 s3
      exact ⟨H, _, p, O, Z, (pv.later (s2.trans s3)).mono fun a => Nod.l, hd1⟩
theorem spF_of {f np : Nat} {cs : List C} {σ : St} {H : Hp} {Q : VK} {S : Slots} (sr : SRep X.K CA S σ H) (hn : cs.length = np) (h : Den X.K CA W (Nod S (names (.cal f cs))) (ev G cf (envOf S) (.cal f cs)) σ H Q) :
    tL X G CA cf W cs σ H fun vs H1 => spF X.K CA cf np f vs H1 Q (WE W σ) := by
  rw [ev] at h
  refine ⟨S, sr, DenL.seq (Same.refl H) h fun ps vs H2 O Z e1 s2 pv hd => ?_⟩
  obtain ⟨Z', r, hz⟩ := pv.reps0
  have hl : cs.length = ps.length := by
    clear h hd
    have : ∀ (cs : List C) (ps : List (D × Nat)), evs G cf (envOf S) cs = .ok ps → cs.length = ps.length := by
      intro cs
      induction cs with
      | nil => intro ps h; rw [evs] at h; cases h; rfl
      | cons c cs ih =>
        intro ps h
        rw [evs] at h
        obtain ⟨x, _, h⟩ := Out.bind_eq_ok h
        obtain ⟨xs, h2, h⟩ := Out.bind_eq_ok h
        cases h
        simp [ih xs h2]
    exact this cs ps e1
  refine ⟨by rw [← pv.length, ← hl, hn], ps.map (·.1), Z', r, ?_⟩
  cases e2 : cf f (ps.map (·.1)) with
  | bad => rw [e2] at hd; exact hd
  | exc x => rw [e2] at hd; exact fun cls dd H' s' q => hd cls dd H' (s2.trans s') q
  | ok q =>
    rw [e2] at hd
    intro v H' O' Z'' pw
    refine hd v H' O' Z'' ⟨s2.trans pw.same, pw.rep, fun a q => same_none s2 (pw.fresh a q), pw.nd, fun a q => ?_, pw.zo⟩
    rcases pw.zin a q with z | z
    · exact .inl (same_none s2 z)
    · exact hz a z
theorem e_cal {np : Nat → Option Nat} {bl : List Str} {f n : Nat} {x : Str} {cs : List C} {e : Expr} {es : List Expr} {p pos : Pos} (C : CtxOk X nm G CA cf np bl) (tk : TkM nm.m X W) (hf : np f = some n) (hx : x = nm.fn f) (hmt : nm.mt f = .fn) (hn : cs.length = n) (hg : Gl X x)
    (ha : PA X (e :: es) (tL X G CA cf W cs)) (hdb : (x == ("__debug__" : Str)) = false) (hs : (e :: es).all noStar = true) : PE X (.Call (.Name x p) (e :: es) [] pos) (tE X G CA cf W (.cal f cs)) := by
  obtain ⟨k, hr, hF, _⟩ := C.lev
  obtain ⟨a, fd, ps, h1, h2, h3, h4, h5⟩ := (hF f n hf).ex
  rw [hmt] at h1 h5
  replace h1 : X.mg (nm.fn f) = some (.ref a) := h1
  rw [← hx] at h1
  rw [List.all_cons, Bool.and_eq_true] at hs
  refine PE.weak (pe_callS h5 hr hg h1 h2 h3 (fun σ => tk.pass σ) ha hdb (star_cons hs.1) (back_any hs.2)) fun σ H Q ⟨S, sr, h⟩ => ?_
  exact spF_of sr hn h

def rC (X : Cx) (CA : Nat → Addr) (W : WX) (σ0 : St) (f : Bi) : List V → Hp → VK → Prop := fun vs H2 Q => ∃ H M ps O Z, Same H H2 ∧ PVs X.K CA M H H2 ps vs O Z ∧ Den X.K CA W M (Out.of (bifD f ps)) σ0 H Q
theorem PVs.one_inv {K : PySem.W.Frag} {M : Addr → Prop} {H H2 : Hp} {p : D × Nat} {vs : List V} {O Z : List Addr} (h : PVs K CA M H H2 [p] vs O Z) : ∃ v, vs = [v] ∧ PVal K CA M H H2 p.1 p.2 v O Z := by
  cases h with
  | cons a b _ _ => cases b; exact ⟨_, rfl, by simpa using a⟩
theorem PVs.two_inv {K : PySem.W.Frag} {M : Addr → Prop} {H H2 : Hp} {p q : D × Nat} {vs : List V} {O Z : List Addr} (h : PVs K CA M H H2 [p, q] vs O Z) : ∃ v w O1 Z1 O2 Z2, vs = [v, w] ∧ PVal K CA M H H2 p.1 p.2 v O1 Z1 ∧ PVal K CA M H H2 q.1 q.2 w O2 Z2 := by
  cases h with
  | cons a b _ _ => obtain ⟨w, rfl, c⟩ := b.one_inv; exact ⟨_, _, _, _, _, _, rfl, a, c⟩
theorem CallR.one {v : Value} {f : Bi} {σ0 : St} {r : List V → Hp → VK → Prop} (h : CallR X v r) (h0 : ∀ ps, (∀ p, ps ≠ [p]) → bifD f ps = none)
    (w : ∀ (d : D) (n : Nat) x H0 H (M : Addr → Prop) Ox Zx (z : D × Nat) (Q : VK), PVal X.K CA M H0 H d n x Ox Zx → bifD f [(d, n)] = some z → Den X.K CA W M (.ok z) σ0 H0 Q → r [x] H Q) : CallR X v (rC X CA W σ0 f) := by
  refine CallR.weak h fun vs H Q ⟨H0, M, ps, O, Z, s, pv, hd⟩ => ?_
  obtain ⟨z, hz, hd'⟩ := Den.ofv hd
  by_cases hp : ∃ p, ps = [p]
  · obtain ⟨p, rfl⟩ := hp
    obtain ⟨v, rfl, q⟩ := pv.one_inv
    exact w _ _ v H0 H M O Z z Q q hz hd'
  · rw [h0 ps fun p e => hp ⟨p, e⟩] at hz; cases hz
theorem bool_list {K : PySem.W.Frag} {H : Hp} : ∀ {xs : List D} {vs : List V} {n : Nat} {O Z : List Addr} {bs : List Bool}, Reps K CA H n xs vs O Z → boolsOf xs = some bs → vs = bs.map V.bl
  | [], _, _, _, _, bs, .nil, h => by cases h; rfl
  | d :: r, _, _, _, _, bs, .cons a b, h => by
    cases d <;> first | (cases h; done) | skip
    obtain ⟨cs, h1, rfl⟩ := Option.map_eq_some_iff.mp h
    rw [a.bl_inv.1, bool_list b h1]; rfl
theorem int_list {K : PySem.W.Frag} {H : Hp} : ∀ {xs : List D} {vs : List V} {n : Nat} {O Z : List Addr} {bs : List Int}, Reps K CA H n xs vs O Z → intsOf xs = some bs → vs = bs.map V.int
  | [], _, _, _, _, bs, .nil, h => by cases h; rfl
  | d :: r, _, _, _, _, bs, .cons a b, h => by
    cases d <;> first | (cases h; done) | skip
    obtain ⟨cs, h1, rfl⟩ := Option.map_eq_some_iff.mp h
    rw [a.int_inv.1, int_list b h1]; rfl
theorem str_list {K : PySem.W.Frag} {H : Hp} : ∀ {xs : List D} {vs : List V} {n : Nat} {O Z : List Addr} {bs : List Cs}, Reps K CA H n xs vs O Z → strsOf xs = some bs → vs = bs.map (fun s => V.str (mkS s)) ∧ ∀ s ∈ bs, Bd s
  | [], _, _, _, _, bs, .nil, h => by cases h; exact ⟨rfl, by simp⟩
  | d :: r, _, _, _, _, bs, .cons a b, h => by
    cases d <;> first | (cases h; done) | skip
    obtain ⟨cs, h1, rfl⟩ := Option.map_eq_some_iff.mp h
    obtain ⟨e, _, _, hb⟩ := a.str_inv
    obtain ⟨e2, hb2⟩ := str_list b h1
    rw [e, e2]
    exact ⟨rfl, fun s hs => (List.mem_cons.mp hs).elim (fun z => by rw [z]; exact hb) (hb2 s)⟩
theorem call_lenR : CallR X (.builtin "len") (fun xs H Q => ∃ a kvs, xs = [V.ref a] ∧ Rd H a (.dK kvs) ∧ Q (.int kvs.length) H) := by
  intro pins s σ H xs us Q I r h
  obtain ⟨a, kvs, rfl, ha, q⟩ := h
  obtain ⟨u, rfl, ru⟩ := vals1 r
  cases ru
  exact d_len I ha fun t s' I' => ⟨.int kvs.length, H, I', ⟨t, rfl⟩, q⟩
theorem c_len {σ0 : St} : CallR X (.builtin "len") (rC X CA W σ0 .len) := by
  refine CallR.one (CallR.or call_len call_lenR) (fun ps h => ?_) fun d n x H0 H M Ox Zx z Q pv hz hd => ?_
  · match ps, h with
    | [], _ => rfl
    | [p], h => exact absurd rfl (h p)
    | p :: q :: r, _ => obtain ⟨d, n⟩ := p; cases d <;> rfl
  · cases d <;> first | (cases hz; done) | skip
    · obtain ⟨hl, e⟩ := go_some (show go _ _ = _ from hz)
      cases e
      obtain ⟨rfl, _⟩ := pv.rep.str_inv
      exact .inl ⟨_, _, rfl, ⟨by rw [mkS_len, SZ_eq]; exact hl, (mkS_len _).symm⟩, hd.val pv.same (.int _)⟩
    · cases hz
      obtain ⟨a, vs, rfl, h1, r⟩ := pv.rep.tup_inv
      exact .inl ⟨_, _, rfl, .inr ⟨vs, h1, r.length⟩, hd.val pv.same (.int _)⟩
    · cases hz
      obtain ⟨a, vs, Z0, rfl, h1, r, _⟩ := pv.lst_inv
      exact .inl ⟨_, _, rfl, .inl ⟨vs, .of h1, r.length⟩, hd.val pv.same (.int _)⟩
    · cases hz
      obtain ⟨a, kvs, O', Z', m, rfl, h1, h2, _⟩ := pv.rep.dct_inv
      have := congrArg List.length h2.1
      simp only [List.length_map] at this
      exact .inr ⟨_, _, rfl, h1, by rw [← this]; exact hd.val pv.same (.int _)⟩
    · cases hz
      obtain ⟨a, rfl, h1, _⟩ := pv.rep.scr_inv
      exact .inl ⟨_, _, rfl, .inl ⟨_, h1.l, by simp⟩, hd.val pv.same (.int _)⟩
theorem one_no {f : Bi} (h2 : ∀ p q r, bifD f (p :: q :: r) = none) (h0 : bifD f [] = none) : ∀ ps : List (D × Nat), (∀ p, ps ≠ [p]) → bifD f ps = none
  | [], _ => h0
  | [p], h => absurd rfl (h p)
  | p :: q :: r, _ => h2 p q r
theorem c_all {σ0 : St} (hc : X.calm = true) : CallR X (.builtin "all") (rC X CA W σ0 .all) := by
  refine CallR.one (cr_all hc) (one_no (fun p q r => by obtain ⟨d, n⟩ := p; cases d <;> rfl) rfl) fun d n x H0 H M Ox Zx z Q pv hz hd => ?_
  cases d <;> first | (cases hz; done) | skip
  obtain ⟨bs, hb, rfl⟩ := Option.map_eq_some_iff.mp hz
  obtain ⟨a, vs, Z0, rfl, h1, r, _⟩ := pv.lst_inv
  have := bool_list r hb
  subst this
  exact ⟨a, bs, rfl, .of h1, hd.val pv.same (.bl _)⟩
theorem c_any {σ0 : St} (hc : X.calm = true) : CallR X (.builtin "any") (rC X CA W σ0 .any) := by
  refine CallR.one (cr_any hc) (one_no (fun p q r => by obtain ⟨d, n⟩ := p; cases d <;> rfl) rfl) fun d n x H0 H M Ox Zx z Q pv hz hd => ?_
  cases d <;> first | (cases hz; done) | skip
  obtain ⟨bs, hb, rfl⟩ := Option.map_eq_some_iff.mp hz
  obtain ⟨a, vs, Z0, rfl, h1, r, _⟩ := pv.lst_inv
  have := bool_list r hb
  subst this
  exact ⟨a, bs, rfl, .of h1, hd.val pv.same (.bl _)⟩
theorem c_sum {σ0 : St} (hc : X.calm = true) : CallR X (.builtin "sum") (rC X CA W σ0 .sum) := by
  refine CallR.one (cr_sum hc) (one_no (fun p q r => by obtain ⟨d, n⟩ := p; cases d <;> rfl) rfl) fun d n x H0 H M Ox Zx z Q pv hz hd => ?_
  cases d <;> first | (cases hz; done) | skip
  obtain ⟨bs, hb, rfl⟩ := Option.map_eq_some_iff.mp hz
  obtain ⟨a, vs, Z0, rfl, h1, r, _⟩ := pv.lst_inv
  have := int_list r hb
  subst this
  exact ⟨a, bs, rfl, .of h1, hd.val pv.same (.int _)⟩
theorem c_ord {σ0 : St} : CallR X (.builtin "ord") (rC X CA W σ0 .ord) := by
  refine CallR.one call_ord (one_no (fun p q r => by obtain ⟨d, n⟩ := p; cases d <;> first | rfl | (rename_i s; cases s with | nil => rfl | cons c s => cases s <;> rfl)) rfl) fun d n x H0 H M Ox Zx z Q pv hz hd => ?_
  cases d <;> first | (cases hz; done) | skip
  rename_i s
  match s, hz, pv with
  | [c], hz, pv =>
    cases hz
    obtain ⟨rfl, _⟩ := pv.rep.str_inv
    refine ⟨_, rfl, by rw [mkS_len]; rfl, ?_⟩
    have : (mkS [c]).cps.getD 0 0 = c := by simp [mkS]
    rw [this]
    exact hd.val pv.same (.int _)
theorem c_str {σ0 : St} : CallR X (.type "str") (rC X CA W σ0 .str) := by
  refine CallR.one call_str_int (one_no (fun p q r => by obtain ⟨d, n⟩ := p; cases d <;> rfl) rfl) fun d n x H0 H M Ox Zx z Q pv hz hd => ?_
  cases d <;> first | (cases hz; done) | skip
  rename_i i
  obtain ⟨hl, e⟩ := go_some (show go _ _ = _ from hz)
  cases e
  obtain ⟨rfl, _⟩ := pv.rep.int_inv
  refine ⟨_, rfl, hl, ?_⟩
  have e : (Str.ofString (toString i)) = mkS (codesOfInt i) := (mkS_of _).symm
  rw [e]
  refine hd.val pv.same (.str fun c hc => ?_)
  have hc : c ∈ (toString i).toList.map Char.toNat := by rw [← TL.tl_ofString]; exact hc
  obtain ⟨ch, _, rfl⟩ := List.mem_map.mp hc
  have := ch.valid
  simp only [UInt32.isValidChar, Nat.isValidChar] at this
  show ch.val.toNat < _
  omega
theorem c_int {σ0 : St} : CallR X (.type "int") (rC X CA W σ0 .int) := by
  refine CallR.one call_int1 (one_no (fun p q r => by obtain ⟨d, n⟩ := p; cases d <;> rfl) rfl) fun d n x H0 H M Ox Zx z Q pv hz hd => ?_
  cases d <;> first | (cases hz; done) | skip
  · cases hz
    obtain ⟨rfl, _⟩ := pv.rep.bl_inv
    exact .inr ⟨_, rfl, hd.val pv.same (.int _)⟩
  · cases hz
    obtain ⟨rfl, _⟩ := pv.rep.int_inv
    exact .inl ⟨_, rfl, hd.val pv.same (.int _)⟩
theorem keys_reps {K : PySem.W.Frag} {H : Hp} : ∀ {ks : List D} {kvs : List (Key × V)}, ks.map vKey = kvs.map (fun p => some p.1) → (∀ s, D.str s ∈ ks → Bd s) → Reps K CA H 0 ks (kvs.map fun p => kV p.1) [] []
  | [], [], _, _ => .nil
  | [], _ :: _, h, _ => by simp at h
  | _ :: _, [], h, _ => by simp at h
  | k :: ks, p :: kvs, h, hb => by
    simp only [List.map_cons, List.cons.injEq] at h
    have r := keys_reps (K := K) (H := H) h.2 fun s hs => hb s (by simp [hs])
    have r1 : Rep K CA H 0 k (kV p.1) [] [] := by
      obtain ⟨h1, _⟩ := h
      cases k <;> first | (cases h1; done) | skip
      · have := h1; simp only [vKey, Option.some.injEq] at this; rw [← this]; exact .int _
      · have := h1; simp only [vKey, Option.some.injEq] at this; rw [← this]; exact .str (hb _ (by simp))
    exact Reps.cons (O := []) (Z := []) r1 r
theorem ints_reps {K : PySem.W.Frag} {H : Hp} : ∀ l : List Int, Reps K CA H 0 (l.map D.int) (l.map V.int) [] []
  | [] => .nil
  | i :: r => Reps.cons (O := []) (Z := []) (.int i) (ints_reps r)
theorem call_listS (hc : X.calm = true) : CallR X (.type "list") (fun xs H Q => ∃ s : Cs, xs = [.str (mkS s)] ∧ s.length ≤ SZ ∧ ∀ p, H p = none → Q (.ref p) (upd H p (.lst (s.map fun c => V.str (mkS [c]))))) := by
  intro pins s σ H xs us Q I r q
  obtain ⟨cs, ex, hz, q⟩ := q
  subst ex
  obtain ⟨u, eu, rx⟩ := vals1 r
  subst eu
  obtain ⟨t, rfl⟩ := rx
  have hn : (mkS cs).cps.size ≤ sizeLine := by
    have := mkS_len cs
    unfold Str.length at this
    rw [this, SZ_eq]; exact hz
  refine call_list_str (hn := hn) (I.ok.hd hc) (mkS cs) t fun h' tk acc c' hk hD hacc => ?_
  have hl : acc.toList.length = cs.length := by
    rw [Array.length_toList, hacc.1]
    have := mkS_len cs
    unfold Str.length at this
    exact this
  have hv : Vals (cs.map fun c => V.str (mkS [c])) acc.toList := by
    have key : ∀ (l : List Nat) (ys : List Value), ys.length = l.length → (∀ (j : Nat) (v : Value), ys[j]? = some v → ∃ c u, l[j]? = some c ∧ v = .str ⟨#[c]⟩ u) → Vals (l.map fun c => V.str (mkS [c])) ys := by
      intro l
      induction l with
      | nil => intro ys hl _; rw [List.length_eq_zero_iff.mp hl]; exact .nil
      | cons a l ih =>
        intro ys hl h
        match ys, hl, h with
        | y :: ys, hl, h =>
          obtain ⟨c, u, e1, e2⟩ := h 0 y rfl
          cases e1
          exact .cons ⟨u, e2⟩ (ih ys (by simpa using hl) fun j v e => h (j + 1) v e)
    refine key cs acc.toList hl fun j v e => ?_
    obtain ⟨c, u, e1, e2⟩ := hacc.2 j v (by rw [← Array.getElem?_toList]; exact e)
    exact ⟨c, u, by rw [← Array.getElem?_toList] at e1; rw [mkS_tl] at e1; exact e1, e2⟩
  refine ⟨.ref s.heap.objs.size, upd H s.heap.objs.size (.lst (cs.map fun c => V.str (mkS [c]))), I.laid (t' := tk) hk (Nat.le_refl _)
    (show ObjOk X.prog X.w _ _ _ (.lst (cs.map fun c => V.str (mkS [c]))) from ⟨by rw [List.length_map, SZ_eq]; exact hz, acc.toList, c', hv, by rw [Array.toArray_toList]; exact hD⟩), rfl, q _ (I.hok.fresh (Nat.le_refl _))⟩
theorem signs_reps {K : PySem.W.Frag} {H : Hp} : ∀ l : Cs, Bd l → Reps K CA H 0 (l.map fun c => D.str [c]) (l.map fun c => V.str (mkS [c])) [] []
  | [], _ => .nil
  | c :: r, h => Reps.cons (O := []) (Z := []) (.str fun d hd => by rw [List.mem_singleton.mp hd]; exact h c (by simp)) (signs_reps r fun d hd => h d (by simp [hd]))
theorem c_list {σ0 : St} (hc : X.calm = true) : CallR X (.type "list") (rC X CA W σ0 .list) := by
  refine CallR.one (CallR.or (CallR.or call_list_of (call_listD hc)) (call_listS hc)) (one_no (fun p q r => by obtain ⟨d, n⟩ := p; cases d <;> rfl) rfl) fun d n x H0 H M Ox Zx z Q pv hz hd => ?_
  cases d <;> first | (cases hz; done) | skip
  · obtain ⟨h1, e⟩ := go_some (show go _ _ = _ from hz)
    cases e
    rename_i cs
    obtain ⟨rfl, _, _, hb⟩ := pv.rep.str_inv
    refine .inr ⟨cs, rfl, h1, fun p hp => ?_⟩
    obtain ⟨O, Z, pp⟩ := PVal.newList (CA := CA) (M := M) pv.same (signs_reps cs hb) (by simp) hp
    have hm : mdepL (cs.map fun c => D.str [c]) = 0 := Nat.le_zero.mp (mdepL_le fun d h => by obtain ⟨c, _, rfl⟩ := List.mem_map.mp h; simp [D.mdep])
    have e9 : lv1 (cs.map fun c => D.str [c]) = 9 := if_pos hm
    rw [e9] at pp
    exact hd _ _ _ _ pp
  · cases hz
    obtain ⟨a, vs, Z0, rfl, h1, r, z0⟩ := pv.tup_inv
    refine .inl <| .inl ⟨a, vs, rfl, .inr h1, fun l hl => ?_⟩
    obtain ⟨O, Z, pp⟩ := PVal.newList pv.same r z0 hl
    exact hd _ _ _ _ pp
  · cases hz
    obtain ⟨a, vs, Z0, rfl, h1, r, z0⟩ := pv.lst_inv
    refine .inl <| .inl ⟨a, vs, rfl, .inl (.of h1), fun l hl => ?_⟩
    obtain ⟨O, Z, pp⟩ := PVal.newList pv.same r z0 hl
    exact hd _ _ _ _ pp
  · cases hz
    obtain ⟨a, kvs, O', Z', m, rfl, h1, h2, _⟩ := pv.rep.dct_inv
    refine .inl <| .inr ⟨a, kvs, rfl, h1, fun p hp => ?_⟩
    obtain ⟨O, Z, pp⟩ := PVal.newList pv.same (keys_reps h2.1 h2.2.2) (by simp) hp
    exact hd _ _ _ _ pp
  · cases hz
    obtain ⟨a, rfl, h1, _⟩ := pv.rep.scr_inv
    refine .inl <| .inl ⟨a, _, rfl, .inl h1.l, fun p hp => ?_⟩
    obtain ⟨O, Z, pp⟩ := PVal.newList pv.same (ints_reps _) (by simp) hp
    exact hd _ _ _ _ pp
theorem mergeK_nodup : ∀ (kvs acc : List (L2.Key × V)), ((acc ++ kvs).map (·.1)).Nodup → mergeK acc kvs = acc ++ kvs
  | [], acc, _ => by simp [mergeK]
  | p :: r, acc, h => by
    have h1 : valV acc p.1 = none := by
      have : p.1 ∉ acc.map (·.1) := fun z => by
        rw [List.map_append, List.map_cons] at h
        exact (List.nodup_append.mp h).2.2 p.1 z p.1 (by simp) rfl
      unfold valV
      rw [Option.map_eq_none_iff, List.find?_eq_none]
      intro x hx e
      exact this (by have e : x.1 = p.1 := of_decide_eq_true e; rw [← e]; exact List.mem_map.mpr ⟨x, hx, rfl⟩)
    show mergeK (putK acc p.1 p.2) r = _
    rw [putK_new p.2 h1, mergeK_nodup r (acc ++ [(p.1, p.2)]) (by simpa using h)]
    simp
theorem Reps.cons_inv {K : PySem.W.Frag} {H : Hp} {n : Nat} {x : D} {xs : List D} {vs : List V} {O Z : List Addr} (r : Reps K CA H n (x :: xs) vs O Z) : ∃ v vs' O1 O2 Z1 Z2, vs = v :: vs' ∧ O = O1 ++ O2 ∧ Z = Z1 ++ Z2 ∧ Rep K CA H n x v O1 Z1 ∧ Reps K CA H n xs vs' O2 Z2 := by
  cases r with
  | cons a b => exact ⟨_, _, _, _, _, _, rfl, rfl, rfl, a, b⟩
theorem pairs_reps {K : PySem.W.Frag} {H : Hp} : ∀ {xs : List D} {vs : List V} {Z : List Addr} {ks us : List D}, Reps K CA H 0 xs vs [] Z → pairD xs = some (ks, us) → (∀ k ∈ ks, (vKey k).isSome = true) →
    ∃ (ps : List Addr) (kvs : List (Key × V)) (Z' : List Addr), vs = ps.map V.ref ∧ Paired (fun p kv => SqT K H p [kV kv.1, kv.2]) ps kvs ∧ ks.map vKey = kvs.map (fun p => some p.1) ∧ (∀ s, D.str s ∈ ks → Bd s) ∧ Reps K CA H 0 us (kvs.map (·.2)) [] Z' ∧ ∀ b ∈ Z', b ∈ Z
  | [], _, _, _, _, r, h, hk => by
    cases r
    cases h
    exact ⟨[], [], [], rfl, .nil, rfl, by simp, .nil, by simp⟩
  | x :: xs, vs, Z, ks, us, r, h, hk => by
    obtain ⟨k, v, rfl⟩ : ∃ k v, x = .tup [k, v] := by
      rw [pairD.eq_def] at h
      split at h
      · rename_i e; cases e
      · rename_i e; cases e; exact ⟨_, _, rfl⟩
      · cases h
    rw [pairD] at h
    obtain ⟨⟨ks', us'⟩, h1, h2⟩ := Option.map_eq_some_iff.mp h
    cases h2
    obtain ⟨v1, vs', O1, O2, Z1, Z2, rfl, hO, rfl, rx, rr⟩ := r.cons_inv
    obtain ⟨rfl, rfl⟩ := List.append_eq_nil_iff.mp hO.symm
    obtain ⟨ps, kvs, Z', e1, e2, e3, e4, e5, e6⟩ := pairs_reps rr h1 fun k hk' => hk k (by simp [hk'])
    obtain ⟨p, ws, rfl, ht, rw'⟩ := rx.tup_inv
    obtain ⟨a, ws', O3, O4, Z3, Z4, rfl, hO2, rfl, ra, rw2⟩ := rw'.cons_inv
    obtain ⟨rfl, rfl⟩ := List.append_eq_nil_iff.mp hO2.symm
    obtain ⟨b, ws2, O5, O6, Z5, Z6, rfl, hO3, rfl, rb, rw3⟩ := rw2.cons_inv
    obtain ⟨rfl, rfl⟩ := List.append_eq_nil_iff.mp hO3.symm
    cases rw3
    have hkk := hk k (by simp)
    obtain ⟨key, q1, q2, q3⟩ : ∃ key : Key, vKey k = some key ∧ a = kV key ∧ ∀ s, D.str s = k → Bd s := by
      cases k <;> first | (cases hkk; done) | skip
      · cases ra; exact ⟨_, rfl, rfl, fun s e => by cases e⟩
      · obtain ⟨rfl, _, _, hb⟩ := ra.str_inv; exact ⟨_, rfl, rfl, fun s e => by cases e; exact hb⟩
    subst q2
    refine ⟨p :: ps, (key, b) :: kvs, Z5 ++ Z', by simp [e1], .cons ht e2, by simp [q1, e3], fun s hs => ?_, ?_, fun c hc => ?_⟩
    · rcases List.mem_cons.mp hs with h | h
      · exact q3 s h
      · exact e4 s h
    · exact Reps.cons (O := []) rb e5
    · rcases List.mem_append.mp hc with z | z
      · simp [z]
      · have := e6 c z; simp [this]
theorem c_dict {σ0 : St} (hc : X.calm = true) : CallR X (.type "dict") (rC X CA W σ0 .dict) := by
  refine CallR.one (CallR.or call_dictD (call_dictP hc)) (one_no (fun p q r => by obtain ⟨d, n⟩ := p; cases d <;> first | rfl | (cases n <;> rfl)) rfl) fun d n x H0 H M Ox Zx z Q pv hz hd => ?_
  cases d <;> first | (cases hz; done) | skip
  · cases n with
    | zero => cases hz
    | succ n =>
    obtain ⟨⟨ks, us⟩, h1, h2⟩ := Option.bind_eq_some_iff.mp (show (pairD _).bind _ = some z from hz)
    obtain ⟨h3, h4⟩ := go_some h2
    cases h4
    simp only [keysU, Bool.and_eq_true, decide_eq_true_eq] at h3
    obtain ⟨k1, k2⟩ := h3
    have k1' : ∀ k ∈ ks, (vKey k).isSome = true := fun k hk => List.all_eq_true.mp k1 (vKey k) (List.mem_map.mpr ⟨k, hk, rfl⟩)
    obtain ⟨a, vs, Z0, rfl, hl, r, z0⟩ := pv.lst_inv
    obtain ⟨ps, kvs, Z', rfl, e2, e3, e4, e5, e6⟩ := pairs_reps r h1 k1'
    have nd : (kvs.map (·.1)).Nodup := by
      have : (kvs.map (·.1)).map some = ks.map vKey := by rw [e3, List.map_map]; rfl
      rw [← this] at k2
      exact (List.pairwise_map.mp k2).imp fun h e => h (by rw [e])
    have em : mergeK [] kvs = kvs := by have := mergeK_nodup kvs [] (by simpa using nd); simpa using this
    refine .inr ⟨a, ps, kvs, rfl, .of hl, e2, fun p hp => ?_⟩
    rw [em]
    obtain ⟨O, Z, pp⟩ := PVal.newDct (M := M) pv.same ⟨e3, nd, e4⟩ e5 (fun b hb => z0 b (e6 b hb)) hp
    exact hd _ _ _ _ pp
  · cases hz
    obtain ⟨a, kvs, O', Z', m, rfl, h1, h2, r, hO, hZ⟩ := pv.rep.dct_inv
    obtain ⟨Z0, r0, h0⟩ := r.zeroed
    refine .inl ⟨a, kvs, rfl, h1, fun p hp => ?_⟩
    obtain ⟨O, Z, pp⟩ := PVal.newDct (M := M) pv.same h2 r0 (fun b hb => by
      rcases h0 b hb with z | z
      · exact .inl (pv.fresh b (hO b z))
      · exact pv.zin b (hZ b z)) hp
    exact hd _ _ _ _ pp
theorem c_tuple {σ0 : St} : CallR X (.type "tuple") (rC X CA W σ0 .tuple) := by
  refine CallR.one call_tuple_of (one_no (fun p q r => by obtain ⟨d, n⟩ := p; cases d <;> rfl) rfl) fun d n x H0 H M Ox Zx z Q pv hz hd => ?_
  cases d <;> first | (cases hz; done) | skip
  · cases hz
    obtain ⟨a, vs, rfl, h1, r⟩ := pv.rep.tup_inv
    exact ⟨a, vs, rfl, .inr ⟨h1, hd _ _ _ _ pv⟩⟩
  · obtain ⟨hm, e⟩ := go_some (show go _ _ = _ from hz)
    cases e
    obtain ⟨a, vs, Z0, rfl, h1, r, z0⟩ := pv.lst_inv
    exact ⟨a, vs, rfl, .inl ⟨.of h1, fun l hl => hd _ _ _ _ (PVal.newTup pv.same r hm hl)⟩⟩
theorem c_bool {σ0 : St} : CallR X (.type "bool") (rC X CA W σ0 .bool) := by
  refine CallR.one call_bool1 (one_no (fun p q r => by obtain ⟨d, n⟩ := p; cases d <;> rfl) rfl) fun d n x H0 H M Ox Zx z Q pv hz hd => ?_
  cases d <;> first | (cases hz; done) | skip
  · cases hz
    obtain ⟨rfl, _⟩ := pv.rep.bl_inv
    exact .inr ⟨_, rfl, hd.val pv.same (.bl _)⟩
  · cases hz
    obtain ⟨rfl, _⟩ := pv.rep.int_inv
    exact .inl ⟨_, rfl, hd.val pv.same (.bl _)⟩
end
end Vy

namespace Vy
open PySem PySem.Spec
open PyProof.Rows hiding St
open L2
section
variable {X : Cx} {nm : Nm} {G : Glo} {CA : Nat → Addr} {cf : Runs} {W : WX}
theorem CallR.twoI {v : Value} {f : Bi} {σ0 : St} {g : Int → Int → Int} (h : CallR X v (fun xs H Q => ∃ i j, xs = [.int i, .int j] ∧ Q (.int (g i j)) H))
    (hf : ∀ ps z, bifD f ps = some z → (∃ p, ps = [p]) ∨ ∃ i n j m, ps = [(.int i, n), (.int j, m)] ∧ z = (.int (g i j), 9)) {r1 : List V → Hp → VK → Prop} (h1 : CallR X v r1)
    (w : ∀ (d : D) (n : Nat) x H0 H (M : Addr → Prop) Ox Zx (z : D × Nat) (Q : VK), PVal X.K CA M H0 H d n x Ox Zx → bifD f [(d, n)] = some z → Den X.K CA W M (.ok z) σ0 H0 Q → r1 [x] H Q) : CallR X v (rC X CA W σ0 f) := by
  refine CallR.weak (CallR.or h h1) fun vs H Q ⟨H0, M, ps, O, Z, s, pv, hd⟩ => ?_
  obtain ⟨z, hz, hd'⟩ := Den.ofv hd
  rcases hf ps z hz with ⟨p, rfl⟩ | ⟨i, n, j, m, rfl, rfl⟩
  · obtain ⟨v, rfl, q⟩ := pv.one_inv
    exact .inr (w _ _ v H0 H M O Z z Q q hz hd')
  · obtain ⟨v, w', O1, Z1, O2, Z2, rfl, p1, p2⟩ := pv.two_inv
    rw [p1.rep.int_inv.1, p2.rep.int_inv.1]
    exact .inl ⟨i, j, rfl, hd'.val s (.int _)⟩
theorem maxI_ge : ∀ (l : List Int) (m : Int), (maxI m l = m ∨ maxI m l ∈ l) ∧ m ≤ maxI m l ∧ ∀ y ∈ l, y ≤ maxI m l
  | [], m => ⟨.inl rfl, Int.le_refl _, by simp⟩
  | x :: r, m => by
    obtain ⟨a, b, c⟩ := maxI_ge r (if m < x then x else m)
    rw [maxI]
    by_cases h : m < x
    · rw [if_pos h] at a b c ⊢
      refine ⟨.inr (a.elim (fun z => by rw [z]; simp) fun z => by simp [z]), by omega, fun y hy => ?_⟩
      rcases List.mem_cons.mp hy with rfl | hy
      · exact b
      · exact c y hy
    · rw [if_neg h] at a b c ⊢
      refine ⟨a.imp id fun z => by simp [z], b, fun y hy => ?_⟩
      rcases List.mem_cons.mp hy with rfl | hy
      · omega
      · exact c y hy
theorem cr_maxE (hc : X.calm = true) : CallR X (.builtin "max") (fun vs H Q => ∃ (a : Addr) (n : Int) (ns : List Int), vs = [V.ref a] ∧ SqL X.K H a ((n :: ns).map V.int) ∧ Q (.int (maxI n ns)) H) := by
  intro pins s σ H vs us Q I r ⟨a, n, ns, e, h, q⟩
  refine cr_max hc pins s σ H vs us Q I r ⟨a, n :: ns, e, h, by simp, fun m hm hy => ?_⟩
  obtain ⟨h1, h2, h3⟩ := maxI_ge ns n
  have : m = maxI n ns := by
    have a1 : maxI n ns ≤ m := by
      rcases h1 with z | z
      · rw [z]; exact hy n (by simp)
      · exact hy _ (by simp [z])
    have a2 : m ≤ maxI n ns := by
      rcases List.mem_cons.mp hm with rfl | z
      · exact h2
      · exact h3 m z
    omega
  rw [this]; exact q
theorem c_max {σ0 : St} (hc : X.calm = true) : CallR X (.builtin "max") (rC X CA W σ0 .max) := by
  refine CallR.twoI (g := fun i j => if i < j then j else i) ?_ ?_ (cr_maxE hc) fun d n x H0 H M Ox Zx z Q pv hz hd => ?_
  · exact CallR.weak (call_max2 hc) fun xs H Q ⟨i, j, e, q⟩ => ⟨i, j, e, q⟩
  · intro ps z h
    match ps, h with
    | [], h => cases h
    | [p], _ => exact .inl ⟨p, rfl⟩
    | (d, n) :: (e, m) :: r, h =>
      cases d <;> first | (cases h; done) | skip
      all_goals (cases e <;> first | (cases h; done) | skip)
      all_goals (cases r <;> first | (cases h; done) | skip)
      cases h; exact .inr ⟨_, n, _, m, rfl, rfl⟩
  · cases d <;> first | (cases hz; done) | skip
    rename_i xs
    have hz : (match intsOf xs with | some (i :: is) => some (D.int (maxI i is), 9) | _ => none) = some z := hz
    obtain ⟨a, vs, Z0, rfl, h1, r, _⟩ := pv.lst_inv
    cases hi : intsOf xs with
    | none => rw [hi] at hz; cases hz
    | some l =>
      rw [hi] at hz
      cases l with
      | nil => cases hz
      | cons i is =>
        cases hz
        have := int_list r hi
        subst this
        exact ⟨a, i, is, rfl, .of h1, hd.val pv.same (.int _)⟩
def biS : Bi → String
  | .len => "len" | .all => "all" | .any => "any" | .sum => "sum" | .min => "min" | .max => "max" | .maxd => "max" | .maxs => "max" | .sorted => "sorted" | .str => "str" | .int => "int" | .bool => "bool" | .ord => "ord" | .list => "list" | .tuple => "tuple" | .dict => "dict" | .setlen => "len" | .lzip => "list"
def biV : Bi → Value
  | .str => .type "str" | .int => .type "int" | .bool => .type "bool" | .list => .type "list" | .tuple => .type "tuple" | .dict => .type "dict"
  | f => .builtin (biS f)
def biOk : Bi → Bool
  | .len => true | .all => true | .any => true | .sum => true | .max => true | .str => true | .int => true | .bool => true | .ord => true | .list => true | .tuple => true | .dict => true
  | _ => false
theorem c_bif {σ0 : St} (hc : X.calm = true) : ∀ f, biOk f = true → CallR X (biV f) (rC X CA W σ0 f)
  | .len, _ => c_len
  | .all, _ => c_all hc
  | .any, _ => c_any hc
  | .sum, _ => c_sum hc
  | .max, _ => c_max hc
  | .str, _ => c_str
  | .int, _ => c_int
  | .bool, _ => c_bool
  | .ord, _ => c_ord
  | .list, _ => c_list hc
  | .tuple, _ => c_tuple
  | .min, h => by cases h
  | .maxd, h => by cases h
  | .maxs, h => by cases h
  | .sorted, h => by cases h
  | .dict, _ => c_dict hc
  | .setlen, h => by cases h
  | .lzip, h => by cases h
theorem bi_boot : ∀ f, biOk f = true → bootBuiltins (Str.ofString (biS f)) = some (biV f) := by
  intro f h
  cases f <;> first | (cases h; done) | (decide +kernel)
theorem e_bif {np : Nat → Option Nat} {bl : List Str} {f : Bi} {x : Str} {cs : List C} {e : Expr} {es : List Expr} {p pos : Pos} (C : CtxOk X nm G CA cf np bl) (hf : biOk f = true) (hx : x = Str.ofString (biS f)) (hb : x ∈ bl) (hg : Gl X x)
    (ha : PA X (e :: es) (tL X G CA cf W cs)) (hdb : (x == ("__debug__" : Str)) = false) (hnn : x ≠ "__name__") (hs : (e :: es).all noStar = true) : PE X (.Call (.Name x p) (e :: es) [] pos) (tE X G CA cf W (.bif f cs)) := by
  refine ⟨fun pins s σ H Q I ⟨S, sr, h⟩ => ?_⟩
  have hm := C.blt x hb
  have hv : bootBuiltins x = some (biV f) := by rw [hx]; exact bi_boot f hf
  have hr := c_bif (X := X) (CA := CA) (W := W) (σ0 := σ) C.calm f hf
  rw [List.all_cons, Bool.and_eq_true] at hs
  rw [ev] at h
  have key : tCB (rC X CA W σ f) (tL X G CA cf W cs) σ H Q := ⟨S, sr, DenL.seq (Same.refl H) h fun ps vs H2 O Z e1 s2 pv hd => ⟨H, _, ps, O, Z, s2, pv, hd⟩⟩
  cases f <;> first | (cases hf; done) | exact (pe_callB hr hg hm hv ha hnn hdb (star_cons hs.1) (back_any hs.2)).run pins s σ H Q I key | exact (pe_callTy hr hg hm hv ha hnn hdb (star_cons hs.1) (back_any hs.2)).run pins s σ H Q I key
end
end Vy

namespace Vy
open PySem PySem.Spec
open PyProof.Rows hiding St
open L2
theorem joinL_bd (S : Cs) (hS : Bd S) : ∀ ps : List Cs, (∀ p ∈ ps, Bd p) → Bd (TL.joinL S ps)
  | [], _ => Bd.nil
  | [p], h => h p (by simp)
  | p :: q :: r, h => (h p (by simp)).app (hS.app (joinL_bd S hS (q :: r) fun x hx => h x (by simp [hx])))
theorem lv1_strs (l : List Cs) : lv1 (l.map D.str) = 9 := by unfold lv1; rw [if_pos (mdepL_strs l)]
section
variable {X : Cx} {nm : Nm} {G : Glo} {CA : Nat → Addr} {cf : Runs} {W : WX}
theorem recv_str {m : Me} {d : D} (hm : m ≠ .index ∧ m ≠ .count ∧ m ≠ .get) (h : recvOk m d = true) : ∃ s, d = .str s := by
  cases d <;> first | exact ⟨_, rfl⟩ | (cases m <;> first | (cases h; done) | exact absurd rfl hm.1 | exact absurd rfl hm.2.1 | exact absurd rfl hm.2.2)
theorem e_m1 {m : Me} {id : String} {name : Str} {apos pos : Pos} {r : V → List V → Hp → VK → Prop} (slot : Slot "str" name id) (ty : typeOf (.builtin id) = pure (.type "method_descriptor")) (rule : MtR X id r) (hm : m ≠ .index ∧ m ≠ .count ∧ m ≠ .get)
    {o c : C} {eo e : Expr} (ho : PE X eo (tE X G CA cf W o)) (he : PE X e (tE X G CA cf W c)) (hs : noStar e = true) (hb : noSup eo = true) (hl : (apos.endLine == pos.line) = true)
    (w : ∀ (s : Cs) (d : D) (n k : Nat) v H0 H (M : Addr → Prop) O Z (z : D × Nat) (Q : VK) (σ0 : St), Bd s → PVal X.K CA M H0 H d n v O Z → methD m (.str s, k) [(d, n)] = some z → Den X.K CA W M (.ok z) σ0 H0 Q → r (.str (mkS s)) [v] H Q) :
    PE X (.Call (.Attribute eo name apos) [e] [] pos) (tE X G CA cf W (.mth m o [c])) := by
  refine PE.weak (pe_m1 slot ty rule ho he (by rw [star_cons hs]; rfl) (base_ok hb) hl) fun σ H Q ⟨S, sr, h⟩ => ?_
  rw [ev] at h
  refine ⟨S, sr, Den.seq (Same.refl H) h fun p x H1 O Z e1 pv hd => ?_⟩
  obtain ⟨hr, hd⟩ := hd.gd
  obtain ⟨d0, k⟩ := p
  obtain ⟨s, hs'⟩ := recv_str hm hr
  subst hs'
  obtain ⟨ex, _, _, hbd⟩ := pv.rep.str_inv
  refine ⟨⟨_, ex⟩, ?_⟩
  have hd' : Den X.K CA W (Nod S (names (.mth m o [c]))) ((ev G cf (envOf S) c).bind fun y => Out.of (methD m (.str s, k) [y])) σ H Q := by
    simp only [evs] at hd
    cases e2 : ev G cf (envOf S) c <;> rw [e2] at hd <;> exact hd
  refine ⟨S, sr.same pv.same, Den.seq pv.same hd' fun q y H2 O' Z' e2 pw hd2 => ?_⟩
  obtain ⟨z, hz, hd3⟩ := Den.ofv hd2
  rw [ex]
  exact w s q.1 q.2 k y H H2 _ O' Z' z Q σ hbd ((pw.ahead pv.same).mono fun a h => Nod.r (by simpa [namesL] using h)) hz hd3
theorem e_join {o c : C} {eo e : Expr} {apos pos : Pos} (ho : PE X eo (tE X G CA cf W o)) (he : PE X e (tE X G CA cf W c)) (hs : noStar e = true) (hb : noSup eo = true) (hl : (apos.endLine == pos.line) = true) : PE X (.Call (.Attribute eo "join" apos) [e] [] pos) (tE X G CA cf W (.mth .join o [c])) := by
  refine e_m1 F.slot_str_join F.type_str_join mt_join (by decide) ho he hs hb hl fun s d n k v H0 H M O Z z Q σ0 hbd pv hz hd => ?_
  obtain ⟨xs, hx, hz⟩ := Option.bind_eq_some_iff.mp (show (seqOf d).bind _ = some z from hz)
  obtain ⟨ps, hp, hz⟩ := Option.bind_eq_some_iff.mp hz
  split at hz
  · rename_i hl
    cases hz
    have fin : ∀ {a : Addr} {vs : List V} {Z0 : List Addr}, v = .ref a → (SqL X.K H a vs ∨ SqT X.K H a vs) → Reps X.K CA H 0 xs vs [] Z0 → ∃ (a' : Str) (p : Addr) (ys : List Str), V.str (mkS s) = .str a' ∧ [v] = [.ref p] ∧ (SqL X.K H p (ys.map V.str) ∨ SqT X.K H p (ys.map V.str)) ∧ (ys.map (·.length)).sum + ys.length * a'.length ≤ 16777216 ∧ Q (.str (Txt.join a' ys)) H := by
      intro a vs Z0 ea ha r
      obtain ⟨e, hb⟩ := str_list r hp
      subst e
      refine ⟨_, a, ps.map mkS, rfl, by rw [ea], by simpa [List.map_map, Function.comp_def] using ha, ?_, ?_⟩
      · have : (ps.map mkS).map (·.length) = ps.map (·.length) := by rw [List.map_map]; exact List.map_congr_left fun x _ => mkS_len x
        rw [this, List.length_map, mkS_len]
        exact hl
      · have e : Txt.join (mkS s) (ps.map mkS) = mkS (TL.joinL s ps) := by
          rw [TL.join_eq]
          apply TL.ext_tl
          rw [TL.tl_join]
          show TL.joinL (mkS s).cps.toList _ = (mkS _).cps.toList
          rw [mkS_tl, mkS_tl, List.map_map]
          congr 1
          exact (List.map_congr_left fun x _ => mkS_tl x).trans (List.map_id _)
        rw [e]
        exact hd.val pv.same (.str (joinL_bd s hbd ps hb))
    cases d <;> first | (cases hx; done) | skip
    · cases hx
      obtain ⟨a, vs, Z0, e, h1, r, _⟩ := pv.tup_inv
      exact fin e (.inr h1) r
    · cases hx
      obtain ⟨a, vs, Z0, e, h1, r, _⟩ := pv.lst_inv
      exact fin e (.inl (.of h1)) r
    · cases hx
      obtain ⟨a, e, h1, _⟩ := pv.rep.scr_inv
      exact fin e (.inl h1.l) (ints_reps _)
  · cases hz
def ikS : IK → String
  | .str => "str" | .int => "int" | .bool => "bool" | .tuple => "tuple" | .list => "list" | .dict => "dict" | .cls _ => ""
def ikOk : IK → Bool
  | .cls _ => false
  | _ => true
def tyS : D → Option String
  | .non => some "NoneType" | .bl _ => some "bool" | .int _ => some "int" | .str _ => some "str" | .tup _ => some "tuple" | .lst _ => some "list" | .scr _ => some "list" | .dct _ _ => some "dict"
  | _ => none
theorem kit_all (d : D) (t : String) (h : tyS d = some t) (k : IK) (hk : ikOk k = true) : kitB t (ikS k) = some (isaD G.cm d k) := by
  cases d <;> first | (cases h; done) | skip
  all_goals (cases h; cases k <;> first | (cases hk; done) | (show kitB _ _ = some true; decide +kernel) | (show kitB _ _ = some false; decide +kernel))
theorem tyx_of {H : Hp} {d : D} {n : Nat} {v : V} {O Z : List Addr} {t : String} (r : Rep X.K CA H n d v O Z) (h : tyS d = some t) : TyX X.K H v (.type t) := by
  cases r with
  | non => cases h; exact .base .non
  | bl b => cases h; exact .base (.bl b)
  | int i => cases h; exact .base (.int i)
  | str s => cases h; exact .base (.str _)
  | cls => cases h
  | scr e =>
    cases h
    rcases e with ⟨o, e⟩ | e
    · exact .base (.frz e)
    · rcases e (fun _ => none) with (z | ⟨_, z⟩) | ⟨o, its, n, h1, h2, _⟩
      · cases z
      · cases z
      · exact .kList h1 h2
  | tup e r =>
    cases h
    rcases e with (z | ⟨_, z⟩) | ⟨o, its, n, h1, h2, _⟩
    · exact .base (.tup z)
    · exact .fTuple z
    · exact .kTuple h1 h2
  | lstO e r => cases h; exact .base (.lst e)
  | lstZ e r => cases h; exact .base (.lst e)
  | dctO e _ r => cases h; exact .base (.dK e)
  | dctZ e _ r =>
    cases h
    rcases e with z | ⟨_, z⟩
    · exact .base (.dK z)
    · exact .fDict z
  | insO e _ r => cases h
  | insZ e _ r => cases h
  | fz _ _ _ => cases h
  | hol => cases h
theorem e_isi {np : Nat → Option Nat} {bl : List Str} {k : IK} {c : C} {e : Expr} {x : Str} {pp p2 pos : Pos} (C : CtxOk X nm G CA cf np bl) (hk : ikOk k = true) (hx : x = Str.ofString (ikS k)) (hb : x ∈ bl) (hi : ("isinstance" : Str) ∈ bl) (hg : Gl X x) (hgi : Gl X "isinstance")
    (he : PE X e (tE X G CA cf W c)) (hs : noStar e = true) (hnn : x ≠ "__name__") (hdb : (x == ("__debug__" : Str)) = false) : PE X (.Call (.Name "isinstance" pp) [e, .Name x p2] [] pos) (tE X G CA cf W (.isi c k)) := by
  have hm := C.blt x hb
  have hv : bootBuiltins x = some (.type (ikS k)) := by
    rw [hx]
    cases k <;> first | (cases hk; done) | decide +kernel
  have pt : PE X (.Name x p2) (tC (.ty (ikS k))) := pe_bltn (v := .ty (ikS k)) hg hm hv rfl hnn hdb
  refine PE.weak (pe_callB call_isi hgi (C.blt _ hi) boot_isinstance (pa_cons he (pa_cons pt pa_nil (by rfl)) (star_cons hs)) (by decide +kernel) (by decide +kernel) (star_cons hs) (by rfl)) fun σ H Q ⟨S, sr, h⟩ => ?_
  rw [ev] at h
  refine ⟨S, sr, Den.seq (Same.refl H) h fun q v H1 O Z e1 pv hd => ?_⟩
  obtain ⟨d, n⟩ := q
  obtain ⟨hi, hd⟩ := hd.gd
  cases ht : tyS d with
  | none => cases d <;> first | (cases ht; done) | (cases k <;> cases hi)
  | some t => exact ⟨v, .ty (ikS k), .type t, .type (ikS k), isaD G.cm d k, rfl, .ty _, tyx_of pv.rep ht, kit_ty (kit_all d t ht k hk), hd.val pv.same (.bl _)⟩
end
end Vy

namespace Vy
open PySem PySem.Spec
open PyProof.Rows hiding St
open L2
structure Walk (K : PySem.W.Frag) (CA : Nat → Addr) (J : It) (xs : List D) (Ns : List Addr) (P : Hp → Prop) : Prop where
  go : ∀ i H, i < xs.length → P H → J.go i H
  stop : ∀ H, P H → J.stop xs.length H
  yld : ∀ i H x H' d, P H → xs[i]? = some d → J.yld i H x H' → Same H H' ∧ ∃ Z, Rep K CA H' 0 d x [] Z ∧ ∀ a ∈ Z, a ∈ Ns
  keep : ∀ F H H', P H → Keep F H H' → Fix F H → (∀ a ∈ Ns, a ∉ F) → P H'
  there : ∀ H, P H → ∀ a ∈ Ns, H a ≠ none
section
variable {K : PySem.W.Frag} {CA : Nat → Addr}
theorem Reps.get0' {H : Hp} {ds : List D} {vs : List V} {Z : List Addr} (i : Nat) (d : D) (r : Reps K CA H 0 ds vs [] Z) (h : ds[i]? = some d) : ∃ v Z1, vs[i]? = some v ∧ Rep K CA H 0 d v [] Z1 ∧ ∀ a ∈ Z1, a ∈ Z := r.get0 i d h
theorem Reps.lt {H : Hp} {n : Nat} {ds : List D} {vs : List V} {O Z : List Addr} (r : Reps K CA H n ds vs O Z) {i : Nat} (h : i < ds.length) : ∃ v, vs[i]? = some v := by
  rw [r.length] at h; exact ⟨_, List.getElem?_eq_getElem h⟩
theorem walk_list {a : Addr} {xs : List D} {Ns : List Addr} (ha : a ∈ Ns) : Walk K CA (Itl K a) xs Ns (fun H => ∃ vs Z, H a = some (.lst vs) ∧ Reps K CA H 0 xs vs [] Z ∧ (∀ b ∈ Z, b ∈ Ns) ∧ ∀ b ∈ Ns, H b ≠ none) where
  go := fun i H hi ⟨vs, Z, h1, r, _⟩ => let ⟨v, hv⟩ := r.lt hi; ⟨vs, v, .of h1, hv⟩
  stop := fun H ⟨vs, Z, h1, r, _⟩ => ⟨vs, .of h1, by rw [r.length]; exact Nat.le_refl _⟩
  yld := fun i H x H' d ⟨vs, Z, h1, r, hz, _⟩ hd ⟨e, y⟩ => by
    subst e
    obtain ⟨v, Z1, hv, rv, h2⟩ := r.get0' i d hd
    have := y vs (.of h1)
    rw [hv] at this; cases this
    exact ⟨Same.refl _, Z1, rv, fun b hb => hz b (h2 b hb)⟩
  keep := fun F H H' ⟨vs, Z, h1, r, hz, ht⟩ k f hn => ⟨vs, Z, k _ _ h1 (hn a ha), r.keep k f (fun b hb => hn b (hz b (by simpa using hb))), hz, fun b hb => by
    cases e : H b with
    | none => exact absurd e (ht b hb)
    | some o => rw [k b o e (hn b hb)]; simp⟩
  there := fun H ⟨vs, Z, h1, r, hz, ht⟩ => ht
theorem walk_tup {a : Addr} {xs : List D} {Ns : List Addr} : Walk K CA (Itt K a) xs Ns (fun H => ∃ vs Z, SqT K H a vs ∧ Reps K CA H 0 xs vs [] Z ∧ (∀ b ∈ Z, b ∈ Ns) ∧ ∀ b ∈ Ns, H b ≠ none) where
  go := fun i H hi ⟨vs, Z, h1, r, _⟩ => let ⟨v, hv⟩ := r.lt hi; ⟨vs, v, h1, hv⟩
  stop := fun H ⟨vs, Z, h1, r, _⟩ => ⟨vs, h1, by rw [r.length]; exact Nat.le_refl _⟩
  yld := fun i H x H' d ⟨vs, Z, h1, r, hz, _⟩ hd ⟨e, y⟩ => by
    subst e
    obtain ⟨v, Z1, hv, rv, h2⟩ := r.get0' i d hd
    have := y vs h1
    rw [hv] at this; cases this
    exact ⟨Same.refl _, Z1, rv, fun b hb => hz b (h2 b hb)⟩
  keep := fun F H H' ⟨vs, Z, h1, r, hz, ht⟩ k f hn => ⟨vs, Z, SqT_keep h1 k f, r.keep k f (fun b hb => hn b (hz b (by simpa using hb))), hz, fun b hb => by
    cases e : H b with
    | none => exact absurd e (ht b hb)
    | some o => rw [k b o e (hn b hb)]; simp⟩
  there := fun H ⟨vs, Z, h1, r, hz, ht⟩ => ht
theorem walk_scr {a : Addr} {ns : List Int} : Walk K CA (Itl K a) (ns.map D.int) [] (fun H => SqZ K H a (ns.map V.int)) where
  go := fun i H hi h1 => ⟨_, .int (ns[i]'(by simpa using hi)), h1.l, by simp at hi; simp [List.getElem?_map, hi]⟩
  stop := fun H h1 => ⟨_, h1.l, by simp⟩
  yld := fun i H x H' d h1 hd ⟨e, y⟩ => by
    subst e
    have q := y _ h1.l
    rw [List.getElem?_map] at q hd
    cases h : ns[i]? with
    | none => rw [h] at hd; cases hd
    | some n => rw [h] at q hd; cases q; cases hd; exact ⟨Same.refl _, [], .int n, by simp⟩
  keep := fun F H H' h1 k f hn => SqZ_keep h1 k f
  there := fun H _ a h => by simp at h
theorem walk_str {s : Cs} (hb : Bd s) : Walk K CA (Its (mkS s)) (s.map fun c => .str [c]) [] (fun _ => True) where
  go := fun i H hi _ => by simpa [Its, mkS] using hi
  stop := fun H _ => by simp [Its, mkS]
  yld := fun i H x H' d _ hd ⟨e, c, hc, hx⟩ => by
    subst e; subst hx
    rw [List.getElem?_map] at hd
    have hc : s[i]? = some c := by simpa [mkS] using hc
    rw [hc] at hd; cases hd
    exact ⟨Same.refl _, [], .str (s := [c]) fun a q => by simp at q; subst q; exact hb _ (List.mem_of_getElem? hc), by simp⟩
  keep := fun _ _ _ _ _ _ _ => trivial
  there := fun H _ a h => by simp at h
theorem walk_rng {lo : Int} {n : Nat} : Walk K CA (Itr lo n) ((List.range n).map fun k => .int (lo + (k : Nat))) [] (fun _ => True) where
  go := fun i H hi _ => by simpa [Itr] using hi
  stop := fun H _ => by simp [Itr]
  yld := fun i H x H' d _ hd ⟨e, hx⟩ => by
    subst e; subst hx
    rw [List.getElem?_map] at hd
    obtain ⟨k, hk, e⟩ := Option.map_eq_some_iff.mp hd
    have : k = i := by
      obtain ⟨h1, h2⟩ := List.getElem?_eq_some_iff.mp hk
      simpa using h2.symm
    subst this; subst e
    exact ⟨Same.refl _, [], .int _, by simp⟩
  keep := fun _ _ _ _ _ _ _ => trivial
  there := fun H _ a h => by simp at h
def DenI (K : PySem.W.Frag) (CA : Nat → Addr) (W : WX) (M : D × Nat → Addr → Prop) (o : Out (D × Nat)) (σ : St) (H : Hp) (R : It → Hp → Prop) : Prop :=
  match o with
  | .ok p => ∃ xs, itemsOf p.1 = some xs ∧ ∀ J H' Ns P, Same H H' → P H' → Walk K CA J xs Ns P → (∀ a ∈ Ns, H a = none ∨ M p a) → R J H'
  | .exc e => ∀ cls dd H', Same H H' → ExRep K CA e cls dd H' → W cls dd σ H'
  | .bad => False
def Mi (S : Slots) (it : C) (p : D × Nat) (a : Addr) : Prop := ¬ p.1.mdep ≤ p.2 ∧ Nod S (names it) a
def tI (X : Cx) (G : Glo) (CA : Nat → Addr) (cf : Runs) (W : WX) (it : C) : TI := fun σ H R => ∃ S, SRep X.K CA S σ H ∧ DenI X.K CA W (Mi S it) (ev G cf (envOf S) it) σ H R
end
section
variable {X : Cx} {nm : Nm} {G : Glo} {CA : Nat → Addr} {cf : Runs} {W : WX} {tg : Expr}
theorem iter_list {pins : List (Addr × Obj)} {σ : St} {H : Hp} {s : Shared} {a : Addr} {xs : List V} {R : It → Hp → Prop} {E : Value → Shared → Prop} (I : Inv X pins σ H s) (hq : SqL X.K H a xs) (q : R (Itl X.K a) H) :
    wpAny (model X.prog X.w) X.A (pyIter (.ref a)) (PIE X pins σ tg R) E s := by
  obtain ⟨its, rv, p, hz⟩ := I.list hq
  refine wpAny_pyIter_list p.isList ?_
  refine ⟨s.heap.objs.size, [s.heap.objs.size], _, _, H, rfl, I.kept (t' := s.toks) fun b o e => Heap.get?_push_of_some _ e, turn_list a _, ⟨_, Heap.get?_push_size _ rfl, rfl, rfl⟩, fun b hb => ?_, q⟩
  have e : b = s.heap.objs.size := by simpa using hb
  subst e
  exact I.fpOk (Nat.le_refl _) (I.hok.fresh (Nat.le_refl _))
theorem iter_tup {pins : List (Addr × Obj)} {σ : St} {H : Hp} {s : Shared} {a : Addr} {xs : List V} {R : It → Hp → Prop} {E : Value → Shared → Prop} (I : Inv X pins σ H s) (hq : SqT X.K H a xs) (q : R (Itt X.K a) H) :
    wpAny (model X.prog X.w) X.A (pyIter (.ref a)) (PIE X pins σ tg R) E s := by
  obtain ⟨its, rv, p, hz⟩ := I.tuple hq
  refine wpAny_pyIter_tuple (show s.heap.IsTuple a its.toArray from p) ?_
  refine ⟨s.heap.objs.size, [s.heap.objs.size], _, _, H, rfl, I.kept (t' := s.toks) fun b o e => Heap.get?_push_of_some _ e, turn_tuple a _, ⟨_, Heap.get?_push_size _ rfl, rfl, rfl⟩, fun b hb => ?_, q⟩
  have e : b = s.heap.objs.size := by simpa using hb
  subst e
  exact I.fpOk (Nat.le_refl _) (I.hok.fresh (Nat.le_refl _))
theorem iter_str {pins : List (Addr × Obj)} {σ : St} {H : Hp} {s : Shared} {x : Str} {t : Tok} {R : It → Hp → Prop} (I : Inv X pins σ H s) (q : R (Its x) H) :
    wpAny (model X.prog X.w) X.A (pyIter (.str x t)) (PIE X pins σ tg R) X.xe s := by
  cases ha : x.cps.all (· < 128)
  · exact wpAny_pyIter_wide ha (pi_one (tk := s.toks) I _ (turn_str _ x t "str_iterator" (.inr rfl)) ⟨_, Heap.get?_push_size _ rfl, rfl, rfl⟩ q)
  · exact wpAny_pyIter_ascii ha (pi_one (tk := s.toks) I _ (turn_str _ x t "str_ascii_iterator" (.inl rfl)) ⟨_, Heap.get?_push_size _ rfl, rfl, rfl⟩ q)
theorem i_val {c : C} {e : Expr} (h : PE X e (tE X G CA cf W c)) : PI X tg e (tI X G CA cf W c) := by
  refine ⟨fun pins s σ H R I ⟨S, sr, hd⟩ => ?_⟩
  let Q : VK := fun v H1 => ∃ (d : D) (n : Nat) (O Z : List Addr) (xs : List D), PVal X.K CA (Nod S (names c)) H H1 d n v O Z ∧ itemsOf d = some xs ∧ (∀ ks vs, d ≠ .dct ks vs) ∧
    ∀ J H' Ns P, Same H H' → P H' → Walk X.K CA J xs Ns P → (∀ a ∈ Ns, H a = none ∨ Mi S c (d, n) a) → R J H'
  refine thn (h.run pins s σ H Q I ⟨S, sr, ?_⟩) fun v s1 ⟨x, H1, I1, r1, d, n, O, Z, xs, pv, hx, hnd, q⟩ => ?_
  · cases e : ev G cf (envOf S) c with
    | ok p => rw [e] at hd; obtain ⟨xs, hx, q⟩ := hd; exact fun v H' O Z pv => ⟨p.1, p.2, O, Z, xs, pv, hx, (fun ks vs e => by rw [e] at hx; cases hx), q⟩
    | exc z => rw [e] at hd; exact hd
    | bad => rw [e] at hd; exact hd
  · have ns : ∀ a ∈ O ++ Z, H a = none ∨ Mi S c (d, n) a := fun a ha => by
      by_cases hf : d.mdep ≤ n
      · have := pv.rep.full hf
        subst this
        exact .inl (pv.fresh a (by simpa using ha))
      · rcases List.mem_append.mp ha with z | z
        · exact .inl (pv.fresh a z)
        · exact (pv.zin a z).imp id fun w => ⟨hf, w⟩
    have low : ∀ {vs : List V} {m : Nat} {O' Z' : List Addr}, Reps X.K CA H1 m xs vs O' Z' → (∀ b ∈ O', b ∈ O) → (∀ b ∈ Z', b ∈ Z) → ∃ Z0, Reps X.K CA H1 0 xs vs [] Z0 ∧ ∀ b ∈ Z0, b ∈ O ++ Z := fun r h1 h2 => by
      obtain ⟨Z0, r0, h0⟩ := r.zeroed
      exact ⟨Z0, r0, fun b hb => (h0 b hb).elim (fun z => by simp [h1 b z]) fun z => by simp [h2 b z]⟩
    cases d <;> first | (cases hx; done) | exact absurd rfl (hnd _ _) | skip
    · cases hx
      obtain ⟨rfl, _, _, hb⟩ := pv.rep.str_inv
      obtain ⟨t, rfl⟩ := r1
      exact iter_str I1 (q _ H1 [] _ pv.same trivial (walk_str hb) (by simp))
    · cases hx
      obtain ⟨a, vs, rfl, h1, r⟩ := pv.rep.tup_inv
      cases r1
      obtain ⟨Z0, r0, h0⟩ := low r (fun b h => h) fun b h => h
      exact iter_tup I1 h1 (q _ H1 (O ++ Z) _ pv.same ⟨vs, Z0, h1, r0, h0, fun b hb => pv.rep.there b hb⟩ walk_tup ns)
    · cases hx
      obtain ⟨a, vs, O', Z', m, rfl, h1, r, hO, hZ⟩ := pv.rep.lst_inv
      cases r1
      obtain ⟨Z0, r0, h0⟩ := low r hO hZ
      have ha : a ∈ O ++ Z := by
        have := pv.rep
        cases this with
        | lstO _ _ => simp
        | lstZ _ _ => simp
      exact iter_list I1 (.of h1) (q _ H1 (O ++ Z) _ pv.same ⟨vs, Z0, h1, r0, h0, fun b hb => pv.rep.there b hb⟩ (walk_list ha) ns)
    · cases hx
      obtain ⟨a, rfl, h1, _⟩ := pv.rep.scr_inv
      cases r1
      exact iter_list I1 h1.l (q _ H1 [] _ pv.same h1 walk_scr (by simp))

theorem i_rng1 {np : Nat → Option Nat} {bl : List Str} {c : C} {e : Expr} {p pos : Pos} (C : CtxOk X nm G CA cf np bl) (hr : ("range" : Str) ∈ bl) (hg : Gl X "range") (h : PE X e (tE X G CA cf W c)) (hs : noStar e = true) : PI X tg (.Call (.Name "range" p) [e] [] pos) (tI X G CA cf W (.rng [c])) := by
  refine ⟨fun pins s σ H R I ⟨S, sr, hd⟩ => (pi_range1 hg (C.blt _ hr) (a_cons h a_nil (star_cons hs)) (by rw [star_cons hs]; rfl)).run pins s σ H R I ⟨S, sr, ?_⟩⟩
  have hd' : DenI X.K CA W (Mi S (.rng [c])) ((evs G cf (envOf S) [c]).bind fun ps => (rngD (ps.map (·.1))).bind fun xs => .ok (.lst xs, 9)) σ H R := by rw [ev] at hd; exact hd
  cases e1 : evs G cf (envOf S) [c] with
  | exc x => rw [e1] at hd'; exact hd'
  | bad => rw [e1] at hd'; exact hd'
  | ok ps =>
    rw [e1] at hd'
    intro vs H1 O Z s1 pv
    simp only [evs] at e1
    cases e2 : ev G cf (envOf S) c with
    | exc x => rw [e2] at e1; cases e1
    | bad => rw [e2] at e1; cases e1
    | ok q =>
      rw [e2] at e1; cases e1
      obtain ⟨v, rfl, p1⟩ := pv.one_inv
      obtain ⟨d, n⟩ := q
      cases d <;> first | exact hd'.elim | skip
      simp only [List.map_cons, List.map_nil, Out.bind_ok, rngD] at hd'
      unfold gd at hd'
      split at hd'
      · rename_i hb
        obtain ⟨xs, hx, q⟩ := hd'
        cases hx
        refine ⟨_, by rw [p1.rep.int_inv.1], hb.1, hb.2, ?_⟩
        refine q _ H1 [] (fun _ => True) s1 trivial ?_ (by simp)
        unfold rangeD
        rw [Int.sub_zero]
        exact walk_rng
      · exact hd'.elim
end
end Vy

namespace Vy
open PySem PySem.Spec
open PyProof.Rows hiding St
open L2
theorem compL_exc {f : D → Out (Option (D × Nat))} : ∀ {xs : List D} {e : Exn}, compL f xs ≠ .exc e
  | [], _ => fun h => by cases h
  | x :: xs, e => fun h => by
    unfold compL at h
    split at h
    · cases q : compL f xs with
      | ok ys => rw [q] at h; simp only [Out.bind_ok] at h; unfold gd at h; split at h <;> cases h
      | exc e' => exact compL_exc q
      | bad => rw [q] at h; cases h
    · exact compL_exc h
    · cases h
theorem compL_cons {f : D → Out (Option (D × Nat))} {x : D} {xs : List D} {ps : List (D × Nat)} (h : compL f (x :: xs) = .ok ps) :
    (∃ y ys, f x = .ok (some y) ∧ compL f xs = .ok ys ∧ ps = y :: ys ∧ ps.length ≤ SZ) ∨ (f x = .ok none ∧ compL f xs = .ok ps) := by
  unfold compL at h
  split at h
  · rename_i y e
    obtain ⟨ys, h1, h⟩ := Out.bind_eq_ok h
    obtain ⟨h2, h⟩ := gd_ok h
    cases h
    exact .inl ⟨y, ys, e, h1, rfl, h2⟩
  · rename_i e
    exact .inr ⟨e, h⟩
  · cases h
theorem compL_hd {f : D → Out (Option (D × Nat))} {x : D} {xs : List D} {ps : List (D × Nat)} (h : compL f (x :: xs) = .ok ps) : f x = .ok none ∨ ∃ y, f x = .ok (some y) := by
  rcases compL_cons h with ⟨y, ys, z, _⟩ | ⟨z, _⟩
  · exact .inr ⟨y, z⟩
  · exact .inl z
section
variable {K : PySem.W.Frag} {CA : Nat → Addr}
theorem PVs.updD {M : Addr → Prop} {H1 H : Hp} {ps : List (D × Nat)} {vs : List V} {O Z : List Addr} {Dd : Addr} {ws : List V} {o : HO} (p : PVs K CA M H1 H ps vs O Z) (hD : H Dd = some (.lst ws)) (h1 : H1 Dd = none) (hn : Dd ∉ O ++ Z) : PVs K CA M H1 (upd H Dd o) ps vs O Z := by
  induction p with
  | nil => exact .nil
  | @cons q v O1 Z1 ps vs O2 Z2 pv _ a b ih =>
    refine .cons ⟨fun c u e => ?_, ?_, pv.fresh, pv.nd, pv.zin, pv.zo⟩ (ih ?_) a b
    · have hc : c ≠ Dd := fun z => by rw [z, h1] at e; cases e
      rw [upd_ne hc]; exact pv.same c u e
    · refine pv.rep.keep (F := [Dd]) (fun c u e hc => ?_) (fun c hc => ?_) (fun c hc => ?_)
      · rw [upd_ne (by simpa using hc)]; exact e
      · simp at hc; subst hc; rw [hD]; trivial
      · intro z; simp at z; subst z; exact hn (by simp at hc ⊢; rcases hc with z | z <;> simp [z])
    · intro z; exact hn (by simp at z ⊢; rcases z with z | z <;> simp [z])
theorem PVs.snoc {M : Addr → Prop} {H1 H : Hp} {ps : List (D × Nat)} {vs : List V} {O Z : List Addr} {q : D × Nat} {v : V} {O' Z' : List Addr} (p : PVs K CA M H1 H ps vs O Z) (w : PVal K CA M H1 H q.1 q.2 v O' Z') (a : ∀ x ∈ O', x ∉ O ++ Z) (b : ∀ x ∈ O, x ∉ Z') :
    PVs K CA M H1 H (ps ++ [q]) (vs ++ [v]) (O ++ O') (Z ++ Z') := by
  induction p with
  | nil => simpa using PVs.cons w .nil (by simp) (by simp)
  | @cons r u O1 Z1 ps vs O2 Z2 pv _ c d ih =>
    have := PVs.cons pv (ih (fun x hx z => a x hx (by simp at z ⊢; rcases z with z | z <;> simp [z])) fun x hx => b x (by simp [hx])) (fun x hx => ?_) (fun x hx z => ?_)
    · simpa [List.append_assoc] using this
    · rcases List.mem_append.mp hx with z | z
      · exact c x z
      · intro w; exact a x z (by simp at w ⊢; rcases w with w | w <;> simp [w])
    · rcases List.mem_append.mp z with z | z
      · exact d x hx z
      · exact b x (by simp [hx]) z
theorem norm_root {H : Hp} {d : D} {v : V} {Z : List Addr} (r : Rep K CA H 0 d v [] Z) : Rep K CA H (norm (d, 0)).2 d v [] Z := by
  unfold norm
  by_cases h : d.mdep = 0
  · simp only [h, if_true]
    obtain ⟨_, e, r'⟩ := r.imm (m := 9) h
    subst e; exact r'
  · simp only [h, if_false]; exact r
theorem norm_fst (p : D × Nat) : (norm p).1 = p.1 := by unfold norm; split <;> rfl
def putR (S : Slots) (i : Nat) (d : D) (v : V) (Z : List Addr) : Slots := S.set i (some ⟨d, (norm (d, 0)).2, v, [], Z⟩)
theorem envOf_put {S : Slots} {i : Nat} {d : D} {v : V} {Z : List Addr} : envOf (putR S i d v Z) = setV (envOf S) i (d, 0) := by
  unfold putR setV envOf
  rw [List.map_set]
  congr 2
  show some (d, (norm (d, 0)).2) = _
  rw [show norm (d, 0) = ((norm (d, 0)).1, (norm (d, 0)).2) from rfl, norm_fst]
theorem SRep.put {S : Slots} {σ σ' : St} {H : Hp} (sr : SRep K CA S σ H) {i : Nat} {d : D} {v : V} {Z : List Addr} (r : Rep K CA H 0 d v [] Z) (hi : i < S.length) (hl : σ'.length = σ.length)
    (hs : ∀ j, j ≠ i → ∀ x, S[j]? = some (some x) → σ'[j]? = σ[j]?) (h1 : σ'[i]? = some (some v)) : SRep K CA (putR S i d v Z) σ' H where
  len := by unfold putR; rw [List.length_set, sr.len, hl]
  rep := fun j x hx => by
    unfold putR at hx
    by_cases hj : i = j
    · subst hj
      rw [List.getElem?_set_self hi] at hx
      cases hx
      exact ⟨h1, norm_root r⟩
    · rw [List.getElem?_set_ne hj] at hx
      obtain ⟨a, b⟩ := sr.rep j x hx
      exact ⟨by rw [hs j (Ne.symm hj) x hx]; exact a, b⟩
end
theorem wipe_get {σ : St} {j : Nat} : ∀ {vs : List Nat}, j ∉ vs → (wipe σ vs)[j]? = σ[j]?
  | [], _ => rfl
  | v :: vs, h => by
    simp at h
    unfold wipe
    rw [List.getElem?_set_ne (Ne.symm h.1), wipe_get h.2]
theorem wipe_at {σ : St} {j : Nat} : ∀ {vs : List Nat}, j ∈ vs → j < σ.length → (wipe σ vs)[j]? = some none
  | [], h, _ => by simp at h
  | v :: vs, h, hl => by
    unfold wipe
    by_cases e : v = j
    · subst e; rw [List.getElem?_set_self (by rw [wipe_length]; exact hl)]
    · rw [List.getElem?_set_ne e]
      exact wipe_at (by simpa [Ne.symm e] using h) hl
theorem wipe_wipe {σ : St} {vs : List Nat} : wipe (wipe σ vs) vs = wipe σ vs := List.ext_getElem? fun j => by
  by_cases h : j ∈ vs
  · by_cases hl : j < σ.length
    · rw [wipe_at h hl, wipe_at h (by rw [wipe_length]; exact hl)]
    · rw [List.getElem?_eq_none (by simp [wipe_length]; omega), List.getElem?_eq_none (by simp [wipe_length]; omega)]
  · rw [wipe_get h]
def Tg.is : Tg → List Nat
  | .one i => [i]
  | .tup l => l
section
variable {X : Cx} {nm : Nm} {G : Glo} {CA : Nat → Addr} {cf : Runs} {W : WX}
abbrev W0 : WX := fun _ _ _ _ => False
structure Put (S : Slots) (σ : St) (S' : Slots) (σ' : St) (is : List Nat) (Z : List Addr) : Prop where
  len : σ'.length = σ.length
  oth : ∀ j, j ∉ is → S'[j]? = S[j]? ∧ σ'[j]? = σ[j]?
  new : ∀ i ∈ is, ∀ r : Root, S'[i]? = some (some r) → r.O = [] ∧ ∀ a ∈ r.Z, a ∈ Z
theorem Put.wipe {S S' : Slots} {σ σ' : St} {is : List Nat} {Z : List Addr} (p : Put S σ S' σ' is Z) : wipe σ' is = wipe σ is := List.ext_getElem? fun j => by
  by_cases h : j ∈ is
  · by_cases hl : j < σ.length
    · rw [wipe_at h hl, wipe_at h (by rw [p.len]; exact hl)]
    · rw [List.getElem?_eq_none (by rw [wipe_length, p.len]; omega), List.getElem?_eq_none (by rw [wipe_length]; omega)]
  · rw [wipe_get h, wipe_get h, (p.oth j h).2]
theorem Put.nod {S S' : Slots} {σ σ' : St} {is : List Nat} {Z : List Addr} (p : Put S σ S' σ' is Z) {js : List Nat} {a : Addr} (h : Nod S' js a) : Nod S js a ∨ a ∈ Z := by
  obtain ⟨j, hj, r, e, q⟩ := h
  by_cases hi : j ∈ is
  · obtain ⟨e1, e2⟩ := p.new j hi r e
    rw [e1] at q
    exact .inr (e2 a (by simpa using q))
  · rw [(p.oth j hi).1] at e
    exact .inl ⟨j, hj, r, e, q⟩
def TgOk (K : PySem.W.Frag) (CA : Nat → Addr) (tg : Tg) (g : TG) : Prop := ∀ (S : Slots) (σ : St) (H : Hp) (d : D) (v : V) (Z : List Addr) (ρ : Env) (Q : St → Hp → Prop), SRep K CA S σ H → Rep K CA H 0 d v [] Z → tg.put (envOf S) d = .ok ρ → (∀ i ∈ tg.is, i < S.length) →
  (∀ S' σ', SRep K CA S' σ' H → envOf S' = ρ → Put S σ S' σ' tg.is Z → Q σ' H) → g v σ H Q
theorem put_one {K : PySem.W.Frag} {S : Slots} {σ : St} {H : Hp} {d : D} {v : V} {Z : List Addr} {i : Nat} (sr : SRep K CA S σ H) (r : Rep K CA H 0 d v [] Z) (hi : i < S.length) :
    SRep K CA (putR S i d v Z) (σ.set i (some v)) H ∧ Put S σ (putR S i d v Z) (σ.set i (some v)) [i] Z := by
  refine ⟨sr.put r hi (by simp) (fun j hj x hx => by rw [List.getElem?_set_ne (Ne.symm hj)]) (by rw [List.getElem?_set_self (by rw [← sr.len]; exact hi)]), by simp, fun j hj => ?_, fun j hj r e => ?_⟩
  · have : i ≠ j := fun z => hj (by simp [z])
    unfold putR
    rw [List.getElem?_set_ne this, List.getElem?_set_ne this]
    exact ⟨rfl, rfl⟩
  · simp at hj
    subst hj
    unfold putR at e
    rw [List.getElem?_set_self hi] at e
    cases e
    exact ⟨rfl, fun a h => h⟩
theorem tg_one {K : PySem.W.Frag} {i : Nat} : TgOk K CA (.one i) (gName i) := by
  intro S σ H d v Z ρ Q sr r hp hi h
  have hp : Out.ok (setV (envOf S) i (d, 0)) = Out.ok ρ := hp
  cases hp
  have hi : i < S.length := hi i (by simp [Tg.is])
  exact h _ _ (put_one sr r hi).1 envOf_put (put_one sr r hi).2
def turnF (G : Glo) (cf : Runs) (ρ : Env) (tg : Tg) (t : Option C) (e : C) (d : D) : Out (Option (D × Nat)) :=
  (tg.put ρ d).bind fun ρ' => (evt G cf ρ' t).bind fun b => if b = true then (ev G cf ρ' e).bind fun y => .ok (some y) else .ok none
def tTo (X : Cx) (G : Glo) (CA : Nat → Addr) (cf : Runs) (W : WX) (t : Option C) : TT := fun σ H Q => ∃ S, SRep X.K CA S σ H ∧ DenB X.K CA W (evt G cf (envOf S) t) σ H Q
theorem envOf_len (S : Slots) : (envOf S).length = S.length := by unfold envOf; simp
def wipeS (S : Slots) : List Nat → Slots
  | [] => S
  | v :: vs => (wipeS S vs).set v none
theorem wipeS_len (S : Slots) : ∀ vs, (wipeS S vs).length = S.length
  | [] => rfl
  | v :: vs => by unfold wipeS; rw [List.length_set, wipeS_len S vs]
theorem wipeS_get {S : Slots} {j : Nat} : ∀ {vs : List Nat}, j ∉ vs → (wipeS S vs)[j]? = S[j]?
  | [], _ => rfl
  | v :: vs, h => by
    simp at h
    unfold wipeS
    rw [List.getElem?_set_ne (Ne.symm h.1), wipeS_get h.2]
theorem wipeS_some {S : Slots} {j : Nat} {r : Root} : ∀ {vs : List Nat}, (wipeS S vs)[j]? = some (some r) → S[j]? = some (some r) ∧ j ∉ vs
  | [], h => ⟨h, by simp⟩
  | v :: vs, h => by
    unfold wipeS at h
    by_cases e : v = j
    · subst e
      by_cases hv : v < (wipeS S vs).length
      · rw [List.getElem?_set_self hv] at h; cases h
      · rw [List.getElem?_eq_none (by simpa using hv)] at h; cases h
    · rw [List.getElem?_set_ne e] at h
      obtain ⟨a, b⟩ := wipeS_some h
      exact ⟨a, by simp [Ne.symm e, b]⟩
theorem SRep.wipe {K : PySem.W.Frag} {S : Slots} {σ : St} {H : Hp} (sr : SRep K CA S σ H) (vs : List Nat) : SRep K CA (wipeS S vs) (L2.wipe σ vs) H where
  len := by rw [wipeS_len, wipe_length, sr.len]
  rep := fun i r h => by
    obtain ⟨a, b⟩ := wipeS_some h
    obtain ⟨c, d⟩ := sr.rep i r a
    exact ⟨by rw [wipe_get b]; exact c, d⟩
theorem put_wipe {S : Slots} {tg : Tg} (h1 : ∀ l, tg = .tup l → l.Nodup) (d : D) : tg.put (envOf (wipeS S tg.is)) d = tg.put (envOf S) d := by
  have one : ∀ (S : Slots) (i : Nat) (p : D × Nat), setV (envOf (S.set i none)) i p = setV (envOf S) i p := fun S i p => by
    unfold setV envOf; rw [List.map_set, List.set_set]
  cases tg with
  | one i => show Out.ok _ = Out.ok _; rw [show wipeS S (Tg.one i).is = S.set i none from rfl, one]
  | tup l =>
    cases d <;> first | rfl | skip
    rename_i ds
    show gd _ _ = gd _ _
    have key : ∀ (ps : List (Nat × D)) (ρ ρ' : Env), ρ.length = ρ'.length → (∀ j, j ∉ ps.map (·.1) → ρ[j]? = ρ'[j]?) → ps.foldl (fun r p => setV r p.1 (p.2, 0)) ρ = ps.foldl (fun r p => setV r p.1 (p.2, 0)) ρ' := by
      intro ps
      induction ps with
      | nil => intro ρ ρ' hl h; exact List.ext_getElem? fun j => h j (by simp)
      | cons p ps ih =>
        intro ρ ρ' hl h
        rw [List.foldl_cons, List.foldl_cons]
        refine ih _ _ (by unfold setV; simp [hl]) fun j hj => ?_
        unfold setV
        by_cases e : p.1 = j
        · subst e
          by_cases hp : p.1 < ρ.length
          · rw [List.getElem?_set_self hp, List.getElem?_set_self (by rw [← hl]; exact hp)]
          · rw [List.getElem?_eq_none (by simpa using hp), List.getElem?_eq_none (by simp; omega)]
        · rw [List.getElem?_set_ne e, List.getElem?_set_ne e]
          exact h j (by simp; exact ⟨Ne.symm e, by simpa using hj⟩)
    have hw : ∀ (l : List Nat) (j : Nat), j ∉ l → (envOf (wipeS S l))[j]? = (envOf S)[j]? := fun l j hj => by
      unfold envOf; rw [List.getElem?_map, List.getElem?_map, wipeS_get hj]
    unfold gd
    split
    · rename_i hlen
      show Out.ok (List.foldl _ (envOf (wipeS S l)) (l.zip ds)) = _
      rw [key (l.zip ds) (envOf (wipeS S l)) (envOf S) (by rw [envOf_len, envOf_len, wipeS_len]) fun j hj => hw l j (by
        rw [List.map_fst_zip (Nat.le_of_eq hlen)] at hj; exact hj)]
    · rfl
theorem Nod.wipe {S : Slots} {vs is : List Nat} {a : Addr} (h : Nod (wipeS S vs) is a) : Nod S is a := by
  obtain ⟨i, hi, r, e, q⟩ := h
  exact ⟨i, hi, r, (wipeS_some e).1, q⟩
theorem Nod.there' {K : PySem.W.Frag} {S : Slots} {σ : St} {H : Hp} {is : List Nat} {a : Addr} (sr : SRep K CA S σ H) (h : Nod S is a) : H a ≠ none := by
  obtain ⟨i, hi, r, e, q⟩ := h
  exact (sr.rep i r e).2.there a q
theorem same_there {H H' : Hp} (s : Same H H') {a : Addr} (h : H a ≠ none) : H' a ≠ none := by
  cases e : H a with
  | none => exact absurd e h
  | some o => rw [s a o e]; simp
theorem PVal.updD {K : PySem.W.Frag} {M : Addr → Prop} {H1 H : Hp} {d : D} {n : Nat} {v : V} {O Z : List Addr} {Dd : Addr} {ws : List V} {o : HO} (p : PVal K CA M H1 H d n v O Z) (hD : H Dd = some (.lst ws)) (h1 : H1 Dd = none) (hn : Dd ∉ O ++ Z) : PVal K CA M H1 (upd H Dd o) d n v O Z := by
  have q := PVs.updD (o := o) (PVs.cons (p := (d, n)) p .nil (by simp) (by simp)) hD h1 (by simpa using hn)
  obtain ⟨v', e, p'⟩ := PVs.one_inv q
  cases e
  simpa using p'
theorem compL_len {f : D → Out (Option (D × Nat))} : ∀ {xs : List D} {ps : List (D × Nat)}, compL f xs = .ok ps → ps.length ≤ SZ
  | [], ps, h => by cases h; simp
  | x :: xs, ps, h => by
    rcases compL_cons h with ⟨y, ys, _, _, _, z⟩ | ⟨_, z⟩
    · exact z
    · exact compL_len z
theorem lc_sem {it : C} {tg : Tg} {t : Option C} {e : C} {g : TG} {σ : St} {H : Hp} {Q : VK} (hg : TgOk X.K CA tg g) (nd : ∀ l, tg = .tup l → l.Nodup) (hi : ∀ i ∈ tg.is, i < σ.length)
    (h : tE X G CA cf W (.lc it tg t e) σ H Q) : tLc (tI X G CA cf W it) g (tTo X G CA cf W0 t) (tE X G CA cf W0 e) tg.is σ H Q := by
  obtain ⟨S, sr, hd⟩ := h
  rw [ev] at hd
  refine ⟨S, sr, ?_⟩
  cases e1 : ev G cf (envOf S) it with
  | exc x => rw [e1] at hd; exact hd
  | bad => rw [e1] at hd; exact hd
  | ok p =>
  rw [e1] at hd
  simp only [Out.bind_ok] at hd
  obtain ⟨xs, hx, hd⟩ := Den.of hd
  refine ⟨xs, hx, fun J H1 Ns P s1 hP w hNs Dd hDn => ?_⟩
  generalize hf : (fun d => (tg.put (envOf S) d).bind fun ρ' => (evt G cf ρ' t).bind fun b => if b = true then (ev G cf ρ' e).bind fun y => .ok (some y) else .ok none) = f at hd
  cases e2 : compL f xs with
  | exc x => exact absurd e2 compL_exc
  | bad => rw [e2] at hd; exact hd.elim
  | ok ps =>
  rw [e2] at hd
  have hlen := compL_len e2
  let M1 : Addr → Prop := fun a => Nod S (names it ++ (namesO t ++ names e)) a ∨ a ∈ Ns
  have hN0 : ∀ a ∈ Ns, H1 a ≠ none := w.there H1 hP
  have hDN : Dd ∉ Ns := fun z => hN0 Dd z hDn
  have sNod : ∀ {is : List Nat} {a : Addr}, Nod S is a → H1 a ≠ none := fun h => same_there s1 (h.there' sr)
  refine ⟨fun i m Hc => m = xs.length - i ∧ i ≤ xs.length ∧ ∃ done rest vs O Z, ps = done ++ rest ∧ compL f (xs.drop i) = .ok rest ∧ Hc Dd = some (.lst vs) ∧ PVs X.K CA M1 H1 Hc done vs O Z ∧ Dd ∉ O ++ Z ∧ Same H1 Hc ∧ P Hc, ?_, ?_⟩
  · refine ⟨xs.length, rfl, Nat.zero_le _, [], ps, [], [], [], rfl, e2, upd_same, .nil, by simp, sameNew hDn, ?_⟩
    exact w.keep [] H1 _ hP (keepS (sameNew hDn)) (fun a z => by simp at z) (by simp)
  · rintro i m Hc ⟨rfl, hil, done, rest, vs, O, Z, hps, hr, hD, pv, hDO, sc, hPc⟩
    have srw : SRep X.K CA (wipeS S tg.is) (wipe σ tg.is) Hc := (sr.same (s1.trans sc)).wipe tg.is
    by_cases hlt : i < xs.length
    · right
      refine ⟨w.go i Hc hlt hPc, fun H' => ∃ done rest vs O Z, ps = done ++ rest ∧ compL f (xs.drop (i + 1)) = .ok rest ∧ H' Dd = some (.lst vs) ∧ PVs X.K CA M1 H1 H' done vs O Z ∧ Dd ∉ O ++ Z ∧ Same H1 H' ∧ P H', fun H' hx => ⟨xs.length - (i + 1), by omega, rfl, by omega, hx⟩, fun x H2 hy => ?_⟩
      have hxi : xs[i]? = some xs[i] := List.getElem?_eq_getElem hlt
      obtain ⟨s2, Zx, rx, hZx⟩ := w.yld i Hc x H2 xs[i] hPc hxi hy
      rw [List.drop_eq_getElem_cons hlt] at hr
      have hput : ∀ ρ', tg.put (envOf S) xs[i] = .ok ρ' → (evt G cf ρ' t).bind (fun b => if b = true then (ev G cf ρ' e).bind fun y => .ok (some y) else .ok none) = f xs[i] → g x (wipe σ tg.is) H2 fun σ2 H2 => wipe σ2 tg.is = wipe σ tg.is ∧ tTo X G CA cf W0 t σ2 H2 fun b H3 =>
          if b = true then tE X G CA cf W0 e σ2 H3 fun y H4 => ∃ acc, H4 Dd = some (.lst acc) ∧ acc.length < sizeLine ∧ (fun H' => ∃ done rest vs O Z, ps = done ++ rest ∧ compL f (xs.drop (i + 1)) = .ok rest ∧ H' Dd = some (.lst vs) ∧ PVs X.K CA M1 H1 H' done vs O Z ∧ Dd ∉ O ++ Z ∧ Same H1 H' ∧ P H') (upd H4 Dd (.lst (acc ++ [y])))
          else (fun H' => ∃ done rest vs O Z, ps = done ++ rest ∧ compL f (xs.drop (i + 1)) = .ok rest ∧ H' Dd = some (.lst vs) ∧ PVs X.K CA M1 H1 H' done vs O Z ∧ Dd ∉ O ++ Z ∧ Same H1 H' ∧ P H') H3 := by
        intro ρ' hp hfx
        refine hg (wipeS S tg.is) (wipe σ tg.is) H2 xs[i] x Zx ρ' _ (srw.same s2) rx (by rw [put_wipe nd]; exact hp) (fun j hj => by rw [wipeS_len, sr.len]; exact hi j hj) fun S' σ' sr' hρ pu => ?_
        refine ⟨by rw [pu.wipe, wipe_wipe], S', sr', ?_⟩
        rw [hρ]
        have keepP : ∀ {H4 : Hp} {o : HO}, Same Hc H4 → P (upd H4 Dd o) ∧ P H4 := fun {H4 o} s => by
          have p4 : P H4 := w.keep [] Hc _ hPc (keepS s) (fun a z => by simp at z) (by simp)
          refine ⟨w.keep [Dd] H4 _ p4 (fun c u e hc => by rw [upd_ne (by simpa using hc)]; exact e) (fun c hc => ?_) (fun a ha z => ?_), p4⟩
          · simp at hc; subst hc; rw [s _ _ hD]; trivial
          · simp at z; subst z; exact hDN ha
        cases e3 : evt G cf ρ' t with
        | exc y => rw [e3] at hfx; exact (compL_hd hr).elim (fun z => by rw [← hfx] at z; cases z) fun ⟨_, z⟩ => by rw [← hfx] at z; cases z
        | bad => rw [e3] at hfx; exact (compL_hd hr).elim (fun z => by rw [← hfx] at z; cases z) fun ⟨_, z⟩ => by rw [← hfx] at z; cases z
        | ok b =>
        rw [e3] at hfx
        simp only [Out.bind_ok] at hfx
        intro H3 s3
        cases b with
        | false =>
          simp only [Bool.false_eq_true, if_false] at hfx ⊢
          rcases compL_cons hr with ⟨y, ys, z, _⟩ | ⟨_, z⟩
          · rw [← hfx] at z; cases z
          · have s23 : Same Hc H3 := s2.trans s3
            exact ⟨done, rest, vs, O, Z, hps, z, s23 _ _ hD, pv.later s23, hDO, sc.trans s23, (keepP (o := .lst []) s23).2⟩
        | true =>
          simp only [if_true] at hfx ⊢
          refine ⟨S', sr'.same s3, ?_⟩
          rw [hρ]
          cases e4 : ev G cf ρ' e with
          | exc y => rw [e4] at hfx; exact (compL_hd hr).elim (fun z => by rw [← hfx] at z; cases z) fun ⟨_, z⟩ => by rw [← hfx] at z; cases z
          | bad => rw [e4] at hfx; exact (compL_hd hr).elim (fun z => by rw [← hfx] at z; cases z) fun ⟨_, z⟩ => by rw [← hfx] at z; cases z
          | ok y =>
          rw [e4] at hfx
          simp only [Out.bind_ok] at hfx
          intro yv H4 Oy Zy py
          rcases compL_cons hr with ⟨y', ys, z, z2, z3, _⟩ | ⟨z, _⟩
          rotate_left
          · rw [← hfx] at z; cases z
          · rw [← hfx] at z; cases z
            subst z3
            have s23 : Same Hc H3 := s2.trans s3
            have s24 : Same Hc H4 := s23.trans py.same
            have h13 : Same H1 H3 := sc.trans s23
            have hD4 : H4 Dd = some (.lst vs) := s24 _ _ hD
            have M1of : ∀ a, Nod S' (names e) a → M1 a := fun a hn => by
              rcases pu.nod hn with z | z
              · exact .inl (Nod.r (Nod.r z.wipe))
              · exact .inr (hZx a z)
            have M1th : ∀ a, M1 a → H1 a ≠ none := fun a z => z.elim (fun z => sNod z) (hN0 a)
            have pvl : vs.length = done.length := pv.length.symm
            refine ⟨vs, hD4, ?_, ?_⟩
            · rw [SZ_eq, pvl]
              have := congrArg List.length hps
              simp at this
              omega
            · have py1 : PVal X.K CA M1 H1 H4 y.1 y.2 yv Oy Zy := (py.mono M1of).ahead h13
              have hDy : Dd ∉ Oy ++ Zy := fun z => by
                rcases List.mem_append.mp z with z | z
                · have := py.fresh Dd z; rw [s23 _ _ hD] at this; cases this
                · rcases py.zin Dd z with z | z
                  · rw [s23 _ _ hD] at z; cases z
                  · exact M1th Dd (M1of _ z) hDn
              refine ⟨done ++ [y], ys, vs ++ [yv], O ++ Oy, Z ++ Zy, by rw [hps]; simp, z2, upd_same, ?_, ?_, ?_, (keepP s24).1⟩
              · refine PVs.snoc ((pv.later s24).updD hD4 hDn hDO) (py1.updD hD4 hDn hDy) (fun a ha z => ?_) (fun a ha z => ?_)
                · exact same_there s23 (pv.there a z) (py.fresh a ha)
                · have h1 := pv.fresh a ha
                  have h3 : H3 a ≠ none := same_there s23 (pv.there a (by simp [ha]))
                  rcases py.zin a z with q | q
                  · exact h3 q
                  · exact M1th a (M1of _ q) h1
              · intro z
                simp only [List.mem_append] at z hDO hDy
                rcases z with (z | z) | z | z
                · exact hDO (.inl z)
                · exact hDy (.inl z)
                · exact hDO (.inr z)
                · exact hDy (.inr z)
              · intro c u hc
                have : c ≠ Dd := fun q => by rw [q, hDn] at hc; cases hc
                rw [upd_ne this]
                exact (sc.trans s24) c u hc
      have key : ∃ ρ', tg.put (envOf S) xs[i] = .ok ρ' ∧ (evt G cf ρ' t).bind (fun b => if b = true then (ev G cf ρ' e).bind fun y => .ok (some y) else .ok none) = f xs[i] := by
        have hfx : f xs[i] = (tg.put (envOf S) xs[i]).bind fun ρ' => (evt G cf ρ' t).bind fun b => if b = true then (ev G cf ρ' e).bind fun y => .ok (some y) else .ok none := by rw [← hf]
        cases e3 : tg.put (envOf S) xs[i] with
        | ok ρ' => rw [e3] at hfx; exact ⟨ρ', rfl, hfx.symm⟩
        | exc y => rw [e3] at hfx; unfold compL at hr; rw [hfx] at hr; cases hr
        | bad => rw [e3] at hfx; unfold compL at hr; rw [hfx] at hr; cases hr
      obtain ⟨ρ', k1, k2⟩ := key
      exact hput ρ' k1 k2
    · left
      have hie : i = xs.length := by omega
      subst hie
      refine ⟨w.stop Hc hPc, ?_⟩
      rw [List.drop_length] at hr
      cases hr
      rw [List.append_nil] at hps
      subst hps
      obtain ⟨O', Z', r, l⟩ := pv.reps (lvL ps) (Nat.le_refl _)
      have sH : Same H Hc := s1.trans sc
      have zc : ∀ a ∈ Z', H a = none ∨ Nod S (names it ++ (namesO t ++ names e)) a := fun a ha => by
        rcases l.all a ha with z | z
        · exact .inl (same_none s1 (pv.fresh a z))
        · rcases pv.zin a z with z | z | z
          · exact .inl (same_none s1 z)
          · exact .inr z
          · rcases hNs a z with z | z
            · exact .inl z
            · exact .inr (Nod.l z.2)
      refine hd (.ref Dd) Hc (Dd :: O') Z' ⟨sH, .lstO hD r, ?_, ?_, zc, ?_⟩
      · intro a ha
        rcases List.mem_cons.mp ha with rfl | ha
        · exact same_none s1 hDn
        · exact same_none s1 (pv.fresh a (l.own a ha))
      · refine List.nodup_cons.mpr ⟨fun z => hDO (by simp [l.own _ z]), l.nd pv.nd⟩
      · intro a ha z
        rcases List.mem_cons.mp z with rfl | z
        · rcases l.all a ha with z | z <;> exact hDO (by simp [z])
        · exact l.zo pv.nd pv.zo a ha z
end
end Vy

namespace Vy
open PySem PySem.Spec
open PyProof.Rows hiding St
open L2
section
variable {X : Cx} {nm : Nm} {G : Glo} {CA : Nat → Addr} {cf : Runs} {W : WX}
def noSet : Expr → Bool
  | .Set _ _ _ => false
  | _ => true
theorem fold_no {e : Expr} {env : PySem.Env} (h : noSet e = true) : ∀ x, foldedSetIterable e env x = pure x := fun x => by
  cases e <;> first | rfl | cases h
abbrev Cx.inn (X : Cx) (scope : Scope) (s : Shared) (H : Hp) (C : Addr) (cl : List (Str × Addr)) (fp : List Addr) : Cx := X.blk s H scope (compEnvC scope cl C X.env) fp
theorem CtxOk.inn {np : Nat → Option Nat} {bl : List Str} (C : CtxOk X nm G CA cf np bl) {scope : Scope} {s : Shared} {H : Hp} {c : Addr} {cl : List (Str × Addr)} {fp : List Addr} : CtxOk (Cx.inn X scope s H c cl fp) nm G CA cf np bl where
  N := C.N
  nd := C.nd
  calm := C.calm
  lev := let ⟨k, r, h, h2, h3⟩ := C.lev; ⟨k, r, fun f n e => let ⟨⟨a, fd, ps, h1, h2, h3, h4, h5⟩, g⟩ := h f n e; ⟨⟨a, fd, ps, h1, h2, h3, h4, h5⟩, g⟩, h2, fun f n e q => let ⟨⟨a, fd, ps, h1, h2, h3, h4, h5⟩, g⟩ := h3 f n e q; ⟨⟨a, fd, ps, h1, h2, h3, h4, h5⟩, g⟩⟩
  ex := C.ex
  exm := C.exm
  cmx := C.cmx
  isx := C.isx
  cls := C.cls
  blt := C.blt
  glb := C.glb
theorem relS_free {sc : Scope} : ∀ {names : List (Str × NameKind)} {x : Str}, names.lookup x = some .free →
    (names.map fun (n, k) => if (k == NameKind.free && sc.kind == .function && sc.names.lookup n == some .cell) then (n, NameKind.cell) else (n, k)).lookup x = some .free ∨
    (names.map fun (n, k) => if (k == NameKind.free && sc.kind == .function && sc.names.lookup n == some .cell) then (n, NameKind.cell) else (n, k)).lookup x = some .cell
  | [], _, h => by simp at h
  | (n, k) :: r, x, h => by
    have ih := @relS_free sc r x
    rw [List.map_cons]
    cases hx : x == n with
    | true =>
      rw [List.lookup_cons, hx] at h
      cases h
      cases hc : (NameKind.free == NameKind.free && sc.kind == .function && sc.names.lookup n == some .cell) with
      | true => right; simp only [hc, if_true]; rw [List.lookup_cons, hx]
      | false => left; simp only [hc, Bool.false_eq_true, if_false]; rw [List.lookup_cons, hx]
    | false =>
      rw [List.lookup_cons, hx] at h
      have e : ∀ p : Str × NameKind, p.1 = n → List.lookup x (p :: (r.map fun (n, k) => if (k == NameKind.free && sc.kind == .function && sc.names.lookup n == some .cell) then (n, NameKind.cell) else (n, k))) = List.lookup x (r.map fun (n, k) => if (k == NameKind.free && sc.kind == .function && sc.names.lookup n == some .cell) then (n, NameKind.cell) else (n, k)) := fun ⟨a, b⟩ h => by
        have h : a = n := h
        subst h; rw [List.lookup_cons, hx]
      rw [e (if (k == NameKind.free && sc.kind == .function && sc.names.lookup n == some .cell) = true then (n, NameKind.cell) else (n, k)) (by cases (k == NameKind.free && sc.kind == .function && sc.names.lookup n == some .cell) <;> rfl)]
      exact ih h
theorem ScOk.inn {scope : Scope} {s : Shared} {H : Hp} {c : Addr} {cl : List (Str × Addr)} {fp : List Addr} : ScOk scope (Cx.inn X scope s H c cl fp) where
  loc := fun x h => lookup_relS_keep (sc := X.env.scope) (by decide) h
  cel := fun x h => ⟨lookup_relS_keep (sc := X.env.scope) (by decide) h, by show (scope.names.lookup x == some .cell) = true; rw [h]; rfl⟩
  fre := fun x h => relS_free (sc := X.env.scope) h
  glo := fun x h => lookup_relS_keep (sc := X.env.scope) (by decide) h
theorem ts_nil : PTs X [] (tTo X G CA cf W none) := ⟨fun pins s σ H Q I ⟨S, sr, h⟩ => pts_nil.run pins s σ H Q I (by
  have h : DenB X.K CA W (.ok true) σ H Q := by rw [evt] at h; exact h
  exact h H (Same.refl H))⟩
theorem e_lc {np : Nat → Option Nat} {bl : List Str} (cx : CtxOk X nm G CA cf np bl) {it : C} {tg : Tg} {t : Option C} {e : C} {g : TG} {elt tge iter : Expr} {ifs : List Expr} {scope : Scope} {own : List (Str × Nat)} {pos : Pos}
    (hi : PI X tge iter (tI X G CA cf W it)) (ok : BlkOk X.N X.env.scope scope own) (hown : own.map (·.2) = tg.is) (nd : ∀ l, tg = .tup l → l.Nodup) (hg : TgOk X.K CA tg g)
    (pg : ∀ s H c cl fp, PG (Cx.inn X scope s H c cl fp) tge g) (ht : ∀ s H c cl fp, PTs (Cx.inn X scope s H c cl fp) ifs (tTo (Cx.inn X scope s H c cl fp) G CA cf W0 t))
    (he : ∀ s H c cl fp, PE (Cx.inn X scope s H c cl fp) elt (tE (Cx.inn X scope s H c cl fp) G CA cf W0 e)) (hs : noSet iter = true) :
    PE X (.ListComp elt [⟨tge, iter, ifs, 0⟩] scope pos) (tE X G CA cf W (.lc it tg t e)) := by
  refine ⟨fun pins s σ H Q I h => (pe_lc (tt := tTo X G CA cf W0 t) (te := tE X G CA cf W0 e) cx.calm cx.nd hi ok pg ht he (fold_no hs)).run pins s σ H Q I ?_⟩
  rw [hown]
  refine lc_sem hg nd (fun i hi => ?_) h
  rw [← hown] at hi
  obtain ⟨p, hp, e⟩ := List.mem_map.mp hi
  have := ok.ix p hp
  rw [I.len, ← e]
  exact (List.getElem?_eq_some_iff.mp this).1
theorem g_one {sc : Scope} {i : Nat} {x : Str} {pos : Pos} (S : ScOk sc X) (hN : X.N.Nodup) (hi : X.N[i]? = some x) (h : sc.names.lookup x = some .local ∨ sc.names.lookup x = some .cell) : PG X (.Name x pos) (gName i) := by
  rcases h with h | h
  · exact pg_name hN hi (.inl (S.loc x h)) (.inr (S.loc x h))
  · obtain ⟨h1, h2⟩ := S.cel x h
    exact pg_name hN hi (.inr h1) (.inl h2)
inductive TgNames (sc : Scope) (N : List Str) : List Expr → List Nat → Prop
  | nil : TgNames sc N [] []
  | cons {x : Str} {i : Nat} {es : List Expr} {is : List Nat} {p : Pos} : N[i]? = some x → (sc.names.lookup x = some .local ∨ sc.names.lookup x = some .cell) → TgNames sc N es is → TgNames sc N (.Name x p :: es) (i :: is)
theorem TgNames.len {sc : Scope} {N : List Str} {env : PySem.Env} : ∀ {es : List Expr} {is : List Nat}, TgNames sc N es is → (assignEach es env).length = is.length
  | _, _, .nil => rfl
  | _, _, .cons _ _ h => by
    show (assignEach _ env).length + 1 = _ + 1
    rw [h.len]
theorem TgNames.plain {sc : Scope} {N : List Str} {env : PySem.Env} : ∀ {es : List Expr} {is : List Nat}, TgNames sc N es is → (assignEach es env).findIdx? (·.1) = none
  | _, _, .nil => rfl
  | _, _, .cons _ _ h => by
    show List.findIdx? _ ((false, _) :: assignEach _ env) = none
    rw [List.findIdx?_cons, h.plain]
    rfl
end
end Vy

namespace Vy
open PySem PySem.Spec
open PyProof.Rows hiding St
open L2
inductive Ptp | fld (f : Cs) | ix (e : C)
structure Pth where
  i : Nat
  st : List Ptp
inductive Rtp | fld (f : Cs) | at (k : D)
def kids : D → List D
  | .ins _ _ vs => vs
  | .lst xs => xs
  | .dct _ vs => vs
  | _ => []
def setK (d : D) (j : Nat) (x : D) : D := match d with
  | .ins c fs vs => .ins c fs (vs.set j x)
  | .lst xs => .lst (xs.set j x)
  | .dct ks vs => .dct ks (vs.set j x)
  | d => d
def posP : D → Rtp → Option Nat
  | .ins c fs _, .fld f => go (98 ≤ c ∧ c < 100) (fs.findIdx? (· == f))
  | .lst xs, .at (.int i) => ix xs.length i
  | .dct ks _, .at k => go ((vKey k).isSome = true) (ks.findIdx? fun x => pyEq x k)
  | _, _ => none
def getP : D × Nat → List Rtp → Option (D × Nat)
  | p, [] => some p
  | (_, 0), _ :: _ => none
  | (d, n + 1), r :: rs => (posP d r).bind fun j => ((kids d)[j]?).bind fun d' => getP (d', n) rs
def putP : D → List Rtp → D → D
  | _, [], x => x
  | d, r :: rs, x => match posP d r with
    | some j => match (kids d)[j]? with
      | some d' => setK d j (putP d' rs x)
      | none => d
    | none => d
inductive Ag | pu (c : C) | rd (p : Pth) | io (p : Pth)
inductive MO | app | pop | popi | clr | clrk | ins | rem | rvr | sda | popk
inductive Aw | pu (c : C) | io (i : Nat)
def Aw.ios : List Aw → List Nat
  | [] => []
  | .pu _ :: r => Aw.ios r
  | .io i :: r => i :: Aw.ios r
def Aw.pos : Nat → List Aw → List Nat
  | _, [] => []
  | k, .pu _ :: r => Aw.pos (k + 1) r
  | k, .io _ :: r => k :: Aw.pos (k + 1) r
inductive Xp where
  | pu (c : C)
  | mop (p : Pth) (m : MO) (es : List C)
  | ioc (rc : Option (Nat × Cs)) (f : Nat) (ps : List Pth) (as : List Aw)
  | iow (f : Nat) (as : List Aw)
  | cmp (o : CO) (a b : Xp)
  | sub (a : Xp) (i : C)
  | not (a : Xp) | and (a b : Xp) | or (a b : Xp)
  | tup (xs : List Xp) | lst (xs : List Xp) | cal (f : Nat) (xs : List Xp)
  | get (d : C) (x : Xp) (e : C)
  | lc (it : C) (tg : Tg) (t : Option Xp) (e : Xp)
  | tp2 (x : Xp) (c : C)
  | tmo (i c : Nat) (m : MO) (es : List C)
inductive Ce | cst (d : D) | var (i : Nat) | fl (c : Nat) (f : Cs) | tup (es : List Ce) | add (a b : Ce) | str (a : Ce) | isi (c : Nat) | isv | i01 (a : Ce) | eqq (a b : Ce) | and (a b : Ce) | nin (i j : Nat)
inductive Sui | ret (c : Ce) | asg (i : Nat) (c : Ce) | rai (c : Nat) (fs : List Cs) (es : List Ce) | blk (l : List (Nat × Ce)) (c : Ce)
structure Hdl where
  cs : List Nat
  nm : Option Nat
  su : Sui
def mkX (c : Nat) : List Cs → List D → Exn
  | [], _ => ⟨c, [], []⟩
  | f :: fs, vs => ⟨c, f :: fs, vs⟩
def ninD (d e : D) : Option D := match e with
  | .dct ks vs => (inD d (.dct ks vs)).map fun b => .bl (!b)
  | _ => none
def immO (d : D) : Option D := if d.mdep = 0 then some d else none
section
variable (G : Glo)
mutual
def evC (e : Exn) (ρ : Env) : Ce → Option D
  | .cst d => immO d
  | .var i => ((ρ[i]?).bind id).bind fun p => immO p.1
  | .fl c f => if e.c = c then (lookD f e.fs e.vs).bind immO else none
  | .tup es => (evCs e ρ es).bind fun ds => if ds.length ≤ SZ then some (.tup ds) else none
  | .add a b => (evC e ρ a).bind fun x => (evC e ρ b).bind fun y => (binD .add (x, 9) (y, 9)).bind fun p => immO p.1
  | .str a => (evC e ρ a).bind fun x => (bifD .str [(x, 9)]).bind fun p => immO p.1
  | .isi c => if G.cm e.c = [] then none else some (.bl ((G.cm e.c).contains c))
  | .isv => if G.cm e.c = [] then none else some (.bl true)
  | .i01 a => (evC e ρ a).bind fun x => match x with
    | .bl b => some (.int (if b = true then 1 else 0))
    | _ => none
  | .eqq a b => (evC e ρ a).bind fun x => (evC e ρ b).bind fun y => match x, y with
    | .int i, .int j => some (.bl (i == j))
    | _, _ => none
  | .and a b => (evC e ρ a).bind fun x => match x with
    | .bl b' => if b' = true then evC e ρ b else some (.bl false)
    | _ => none
  | .nin i j => ((ρ[i]?).bind id).bind fun p => ((ρ[j]?).bind id).bind fun q => ninD p.1 q.1
def evCs (e : Exn) (ρ : Env) : List Ce → Option (List D)
  | [] => some []
  | a :: r => (evC e ρ a).bind fun d => (evCs e ρ r).map fun ds => d :: ds
end
end
inductive S where
  | pass
  | asg (i : Nat) (e : C)
  | asgT (is : List Nat) (e : C)
  | exp (e : C)
  | ret (e : C)
  | retv (i : Nat)
  | retT (j i : Nat) (κ : Cs)
  | retP (i j : Nat)
  | updD (x i w : Nat)
  | apr (x i : Nat) (s : Cs)
  | retN
  | ife (t : C) (a b : List S)
  | whl (n : Nat) (t : C) (b : List S)
  | for_ (tg : Tg) (it : C) (b : List S)
  | forD (tg : Tg) (it : C) (b : List S)
  | app (i : Nat) (e : C)
  | amv (i j : Nat)
  | par (i j : Nat) (a b : C)
  | asgX (i : Nat) (x : Xp) | asgXT (is : List Nat) (x : Xp) | expX (x : Xp) | retX (x : Xp) | ifX (x : Xp) (a b : List S)
  | appX (i : Nat) (x : Xp)
  | st (p : Pth) (k e : C) | stX (i : Nat) (x : Xp) (e : C) | stf (p : Pth) (f : Cs) (e : C)
  | forX (tg : Tg) (x : Xp) (b : List S)
  | rai (c : Nat) (fs : List Cs) (es : List C)
  | tri (b : List S) (hs : List Hdl)
inductive OS | nx (ρ : Env) | rt (p : D × Nat) (ρ : Env) | exc (e : Exn) (ρ : Env) | bad
def onE {α : Type} (o : Out α) (ρ : Env) (f : α → OS) : OS := match o with
  | .ok a => f a
  | .exc e => .exc e ρ
  | .bad => .bad
@[simp] theorem onE_ok {α : Type} (a : α) (ρ : Env) (f : α → OS) : onE (.ok a) ρ f = f a := id rfl
@[simp] theorem onE_exc {α : Type} (e : Exn) (ρ : Env) (f : α → OS) : onE (.exc e) ρ f = .exc e ρ := id rfl
@[simp] theorem onE_bad {α : Type} (ρ : Env) (f : α → OS) : onE .bad ρ f = .bad := id rfl
def frz1 (ρ : Env) (i : Nat) : Env := match (ρ[i]?).bind id with
  | some p => setV ρ i (p.1, 0)
  | none => ρ
def frz (ρ : Env) (is : List Nat) : Env := is.foldl frz1 ρ
def full (p : D × Nat) : Bool := decide (p.1.mdep ≤ p.2)
def bindV (ρ : Env) (i : Nat) (p : D × Nat) (ns : List Nat) : Env := if full p = true then setV ρ i p else setV (frz ρ ns) i p
def forL (f : Env → D → OS) : List D → Env → OS
  | [], ρ => .nx ρ
  | d :: r, ρ => match f ρ d with
    | .nx ρ' => forL f r ρ'
    | o => o
def whileL (c : Env → Out Bool) (f : Env → OS) : Nat → Env → OS
  | 0, _ => .bad
  | n + 1, ρ => match c ρ with
    | .ok true => match f ρ with
      | .nx ρ' => whileL c f n ρ'
      | o => o
    | .ok false => .nx ρ
    | .exc e => .exc e ρ
    | .bad => .bad
def appD (L : List Nat) (ρ : Env) (i : Nat) (p : D × Nat) (ns : List Nat) : OS :=
  if i ∈ L then .bad else match (ρ[i]?).bind id with
    | some (.lst xs, n) =>
      if 1 ≤ n ∧ xs.length + 1 ≤ SZ then
        if p.1.mdep = 0 then .nx (setV ρ i (.lst (xs ++ [p.1]), n))
        else if full p = true then .nx (setV ρ i (.lst (xs ++ [p.1]), min n (p.2 + 1)))
        else if i ∈ ns then .bad else .nx (setV (frz ρ ns) i (.lst (xs ++ [p.1]), min n (p.2 + 1)))
      else .bad
    | _ => .bad
def parD (ρ : Env) (i j : Nat) (ps : List (D × Nat)) (ns : List Nat) : OS := match ps with
  | [p, q] => .nx (setV (setV (if full p = true ∧ full q = true then ρ else frz ρ ns) i p) j q)
  | _ => .bad
def putS (ρ : Env) (tg : Tg) (d : D) (f : Env → OS) : OS := match tg.put ρ d with
  | .ok ρ' => f ρ'
  | _ => .bad
def okJ (J is : List Nat) : Bool := is.all fun i => !J.contains i
def onJ (J is : List Nat) (o : OS) : OS := if okJ J is = true then o else .bad
def lvIn (n : Nat) (p : D × Nat) : Nat := if p.1.mdep = 0 then n else min n (p.2 + 1)
def insL (xs : List D) (i : Int) (x : D) : List D := xs.take i.toNat ++ [x] ++ xs.drop i.toNat
def putKD (ks vs : List D) (k x : D) : List D × List D := match ks.findIdx? fun y => pyEq y k with
  | some j => (ks, vs.set j x)
  | none => (ks ++ [k], vs ++ [x])
def opApp : D × Nat → List (D × Nat) → Option ((D × Nat) × (D × Nat))
  | (.lst xs, n + 1), [p] => go (xs.length + 1 ≤ SZ) (some ((.lst (xs ++ [p.1]), lvIn (n + 1) p), (.non, 9)))
  | _, _ => none
def opPop : D × Nat → List (D × Nat) → Option ((D × Nat) × (D × Nat))
  | (.lst xs, n + 1), [] => (xs.getLast?).bind fun x => go (x.mdep ≤ n) (some ((.lst xs.dropLast, n + 1), (x, n)))
  | _, _ => none
def opPopi : D × Nat → List (D × Nat) → Option ((D × Nat) × (D × Nat))
  | (.lst xs, n + 1), [(.int i, _)] => go (-(2 ^ 62) ≤ i ∧ i < 2 ^ 62) <| (ix xs.length i).bind fun j => (xs[j]?).bind fun x => go (x.mdep ≤ n) (some ((.lst (xs.eraseIdx j), n + 1), (x, n)))
  | _, _ => none
def opPopk : D × Nat → List (D × Nat) → Option ((D × Nat) × (D × Nat))
  | (.dct ks vs, n + 1), [(k, _)] => go ((vKey k).isSome = true) ((ks.findIdx? fun y => pyEq y k).bind fun j => (vs[j]?).bind fun x => some ((.dct (ks.eraseIdx j) (vs.eraseIdx j), n + 1), if x.mdep ≤ n then (x, n) else (.hol, 9)))
  | _, _ => none
def opClr : D × Nat → List (D × Nat) → Option ((D × Nat) × (D × Nat))
  | (.lst _, n + 1), [] => some ((.lst [], n + 1), (.non, 9))
  | _, _ => none
def opClrk : D × Nat → List (D × Nat) → Option ((D × Nat) × (D × Nat))
  | (.dct _ _, n + 1), [] => some ((.dct [] [], n + 1), (.non, 9))
  | _, _ => none
def opIns : D × Nat → List (D × Nat) → Option ((D × Nat) × (D × Nat))
  | (.lst xs, n + 1), [(.int i, _), p] => go (xs.length + 1 ≤ SZ ∧ 0 ≤ i ∧ i < 2 ^ 62) (some ((.lst (insL xs i p.1), lvIn (n + 1) p), (.non, 9)))
  | _, _ => none
def opRem : D × Nat → List (D × Nat) → Option ((D × Nat) × (D × Nat))
  | (.lst xs, n + 1), [(.str s, _)] => (strsOf xs).bind fun ss => go (s ∈ ss) (some ((.lst ((ss.erase s).map .str), n + 1), (.non, 9)))
  | _, _ => none
def opRvr : D × Nat → List (D × Nat) → Option ((D × Nat) × (D × Nat))
  | (.lst xs, n + 1), [] => some ((.lst xs.reverse, n + 1), (.non, 9))
  | _, _ => none
def opSda : D × Nat → List (D × Nat) → Option ((D × Nat) × (D × Nat))
  | (.dct ks vs, n + 2), [(k, _), p] => go ((vKey k).isSome = true ∧ p.1.mdep = 0 ∧ ks.length + 1 < SZ) (match ks.findIdx? fun y => pyEq y k with
    | some j => (vs[j]?).bind fun v => match v with
      | .lst xs => go (xs.length + 1 ≤ SZ) (some ((.dct ks (vs.set j (.lst (xs ++ [p.1]))), n + 2), (.non, 9)))
      | _ => none
    | none => some ((.dct (ks ++ [k]) (vs ++ [.lst [p.1]]), n + 2), (.non, 9)))
  | _, _ => none
def nodeOp : MO → D × Nat → List (D × Nat) → Option ((D × Nat) × (D × Nat))
  | .app => opApp
  | .pop => opPop
  | .popi => opPopi
  | .popk => opPopk
  | .clr => opClr
  | .clrk => opClrk
  | .ins => opIns
  | .rem => opRem
  | .rvr => opRvr
  | .sda => opSda
def mTy (m : MO) (q : D × Nat) : Bool := decide (1 ≤ q.2) && (match m, q.1 with
  | .popk, .dct _ _ => true
  | .sda, .dct _ _ => true
  | .clrk, .dct _ _ => true
  | .clrk, _ => false
  | .popk, _ => false
  | .sda, _ => false
  | _, .lst _ => true
  | _, _ => false)
def nodeP (ρ : Env) (i : Nat) (rs : List Rtp) : Option (D × Nat) := ((ρ[i]?).bind id).bind fun p => getP p rs
def stOp : D × Nat → D × Nat → D × Nat → Option (D × Nat)
  | (.lst xs, n + 1), (.int i, _), p => (ix xs.length i).map fun j => (.lst (xs.set j p.1), lvIn (n + 1) p)
  | (.dct ks vs, n + 1), (k, _), p => go ((vKey k).isSome = true ∧ ks.length + 1 < SZ) (some (.dct (putKD ks vs k p.1).1 (putKD ks vs k p.1).2, lvIn (n + 1) p))
  | _, _, _ => none
def stfOp : D × Nat → Cs → D × Nat → Option (D × Nat)
  | (.ins c fs vs, n + 1), f, p => go ((98 ≤ c ∧ c < 100) ∧ fs.length < 1000) (match fs.findIdx? (· == f) with
    | some j => some (.ins c fs (vs.set j p.1), lvIn (n + 1) p)
    | none => some (.ins c (fs ++ [f]) (vs ++ [p.1]), lvIn (n + 1) p))
  | _, _, _ => none
def chgP (ρ : Env) (i : Nat) (rs : List Rtp) (q : D × Nat) : Option Env := ((ρ[i]?).bind id).bind fun p => (getP p rs).map fun _ => setV ρ i (putP p.1 rs q.1, min p.2 (q.2 + rs.length))
def takeP (ρ : Env) (i : Nat) (rs : List Rtp) : Option ((D × Nat) × Env) := ((ρ[i]?).bind id).bind fun p => (getP p rs).map fun q => (q, ρ.set i (some (putP p.1 rs .hol, p.2)))
def isHol : D → Bool
  | .hol => true
  | _ => false
inductive Bk | pu | rd (i : Nat) (rs : List Rtp) (q : D × Nat) | io (i : Nat) (rs : List Rtp)
def Ag.ios : List Ag → List Nat
  | [] => []
  | .pu _ :: r => Ag.ios r
  | .rd _ :: r => Ag.ios r
  | .io p :: r => p.i :: Ag.ios r
inductive OX | ok (p : D × Nat) (ρ : Env) | exc (e : Exn) (ρ : Env) | bad
def OX.bind (o : OX) (f : D × Nat → Env → OX) : OX := match o with
  | .ok p ρ => f p ρ
  | .exc e ρ => .exc e ρ
  | .bad => .bad
@[simp] theorem OX.bind_ok (p : D × Nat) (ρ : Env) (f : D × Nat → Env → OX) : (OX.ok p ρ).bind f = f p ρ := id rfl
@[simp] theorem OX.bind_exc (e : Exn) (ρ : Env) (f : D × Nat → Env → OX) : (OX.exc e ρ).bind f = .exc e ρ := id rfl
@[simp] theorem OX.bind_bad (f : D × Nat → Env → OX) : OX.bad.bind f = .bad := id rfl
def onO {α : Type} (o : Out α) (ρ : Env) (f : α → OX) : OX := match o with
  | .ok a => f a
  | .exc e => .exc e ρ
  | .bad => .bad
@[simp] theorem onO_ok {α : Type} (a : α) (ρ : Env) (f : α → OX) : onO (.ok a) ρ f = f a := id rfl
@[simp] theorem onO_exc {α : Type} (e : Exn) (ρ : Env) (f : α → OX) : onO (.exc e) ρ f = .exc e ρ := id rfl
@[simp] theorem onO_bad {α : Type} (ρ : Env) (f : α → OX) : onO (.bad : Out α) ρ f = .bad := id rfl
def onX (o : OX) (f : D × Nat → Env → OS) : OS := match o with
  | .ok p ρ => f p ρ
  | .exc e ρ => .exc e ρ
  | .bad => .bad
@[simp] theorem onX_ok (p : D × Nat) (ρ : Env) (f : D × Nat → Env → OS) : onX (.ok p ρ) f = f p ρ := id rfl
@[simp] theorem onX_exc (e : Exn) (ρ : Env) (f : D × Nat → Env → OS) : onX (.exc e ρ) f = .exc e ρ := id rfl
@[simp] theorem onX_bad (f : D × Nat → Env → OS) : onX .bad f = .bad := id rfl
def OX.of (o : Option OX) : OX := match o with
  | some x => x
  | none => .bad
@[simp] theorem OX.of_some (x : OX) : OX.of (some x) = x := id rfl
@[simp] theorem OX.of_none : OX.of none = .bad := id rfl
def osOf (o : Option OS) : OS := match o with
  | some x => x
  | none => .bad
@[simp] theorem osOf_some (x : OS) : osOf (some x) = x := id rfl
@[simp] theorem osOf_none : osOf none = .bad := id rfl
mutual
def xnames : Xp → List Nat
  | .pu c => names c
  | .mop _ _ _ => []
  | .ioc _ _ _ _ => []
  | .iow _ _ => []
  | .cmp _ a b => []
  | .sub a i => xnames a ++ names i
  | .not a => []
  | .and a b => xnames a ++ xnames b
  | .or a b => xnames a ++ xnames b
  | .tup xs => xnamesL xs
  | .lst xs => xnamesL xs
  | .cal _ xs => xnamesL xs
  | .get d x e => names d ++ names e
  | .lc _ _ _ _ => []
  | .tp2 x c => xnames x ++ names c
  | .tmo _ _ _ _ => []
def xnamesL : List Xp → List Nat
  | [] => []
  | x :: xs => xnames x ++ xnamesL xs
end
def lstOf : D → Option (List D)
  | .lst xs => some xs
  | _ => none
def isPu : Xp → Bool
  | .pu _ => true
  | _ => false
def noX {α : Type} : Out α → Out α
  | .ok a => .ok a
  | _ => .bad
@[simp] theorem noX_ok {α : Type} (a : α) : noX (.ok a) = .ok a := id rfl
@[simp] theorem noX_bad {α : Type} : noX (.bad : Out α) = .bad := id rfl
section
variable (G : Glo) (cf : Runs)
def rsv (ρ : Env) : List Ptp → Out (List Rtp)
  | [] => .ok []
  | .fld f :: r => (rsv ρ r).bind fun rs => .ok (.fld f :: rs)
  | .ix e :: r => (noX (ev G cf ρ e)).bind fun x => (rsv ρ r).bind fun rs => .ok (.at x.1 :: rs)
def mopX (L : List Nat) (ρ : Env) (i : Nat) (rs : List Rtp) (ns : List Nat) (ps : List (D × Nat)) (f : D × Nat → Option ((D × Nat) × (D × Nat))) : OX :=
  OX.of (if i ∈ L then none else ((ρ[i]?).bind id).bind fun p => (getP p rs).bind fun q => (f q).bind fun u =>
    if ps.all full = true then (chgP ρ i rs u.1).map fun ρ' => .ok u.2 ρ'
    else if i ∈ ns then none else (chgP (frz ρ ns) i rs u.1).map fun ρ' => .ok u.2 ρ')
def evAw (ρ : Env) : List Aw → Out (List (D × Nat))
  | [] => .ok []
  | .pu c :: r => (ev G cf ρ c).bind fun p => (evAw ρ r).bind fun ps => .ok (norm (p.1, 0) :: ps)
  | .io i :: r => (Out.of ((ρ[i]?).bind id)).bind fun p => (evAw ρ r).bind fun ps => .ok (norm p :: ps)
def awSep (is : List Nat) : List Aw → List (D × Nat) → Bool
  | .pu c :: r, p :: ps => (decide (p.1.mdep = 0) || is.all fun i => !(names c).contains i) && awSep is r ps
  | .io _ :: r, _ :: ps => awSep is r ps
  | _, _ => true
def awImm (ρ : Env) : List Aw → List (D × Nat) → Bool
  | .pu c :: r, p :: ps => (decide (p.1.mdep = 0) || (names c).all fun i => match (ρ[i]?).bind id with | some q => decide (q.1.mdep = 0) | none => true) && awImm ρ r ps
  | .io _ :: r, _ :: ps => awImm ρ r ps
  | _, _ => true
def setL : Env → List Nat → List (D × Nat) → Env
  | ρ, i :: is, q :: qs => setL (setV ρ i q) is qs
  | ρ, _, _ => ρ
def iowX (L : List Nat) (ρ : Env) (f : Nat) (as : List Aw) : OX := onO (evAw G cf ρ as) ρ fun ps =>
  if (Aw.ios as).Nodup ∧ (∀ i ∈ Aw.ios as, i ∉ L) ∧ awSep (Aw.ios as) as ps = true then (match cf.ci f ps with
    | .ok p qs => if qs.length = (Aw.ios as).length ∧ (qs.all full = true ∨ awImm ρ as ps = true) then .ok p (setL ρ (Aw.ios as) qs) else .bad
    | .exc e qs => if qs.length = (Aw.ios as).length ∧ (qs.all full = true ∨ awImm ρ as ps = true) then .exc e (setL ρ (Aw.ios as) qs) else .bad
    | .bad => .bad) else .bad
def evAwN (ρ ρh : Env) : List Aw → Out (List (D × Nat))
  | [] => .ok []
  | .pu c :: r => (ev G cf ρh c).bind fun p => (evAwN ρ ρh r).bind fun ps => .ok (norm (p.1, 0) :: ps)
  | .io i :: r => (Out.of ((ρ[i]?).bind id)).bind fun p => (evAwN ρ ρh r).bind fun ps => .ok (norm p :: ps)
def iowN (L : List Nat) (ρ ρh : Env) (f : Nat) (as : List Aw) : OX := onO (evAwN G cf ρ ρh as) ρ fun ps =>
  if (Aw.ios as).Nodup ∧ (∀ i ∈ Aw.ios as, i ∉ L) ∧ awSep (Aw.ios as) as ps = true then (match cf.ci f ps with
    | .ok p qs => if qs.length = (Aw.ios as).length ∧ (qs.all full = true ∨ awImm ρ as ps = true) then .ok p (setL ρ (Aw.ios as) qs) else .bad
    | .exc e qs => if qs.length = (Aw.ios as).length ∧ (qs.all full = true ∨ awImm ρ as ps = true) then .exc e (setL ρ (Aw.ios as) qs) else .bad
    | .bad => .bad) else .bad
def rsvL (ρ : Env) : List Pth → Option (List (Nat × List Rtp))
  | [] => some []
  | p :: r => match rsv G cf ρ p.st with
    | .ok rs => (rsvL ρ r).map fun l => (p.i, rs) :: l
    | _ => none
def takeL : Env → List (Nat × List Rtp) → Option Env
  | ρ, [] => some ρ
  | ρ, x :: l => (takeP ρ x.1 x.2).bind fun u => takeL (u.2 ++ [some u.1]) l
def holB (ρ : Env) (x : Nat × List Rtp) : Bool := match (ρ[x.1]?).bind id with
  | some p => (match getP p x.2 with
    | some h => isHol h.1
    | none => false)
  | none => false
def give1 (i : Nat) (rs : List Rtp) (ρ : Env) : Option Env := ((ρ.getLast?).bind id).bind fun q => ((ρ[i]?).bind id).bind fun p => (getP p rs).bind fun h => if isHol h.1 = true ∧ h.2 = q.2 ∧ i + 1 < ρ.length then some (ρ.dropLast.set i (some (putP p.1 rs q.1, p.2))) else none
def giveL : List (Nat × List Rtp) → Env → Option Env
  | [], ρ => some ρ
  | x :: l, ρ => (giveL l ρ).bind (give1 x.1 x.2)
def recvB (rc : Option (Nat × Cs)) (as : List Aw) (ρ : Env) : Bool := match rc with
  | none => true
  | some (c, m) => (match as with
    | .io i :: _ => (match (ρ[i]?).bind id with
      | some (.ins c' fs _, _) => decide (c' = c) && !fs.contains m
      | _ => false)
    | _ => false)
def iocX (L : List Nat) (ρ : Env) (rc : Option (Nat × Cs)) (f : Nat) (ps : List Pth) (as : List Aw) : OX := OX.of ((rsvL G cf ρ ps).bind fun l => (takeL ρ l).bind fun ρ2 =>
  if (l.all fun x => decide (x.1 < ρ.length) && decide (x.1 ∉ L)) = true ∧ l.all (holB ρ2) = true ∧ recvB rc as ρ2 = true then
    some (match iowN G cf (l.map (·.1) ++ L) ρ2 (ρ2.take ρ.length) f as with
      | .ok p ρ3 => OX.of ((giveL l ρ3).map fun ρ' => .ok p ρ')
      | .exc e ρ3 => OX.of ((giveL l ρ3).map fun ρ' => .exc e ρ')
      | .bad => .bad) else none)
def tupK (d : D) (c : Nat) : Option D := match d with
  | .tup ds => ds[c]?
  | _ => none
def setT (d : D) (c : Nat) (x : D) : D := match d with
  | .tup ds => .tup (ds.set c x)
  | d => d
def tmoX (L : List Nat) (ρ : Env) (i c : Nat) (p : D × Nat) (d : D) (m : MO) (ps : List (D × Nat)) : OX :=
  OX.of (if i ∉ L ∧ ps.all full = true then (nodeOp m (d, p.2) ps).map fun u => .ok u.2 (setV ρ i (setT p.1 c u.1.1, min p.2 u.1.2)) else none)
mutual
def exX (L : List Nat) (ρ : Env) : Xp → OX
  | .iow f as => iowX G cf L ρ f as
  | .pu c => onO (ev G cf ρ c) ρ fun p => .ok p ρ
  | .mop p m es => onO (rsv G cf ρ p.st) ρ fun rs => OX.of ((nodeP ρ p.i rs).map fun q => if mTy m q = true then onO (evs G cf ρ es) ρ fun ps => mopX L ρ p.i rs (namesL es) ps fun q => nodeOp m q ps else .bad)
  | .ioc rc f ps as => iocX G cf L ρ rc f ps as
  | .cmp o a b => (exX L ρ a).bind fun x ρ1 => OX.of (if full x = true ∨ isPu b = true then some ((exX L ρ1 b).bind fun y ρ2 => OX.of ((cmpD o x.1 y.1).map fun r => .ok (.bl r, 9) ρ2)) else none)
  | .sub a i => (exX L ρ a).bind fun x ρ1 => onO (ev G cf ρ1 i) ρ1 fun y => OX.of ((subD x.1 y.1).map fun r => .ok r ρ1)
  | .not a => (exX L ρ a).bind fun x ρ1 => OX.of ((truth x.1).map fun b => .ok (.bl (!b), 9) ρ1)
  | .and a b => (exX L ρ a).bind fun x ρ1 => OX.of ((truth x.1).map fun r => if r = true then exX L ρ1 b else .ok x ρ1)
  | .or a b => (exX L ρ a).bind fun x ρ1 => OX.of ((truth x.1).map fun r => if r = true then .ok x ρ1 else exX L ρ1 b)
  | .tup xs => exXs L ρ xs fun ps ρ1 => OX.of (if ps.length ≤ SZ then some (.ok (.tup (ps.map (·.1)), lvL ps) ρ1) else none)
  | .lst xs => exXs L ρ xs fun ps ρ1 => OX.of (if ps.length ≤ SZ then some (.ok (.lst (ps.map (·.1)), lvL ps + 1) ρ1) else none)
  | .cal f xs => exXs L ρ xs fun ps ρ1 => onO (cf.pl f (ps.map (·.1))) ρ1 fun p => .ok p ρ1
  | .get d x e => onO (ev G cf ρ d) ρ fun p => (exX L ρ x).bind fun k ρ1 => onO (ev G cf ρ1 e) ρ1 fun y => OX.of ((methD .get p [k, y]).map fun r => .ok r ρ1)
  | .lc it tg t e => onO (ev G cf ρ it) ρ fun x => OX.of ((itemsOf x.1).map fun xs => .bad)
  | .tp2 x c => (exX L ρ x).bind fun p ρ1 => OX.of (if p.1.mdep = 0 then some (onO (ev G cf ρ1 c) ρ1 fun q => .ok (.tup [p.1, q.1], q.2) ρ1) else none)
  | .tmo i c m es => OX.of (((ρ[i]?).bind id).bind fun p => (tupK p.1 c).map fun d => if mTy m (d, p.2) = true then onO (evs G cf ρ es) ρ fun ps => tmoX L ρ i c p d m ps else .bad)
def exXs (L : List Nat) (ρ : Env) : List Xp → (List (D × Nat) → Env → OX) → OX
  | [], k => k [] ρ
  | x :: xs, k => (exX L ρ x).bind fun p ρ1 => OX.of (if full p = true ∨ xs.all isPu = true then some (exXs L ρ1 xs fun ps ρ2 => k (p :: ps) ρ2) else none)
end
end
section
variable (G : Glo)
def blkS (e : Exn) (J : List Nat) : List (Nat × Ce) → Ce → Env → OS
  | [], c, ρ => osOf ((evC G e ρ c).map fun d => .rt (d, 9) ρ)
  | (j, a) :: r, c, ρ => osOf ((evC G e ρ a).map fun d => onJ J [j] (blkS e J r c (setV ρ j (d, 9))))
def exSu (e : Exn) (J : List Nat) (ρ : Env) : Sui → OS
  | .ret c => osOf ((evC G e ρ c).map fun d => .rt (d, 9) ρ)
  | .asg i c => osOf ((evC G e ρ c).map fun d => onJ J [i] (.nx (setV ρ i (d, 9))))
  | .rai c fs es => osOf ((evCs G e ρ es).map fun ds => .exc (mkX c fs ds) ρ)
  | .blk l c => blkS G e J l c ρ
def goneS (i : Nat) : OS → OS
  | .nx ρ => .nx (ρ.set i none)
  | .rt p ρ => .rt p (ρ.set i none)
  | .exc e ρ => .exc e (ρ.set i none)
  | .bad => .bad
def handle (J : List Nat) (e : Exn) (ρ : Env) : List Hdl → OS
  | [] => .exc e ρ
  | h :: hs => if G.cm e.c = [] then .bad else if ((G.cm e.c).any fun c => h.cs.contains c) = true then (match h.nm with
      | none => exSu G e J ρ h.su
      | some i => if i ∈ J then .bad else goneS i (exSu G e J (ρ.set i none) h.su)) else handle J e ρ hs
end
def putA (k : Cs) (d : D) : List (Cs × D) → List (Cs × D)
  | [] => [(k, d)]
  | p :: r => if p.1 = k then (k, d) :: r else p :: putA k d r
def newD (Ks Kw : List Cs) (vs vw : List D) : D := .dct (((Ks.zip vs).foldl (fun m p => putA p.1 p.2 m) (Kw.zip vw)).map fun p => .str p.1) (((Ks.zip vs).foldl (fun m p => putA p.1 p.2 m) (Kw.zip vw)).map (·.2))
def updS (J L : List Nat) (ρ : Env) (x i w : Nat) : OS := match (ρ[i]?).bind id, (ρ[w]?).bind id with
  | some (.dct ks vs, n1 + 1), some (.dct kw vw, n2 + 1) => match strsOf ks, strsOf kw with
    | some Ks, some Kw => if mdepL vs = 0 ∧ mdepL vw = 0 ∧ i ≠ x ∧ w ≠ x ∧ i ≠ w ∧ w ∉ L ∧ x ∉ J ∧ x < ρ.length ∧ Kw.length + Ks.length < SZ then
        .nx (match Ks.getLast? with | none => setV ρ w (newD Ks Kw vs vw, n2 + 1) | some k => (setV ρ w (newD Ks Kw vs vw, n2 + 1)).set x (some (.str k, 9)))
      else .bad
    | _, _ => .bad
  | _, _ => .bad
def rowsApp (s : Cs) : List D → Option (List D)
  | [] => some []
  | .lst ys :: r => if mdepL ys = 0 ∧ ys.length + 1 < SZ then (rowsApp s r).map (D.lst (ys ++ [.str s]) :: ·) else none
  | _ :: _ => none
def aprS (J L : List Nat) (ρ : Env) (x i : Nat) (s : Cs) : OS := match (ρ[i]?).bind id with
  | some (.lst xs, n + 2) => match rowsApp s xs with
    | some ys => if i ≠ x ∧ i ∉ L ∧ x ∉ J ∧ x < ρ.length then .nx ((setV ρ i (.lst ys, n + 2)).set x none) else .bad
    | none => .bad
  | _ => .bad
def amvD (J L : List Nat) (ρ : Env) (i j : Nat) : OS := match (ρ[i]?).bind id, (ρ[j]?).bind id with
  | some (.lst xs, n), some (.lst ys, m) => if i ≠ j ∧ i ∉ L ∧ j ∉ L ∧ j ∉ J ∧ 1 ≤ n ∧ 1 ≤ m ∧ mdepL ys = 0 ∧ xs.length + 1 ≤ SZ then .nx ((ρ.set j none).set i (some (.lst (xs ++ [.tup [.lst ys, .lst ys]]), lvIn n (.tup [.lst ys, .lst ys], 1)))) else .bad
  | _, _ => .bad
section
variable (G : Glo) (cf : Runs)
mutual
def exS (L : List Nat) (ρ : Env) : S → OS
  | .pass => .nx ρ
  | .asg i e => onE (ev G cf ρ e) ρ fun p => onJ cf.io [i] (.nx (bindV ρ i p (names e)))
  | .asgT is e => onE (ev G cf ρ e) ρ fun p => onJ cf.io is <| putS (if full p = true then ρ else frz ρ (names e)) (.tup is) p.1 .nx
  | .exp e => onE (ev G cf ρ e) ρ fun _ => .nx ρ
  | .ret e => onE (ev G cf ρ e) ρ fun p => .rt p ρ
  | .retv i => match (ρ[i]?).bind id with
    | some p => .rt p (ρ.set i none)
    | none => .bad
  | .retT j i κ => match (ρ[j]?).bind id, (ρ[i]?).bind id with
    | some p, some q => if p.1.mdep = 0 ∧ i ≠ j then (match getP q [.at (.str κ)] with
      | some u => .rt (.tup [p.1, u.1], u.2) (ρ.set i none)
      | none => .bad) else .bad
    | _, _ => .bad
  | .retP i j => match (ρ[i]?).bind id, (ρ[j]?).bind id with
    | some p, some q => if i ≠ j ∧ p.2 = q.2 then .rt (.tup [p.1, q.1], p.2) ((ρ.set i none).set j none) else .bad
    | _, _ => .bad
  | .updD x i w => updS cf.io L ρ x i w
  | .apr x i s => aprS cf.io L ρ x i s
  | .retN => .rt (.non, 9) ρ
  | .ife t a b => onE (evB G cf ρ t) ρ fun c => if c = true then exB L ρ a else exB L ρ b
  | .whl n t b => whileL (fun ρ => evB G cf ρ t) (fun ρ => exB L ρ b) n ρ
  | .for_ tg it b => onE (ev G cf ρ it) ρ fun p => match itemsOf p.1 with
    | none => .bad
    | some xs => onJ cf.io tg.is <| if full p = true then forL (fun ρ d => putS ρ tg d fun ρ => exB L ρ b) xs ρ
      else forL (fun ρ d => putS ρ tg d fun ρ => exB (names it ++ L) ρ b) xs (if mdepL xs = 0 then ρ else frz ρ (names it))
  | .forD tg it b => onE (ev G cf ρ it) ρ fun p => match itemsOf p.1 with
    | none => .bad
    | some xs => onJ cf.io tg.is <| if full p = true then forL (fun ρ d => putS ρ tg d fun ρ => exB L ρ b) xs ρ
      else forL (fun ρ d => putS ρ tg d fun ρ => exB (names it ++ L) ρ b) xs (frz ρ (names it))
  | .amv i j => amvD cf.io L ρ i j
  | .app i e => match (ρ[i]?).bind id with
    | some (.lst _, _) => onE (ev G cf ρ e) ρ fun p => appD L ρ i p (names e)
    | _ => .bad
  | .par i j a b => onE (evs G cf ρ [a, b]) ρ fun ps => onJ cf.io [i, j] (parD ρ i j ps (namesL [a, b]))
  | .asgX i x => onX (exX G cf L ρ x) fun p ρ1 => onJ cf.io [i] (.nx (bindV ρ1 i p (xnames x)))
  | .asgXT is x => onX (exX G cf L ρ x) fun p ρ1 => onJ cf.io is <| putS (if full p = true then ρ1 else frz ρ1 (xnames x)) (.tup is) p.1 .nx
  | .expX x => onX (exX G cf L ρ x) fun _ ρ1 => .nx ρ1
  | .retX x => onX (exX G cf L ρ x) fun p ρ1 => .rt p ρ1
  | .ifX x a b => onX (exX G cf L ρ x) fun p ρ1 => osOf ((truth p.1).map fun c => if c = true then exB L ρ1 a else exB L ρ1 b)
  | .appX i x => match (ρ[i]?).bind id with
    | some (.lst _, _) => onX (exX G cf L ρ x) fun q ρ1 => if full q = true then onX (mopX L ρ1 i [] [] [q] fun u => opApp u [q]) fun _ ρ2 => .nx ρ2 else .bad
    | _ => .bad
  | .st p k e => onE (ev G cf ρ e) ρ fun q => onE (rsv G cf ρ p.st) ρ fun rs => onE (noX (ev G cf ρ k)) ρ fun y => onX (mopX L ρ p.i rs (names e) [q] fun u => (stOp u y q).map (·, (.non, 9))) fun _ ρ2 => .nx ρ2
  | .stX i x e => onE (ev G cf ρ e) ρ fun q => if q.1.mdep = 0 ∧ ((ρ[i]?).bind id).isSome = true then onX (exX G cf L ρ x) fun y ρ1 => onX (mopX L ρ1 i [] [] [q] fun u => (stOp u y q).map (·, (.non, 9))) fun _ ρ2 => .nx ρ2 else .bad
  | .stf p f e => onE (ev G cf ρ e) ρ fun q => onE (rsv G cf ρ p.st) ρ fun rs => onX (mopX L ρ p.i rs (names e) [q] fun u => (stfOp u f q).map (·, (.non, 9))) fun _ ρ2 => .nx ρ2
  | .forX tg x b => onX (exX G cf (xnames x ++ L) ρ x) fun p ρ1 => osOf ((lstOf p.1).map fun xs => onJ cf.io tg.is <| if full p = true then forL (fun ρ d => putS ρ tg d fun ρ => exB L ρ b) xs ρ1
      else forL (fun ρ d => putS ρ tg d fun ρ => exB (xnames x ++ L) ρ b) xs (if mdepL xs = 0 then ρ1 else frz ρ1 (xnames x)))
  | .rai c fs es => onE (evs G cf ρ es) ρ fun ps => if ps.all (fun p => decide (p.1.mdep = 0)) = true then .exc (mkX c fs (ps.map (·.1))) ρ else .bad
  | .tri b hs => match exB L ρ b with
    | .exc e ρ1 => handle G cf.io e ρ1 hs
    | o => o
def exB (L : List Nat) (ρ : Env) : List S → OS
  | [] => .nx ρ
  | s :: r => match exS L ρ s with
    | .nx ρ' => exB L ρ' r
    | o => o
end
end

def OwnAt (S : Slots) (i : Nat) (a : Addr) : Prop := ∃ r : Root, S[i]? = some (some r) ∧ a ∈ r.O
def Own (S : Slots) (a : Addr) : Prop := ∃ i, OwnAt S i a
def Ou (S : Slots) (L : List Nat) (a : Addr) : Prop := ∃ i, i ∉ L ∧ OwnAt S i a
def Any (S : Slots) (a : Addr) : Prop := ∃ (i : Nat) (r : Root), S[i]? = some (some r) ∧ a ∈ r.O ++ r.Z
structure Fr (S : Slots) : Prop where
  nd : ∀ (i : Nat) (r : Root), S[i]? = some (some r) → r.O.Nodup
  sep : ∀ i j a, OwnAt S i a → OwnAt S j a → i = j
  zo : ∀ i a, OwnAt S i a → ∀ (j : Nat) (r : Root), S[j]? = some (some r) → a ∉ r.Z
structure Step (J L : List Nat) (S : Slots) (H : Hp) (S' : Slots) (H' : Hp) : Prop where
  keep : ∀ a o, H a = some o → ¬ Ou S L a → H' a = some o
  there : ∀ a, H a ≠ none → H' a ≠ none
  own : ∀ i a, OwnAt S' i a → OwnAt S i a ∨ Ou S L a ∨ H a = none
  any : ∀ a, Any S' a → Any S a ∨ H a = none
  pin : ∀ i ∈ J, ∀ r' : Root, S'[i]? = some (some r') → ∃ r : Root, S[i]? = some (some r) ∧ r.v = r'.v
section
variable {S0 S1 S2 S3 : Slots} {H H0 H1 H2 H3 : Hp} {J L L' : List Nat}
theorem OwnAt.own {i : Nat} {a : Addr} (h : OwnAt S0 i a) : Own S0 a := ⟨i, h⟩
theorem OwnAt.any {i : Nat} {a : Addr} (h : OwnAt S0 i a) : Any S0 a := let ⟨r, e, q⟩ := h; ⟨i, r, e, by simp [q]⟩
theorem Ou.own {a : Addr} (h : Ou S0 L a) : Own S0 a := let ⟨i, _, q⟩ := h; ⟨i, q⟩
theorem Nod.any {is : List Nat} {a : Addr} (h : Nod S0 is a) : Any S0 a := let ⟨i, _, r, e, q⟩ := h; ⟨i, r, e, q⟩
theorem Ou.mono (h : ∀ i ∈ L, i ∈ L') {a : Addr} (o : Ou S0 L' a) : Ou S0 L a := let ⟨i, q, w⟩ := o; ⟨i, fun z => q (h i z), w⟩
theorem Step.same (s : Same H0 H1) : Step J L S0 H0 S0 H1 := ⟨fun a o e _ => s a o e, fun a h => same_there s h, fun i a h => .inl h, fun a h => .inl h, fun i _ r h => ⟨r, h, rfl⟩⟩
theorem Step.refl : Step J L S0 H0 S0 H0 := Step.same (Same.refl _)
theorem Step.none (s : Step J L S0 H0 S1 H1) {a : Addr} (h : H1 a = none) : H0 a = none := by
  cases e : H0 a with
  | none => rfl
  | some o => exact absurd h (s.there a (by rw [e]; simp))
theorem Step.ou (s : Step J L S0 H0 S1 H1) {a : Addr} (h : Ou S1 L a) : Ou S0 L a ∨ H0 a = Option.none := by
  obtain ⟨i, hi, h⟩ := h
  rcases s.own i a h with z | z | z
  · exact .inl ⟨i, hi, z⟩
  · exact .inl z
  · exact .inr z
theorem Step.ownA (s : Step J L S0 H0 S1 H1) {a : Addr} (h : Own S1 a) : Own S0 a ∨ H0 a = Option.none := by
  obtain ⟨i, h⟩ := h
  rcases s.own i a h with z | z | z
  · exact .inl ⟨i, z⟩
  · exact .inl z.own
  · exact .inr z
theorem Step.trans (s : Step J L S0 H0 S1 H1) (t : Step J L S1 H1 S2 H2) : Step J L S0 H0 S2 H2 where
  keep := fun a o e n => t.keep a o (s.keep a o e n) fun z => (s.ou z).elim n fun z => by rw [e] at z; cases z
  there := fun a h => t.there a (s.there a h)
  own := fun i a h => by
    rcases t.own i a h with z | z | z
    · exact s.own i a z
    · exact .inr (s.ou z)
    · exact .inr (.inr (s.none z))
  any := fun a h => (t.any a h).elim (s.any a) fun z => .inr (s.none z)
  pin := fun i hi r h => let ⟨r1, h1, e1⟩ := t.pin i hi r h; let ⟨r2, h2, e2⟩ := s.pin i hi r1 h1; ⟨r2, h2, e2.trans e1⟩
theorem Step.mono (h : ∀ i ∈ L, i ∈ L') (s : Step J L' S0 H0 S1 H1) : Step J L S0 H0 S1 H1 where
  keep := fun a o e n => s.keep a o e fun z => n (z.mono h)
  there := s.there
  own := fun i a q => (s.own i a q).imp id (Or.imp (Ou.mono h) id)
  any := s.any
  pin := s.pin
def ownL (S : Slots) (L : List Nat) : List Addr := (List.range S.length).flatMap fun i => if i ∈ L then [] else match S[i]? with
  | some (some r) => r.O
  | _ => []
theorem ownL_mem {a : Addr} : a ∈ ownL S0 L ↔ Ou S0 L a := by
  unfold ownL
  rw [List.mem_flatMap]
  constructor
  · rintro ⟨i, hi, h⟩
    split at h
    · simp at h
    · rename_i hL
      split at h
      · rename_i r e; exact ⟨i, hL, r, e, h⟩
      · simp at h
  · rintro ⟨i, hi, r, e, h⟩
    refine ⟨i, by simp; exact (List.getElem?_eq_some_iff.mp e).1, ?_⟩
    rw [if_neg hi, e]
    exact h
variable {K : PySem.W.Frag} {CA : Nat → Addr} {σ σ' : St} {W : WX}
theorem Step.keepF (s : Step J L S0 H0 S1 H1) : Keep (ownL S0 L) H0 H1 := fun a o e n => s.keep a o e fun z => n (ownL_mem.mpr z)
theorem SRep.fix (r : SRep K CA S0 σ H0) : Fix (ownL S0 L) H0 := fun a h => by
  obtain ⟨i, _, q, e, h⟩ := ownL_mem.mp h
  exact (r.rep i q e).2.own_mut a h
theorem SRep.any (r : SRep K CA S0 σ H0) {a : Addr} (h : Any S0 a) : H0 a ≠ none := by
  obtain ⟨i, q, e, h⟩ := h
  exact (r.rep i q e).2.there a h
theorem SRep.own (r : SRep K CA S0 σ H0) {a : Addr} (h : Own S0 a) : H0 a ≠ none := let ⟨i, q⟩ := h; r.any q.any
def DenS (K : PySem.W.Frag) (CA : Nat → Addr) (W : WX) (J L : List Nat) (S0 : Slots) (H0 : Hp) (o : OS) (D : Ends) : Prop :=
  match o with
  | .nx ρ => ∀ S σ H, SRep K CA S σ H → Fr S → Step J L S0 H0 S H → envOf S = ρ → D.nx σ H
  | .rt p ρ => ∀ S σ v H O Z, SRep K CA S σ H → Fr S → Step J L S0 H0 S H → envOf S = ρ → Rep K CA H p.2 p.1 v O Z → (∀ a ∈ O, ¬ Any S a) → (∀ a ∈ O, Own S0 a ∨ H0 a = none) → O.Nodup → (∀ a ∈ Z, Any S0 a ∨ H0 a = none) → (∀ a ∈ Z, a ∉ O) → D.rt v H
  | .exc e ρ => ∀ S σ H cls dd, SRep K CA S σ H → Fr S → Step J L S0 H0 S H → envOf S = ρ → ExRep K CA e cls dd H → W cls dd σ H
  | .bad => False
theorem DenS.step {o : OS} {D : Ends} (s : Step J L S0 H0 S1 H1) (h : DenS K CA W J L S0 H0 o D) : DenS K CA W J L S1 H1 o D := by
  cases o with
  | nx ρ => exact fun S σ H a b c d => h S σ H a b (s.trans c) d
  | rt p ρ => exact fun S σ v H O Z a b c d e e' f g i j => h S σ v H O Z a b (s.trans c) d e e' (fun a' q => (f a' q).elim s.ownA fun z => .inr (s.none z)) g (fun a' q => (i a' q).elim (s.any a') fun z => .inr (s.none z)) j
  | exc e ρ => exact fun S σ H cls dd a b c d => h S σ H cls dd a b (s.trans c) d
  | bad => exact h
theorem DenS.lock (h : ∀ i ∈ L, i ∈ L') {o : OS} {D : Ends} (q : DenS K CA W J L S0 H0 o D) : DenS K CA W J L' S0 H0 o D := by
  cases o with
  | nx ρ => exact fun S σ H a b c d => q S σ H a b (c.mono h) d
  | rt p ρ => exact fun S σ v H O Z a b c d e e' f g i j => q S σ v H O Z a b (c.mono h) d e e' f g i j
  | exc e ρ => exact fun S σ H cls dd a b c d => q S σ H cls dd a b (c.mono h) d
  | bad => exact q
theorem DenS.nx' {o : OS} {D D' : Ends} (hr : D'.rt = D.rt) (hn : ∀ ρ, o ≠ .nx ρ) (h : DenS K CA W J L S0 H0 o D) : DenS K CA W J L S0 H0 o D' := by
  cases o with
  | nx ρ => exact absurd rfl (hn ρ)
  | rt p ρ => exact fun S σ v H O Z a b c d e e' f g i j => by rw [hr]; exact h S σ v H O Z a b c d e e' f g i j
  | exc e ρ => exact h
  | bad => exact h
theorem DenS.onE {o : Out (D × Nat)} {f : D × Nat → OS} {D : Ends} {M : Addr → Prop} (r : SRep K CA S0 σ H0) (fr : Fr S0) (h : DenS K CA W J L S0 H0 (onE o (envOf S0) f) D) {Q : VK}
    (q : ∀ p v H1 O Z, o = .ok p → PVal K CA M H0 H1 p.1 p.2 v O Z → DenS K CA W J L S0 H0 (f p) D → Q v H1) : Den K CA W M o σ H0 Q := by
  cases o with
  | ok p => exact fun v H1 O Z pv => q p v H1 O Z rfl pv h
  | exc e => exact fun cls dd H' s x => h S0 σ H' cls dd (r.same s) fr (Step.same s) rfl x
  | bad => exact h
theorem DenS.onB {o : Out Bool} {f : Bool → OS} {D : Ends} (r : SRep K CA S0 σ H0) (fr : Fr S0) (h : DenS K CA W J L S0 H0 (Vy.onE o (envOf S0) f) D) {Q : Bool → Hp → Prop}
    (q : ∀ b H1, o = .ok b → Same H0 H1 → DenS K CA W J L S0 H0 (f b) D → Q b H1) : DenB K CA W o σ H0 Q := by
  cases o with
  | ok b => exact fun H1 s => q b H1 rfl s h
  | exc e => exact fun cls dd H' s x => h S0 σ H' cls dd (r.same s) fr (Step.same s) rfl x
  | bad => exact h
theorem norm_rep {d : D} {n : Nat} {v : V} {O Z : List Addr} (r : Rep K CA H n d v O Z) : Rep K CA H (norm (d, n)).2 d v O Z := by
  unfold norm
  by_cases h : d.mdep = 0
  · simp only [h, if_true]
    obtain ⟨e1, e2, r'⟩ := r.imm (m := 9) h
    subst e1; subst e2; exact r'
  · simp only [h, if_false]; exact r
def setR (S : Slots) (i : Nat) (d : D) (n : Nat) (v : V) (O Z : List Addr) : Slots := S.set i (some ⟨d, (norm (d, n)).2, v, O, Z⟩)
theorem envOf_setR {i : Nat} {d : D} {n : Nat} {v : V} {O Z : List Addr} : envOf (setR S0 i d n v O Z) = setV (envOf S0) i (d, n) := by
  unfold setR setV envOf
  rw [List.map_set]
  congr 2
  show some (d, (norm (d, n)).2) = _
  rw [show norm (d, n) = ((norm (d, n)).1, (norm (d, n)).2) from rfl, norm_fst]
theorem SRep.setR {i : Nat} {d : D} {n : Nat} {v : V} {O Z : List Addr} (sr : SRep K CA S0 σ H) (r : Rep K CA H n d v O Z) (hi : i < S0.length) : SRep K CA (setR S0 i d n v O Z) (σ.set i (some v)) H where
  len := by unfold Vy.setR; rw [List.length_set, List.length_set, sr.len]
  rep := fun j x hx => by
    unfold Vy.setR at hx
    by_cases hj : i = j
    · subst hj
      rw [List.getElem?_set_self hi] at hx
      cases hx
      exact ⟨by rw [List.getElem?_set_self (by rw [← sr.len]; exact hi)], norm_rep r⟩
    · rw [List.getElem?_set_ne hj] at hx
      obtain ⟨a, b⟩ := sr.rep j x hx
      exact ⟨by rw [List.getElem?_set_ne hj]; exact a, b⟩
theorem setR_some {i j : Nat} {d : D} {n : Nat} {v : V} {O Z : List Addr} {r : Root} (h : (setR S0 i d n v O Z)[j]? = some (some r)) : (j = i ∧ r.O = O ∧ r.Z = Z) ∨ (j ≠ i ∧ S0[j]? = some (some r)) := by
  unfold setR at h
  by_cases hj : i = j
  · subst hj
    by_cases hi : i < S0.length
    · rw [List.getElem?_set_self hi] at h; cases h; exact .inl ⟨rfl, rfl, rfl⟩
    · rw [List.getElem?_eq_none (by simpa using hi)] at h; cases h
  · rw [List.getElem?_set_ne hj] at h
    exact .inr ⟨Ne.symm hj, h⟩
theorem setR_own {i j : Nat} {d : D} {n : Nat} {v : V} {O Z : List Addr} {a : Addr} (h : OwnAt (setR S0 i d n v O Z) j a) : (j = i ∧ a ∈ O) ∨ (j ≠ i ∧ OwnAt S0 j a) := by
  obtain ⟨r, e, q⟩ := h
  rcases setR_some e with ⟨h1, h2, _⟩ | ⟨h1, h2⟩
  · exact .inl ⟨h1, h2 ▸ q⟩
  · exact .inr ⟨h1, r, h2, q⟩
theorem setR_any {i : Nat} {d : D} {n : Nat} {v : V} {O Z : List Addr} {a : Addr} (h : Any (setR S0 i d n v O Z) a) : a ∈ O ++ Z ∨ Any S0 a := by
  obtain ⟨j, r, e, q⟩ := h
  rcases setR_some e with ⟨h1, h2, h3⟩ | ⟨h1, h2⟩
  · exact .inl (by rw [← h2, ← h3]; exact q)
  · exact .inr ⟨j, r, h2, q⟩
theorem Fr.setR {i : Nat} {d : D} {n : Nat} {v : V} {O Z : List Addr} (f : Fr S0) (nd : O.Nodup) (zo : ∀ a ∈ Z, a ∉ O) (h1 : ∀ a ∈ O, ∀ (j : Nat) (r : Root), j ≠ i → S0[j]? = some (some r) → a ∉ r.O ++ r.Z) (h2 : ∀ a ∈ Z, ∀ j, j ≠ i → ¬ OwnAt S0 j a) : Fr (setR S0 i d n v O Z) where
  nd := fun j r h => by
    rcases setR_some h with ⟨_, e, _⟩ | ⟨_, e⟩
    · rw [e]; exact nd
    · exact f.nd j r e
  sep := fun j k a h h' => by
    rcases setR_own h with ⟨e, p⟩ | ⟨e, p⟩ <;> rcases setR_own h' with ⟨e', p'⟩ | ⟨e', p'⟩
    · rw [e, e']
    · obtain ⟨r, q1, q2⟩ := p'
      exact absurd (by simp [q2]) (h1 a p k r e' q1)
    · obtain ⟨r, q1, q2⟩ := p
      exact absurd (by simp [q2]) (h1 a p' j r e q1)
    · exact f.sep j k a p p'
  zo := fun j a h k r hk => by
    rcases setR_some hk with ⟨e, _, ez⟩ | ⟨e, q⟩ <;> rcases setR_own h with ⟨e', p'⟩ | ⟨e', p'⟩
    · rw [ez]; exact fun z => zo a z p'
    · rw [ez]; exact fun z => h2 a z j e' p'
    · exact fun z => h1 a p' k r e q (by simp [z])
    · exact f.zo j a p' k r q
structure Frz (S : Slots) (S' : Slots) (is : List Nat) : Prop where
  len : S'.length = S.length
  env : envOf S' = frz (envOf S) is
  own : ∀ j a, OwnAt S' j a → OwnAt S j a
  any : ∀ (j : Nat) (r' : Root), S'[j]? = some (some r') → ∃ r : Root, S[j]? = some (some r) ∧ ∀ a ∈ r'.O ++ r'.Z, a ∈ r.O ++ r.Z
  nod : ∀ j ∈ is, ∀ a, ¬ OwnAt S' j a
  oth : ∀ j, j ∉ is → S'[j]? = S[j]?
  pin : ∀ (j : Nat) (r' : Root), S'[j]? = some (some r') → ∃ r : Root, S[j]? = some (some r) ∧ r.v = r'.v
theorem frz1_ok {i : Nat} (sr : SRep K CA S0 σ H) (f : Fr S0) : ∃ S', SRep K CA S' σ H ∧ Fr S' ∧ S'.length = S0.length ∧ envOf S' = frz1 (envOf S0) i ∧ (∀ j a, OwnAt S' j a → OwnAt S0 j a) ∧
    (∀ (j : Nat) (r' : Root), S'[j]? = some (some r') → ∃ r : Root, S0[j]? = some (some r) ∧ ∀ a ∈ r'.O ++ r'.Z, a ∈ r.O ++ r.Z) ∧ (∀ a, ¬ OwnAt S' i a) ∧ ∀ j, j ≠ i → S'[j]? = S0[j]? := by
  cases h : (S0[i]?).bind id with
  | none =>
    refine ⟨S0, sr, f, rfl, ?_, fun j a h => h, fun j r h => ⟨r, h, fun a q => q⟩, fun a ⟨r, e, _⟩ => ?_, fun _ _ => rfl⟩
    · unfold frz1; rw [envOf_get, h]; rfl
    · rw [e] at h; cases h
  | some r =>
    have hr : S0[i]? = some (some r) := by
      cases e : S0[i]? with
      | none => rw [e] at h; cases h
      | some o => rw [e] at h; cases o with
        | none => cases h
        | some q => cases h; rfl
    obtain ⟨q1, q2⟩ := sr.rep i r hr
    obtain ⟨O', Z', r', l⟩ := q2.low (Nat.zero_le _)
    have := r'.zero
    subst this
    have hi : i < S0.length := (List.getElem?_eq_some_iff.mp hr).1
    refine ⟨setR S0 i r.d 0 r.v [] Z', ?_, ?_, by unfold setR; simp, ?_, ?_, ?_, ?_, ?_⟩
    · have := sr.setR r' hi
      have hs : σ.set i (some r.v) = σ := List.ext_getElem? fun j => by
        by_cases e : i = j
        · subst e; rw [List.getElem?_set_self (List.getElem?_eq_some_iff.mp q1).1, q1]
        · rw [List.getElem?_set_ne e]
      rwa [hs] at this
    · refine f.setR (by simp) (by simp) (by simp) fun a ha j hj w => ?_
      rcases l.all a ha with z | z
      · exact hj (f.sep j i a w ⟨r, hr, z⟩)
      · exact f.zo j a w i r hr z
    · rw [envOf_setR]; unfold frz1; rw [envOf_get, h]; rfl
    · intro j a h
      rcases setR_own h with ⟨_, z⟩ | ⟨_, z⟩
      · simp at z
      · exact z
    · intro j r2 h
      rcases setR_some h with ⟨e, e1, e2⟩ | ⟨e, z⟩
      · subst e
        refine ⟨r, hr, fun a ha => ?_⟩
        rw [e1, e2] at ha
        rcases l.all a (by simpa using ha) with z | z <;> simp [z]
      · exact ⟨r2, z, fun a q => q⟩
    · intro a h
      rcases setR_own h with ⟨_, z⟩ | ⟨z, _⟩
      · simp at z
      · exact z rfl
    · intro j hj
      unfold setR
      rw [List.getElem?_set_ne (Ne.symm hj)]
theorem frz_ok {σ : St} {H : Hp} : ∀ (is : List Nat) {S0 : Slots}, SRep K CA S0 σ H → Fr S0 → ∃ S', SRep K CA S' σ H ∧ Fr S' ∧ Frz S0 S' is
  | [], S0, sr, f => ⟨S0, sr, f, rfl, rfl, fun _ _ h => h, fun j r h => ⟨r, h, fun a q => q⟩, by simp, fun _ _ => rfl, fun j r h => ⟨r, h, rfl⟩⟩
  | i :: is, S0, sr, f => by
    obtain ⟨S1, sr1, f1, l1, e1, o1, a1, n1, t1⟩ := frz1_ok (i := i) sr f
    obtain ⟨S2, sr2, f2, z⟩ := frz_ok is sr1 f1
    refine ⟨S2, sr2, f2, z.len.trans l1, ?_, fun j a h => o1 j a (z.own j a h), fun j r' h => ?_, fun j hj a h => ?_, fun j hj => ?_, fun j r' h => ?_⟩
    · rw [z.env, e1]; rfl
    · obtain ⟨r, h1, h2⟩ := z.any j r' h
      obtain ⟨r0, h3, h4⟩ := a1 j r h1
      exact ⟨r0, h3, fun a q => h4 a (h2 a q)⟩
    · rcases List.mem_cons.mp hj with rfl | hj
      · exact n1 a (z.own j a h)
      · exact z.nod j hj a h
    · simp at hj
      rw [z.oth j hj.2, t1 j hj.1]
    · obtain ⟨r, h1, _⟩ := z.any j r' h
      obtain ⟨r0, h3, _⟩ := a1 j r h1
      refine ⟨r0, h3, ?_⟩
      have q1 := (sr.rep j r0 h3).1
      rw [(sr2.rep j r' h).1] at q1
      exact (Option.some.inj (Option.some.inj q1)).symm
theorem Frz.step {S S' : Slots} {is : List Nat} (z : Frz S S' is) : Step J L S H0 S' H0 where
  keep := fun a o e _ => e
  there := fun a h => h
  own := fun i a h => .inl (z.own i a h)
  any := fun a ⟨j, r, e, q⟩ => let ⟨r0, h1, h2⟩ := z.any j r e; .inl ⟨j, r0, h1, h2 a q⟩
  pin := fun j _ r h => z.pin j r h
theorem Frz.free {S S' : Slots} {is : List Nat} (z : Frz S S' is) (f : Fr S) {a : Addr} (h : Nod S is a) : ¬ Own S' a := by
  rintro ⟨k, w⟩
  obtain ⟨j, hj, r, e, q⟩ := h
  have w0 := z.own k a w
  rcases List.mem_append.mp q with q | q
  · have := f.sep k j a w0 ⟨r, e, q⟩
    subst this
    exact z.nod k hj a w
  · exact f.zo k a w0 j r e q
theorem onJ_eq {J is : List Nat} {o : OS} : onJ J is o = .bad ∨ (onJ J is o = o ∧ ∀ i ∈ is, i ∉ J) := by
  unfold onJ
  by_cases h : okJ J is = true
  · rw [if_pos h]
    refine .inr ⟨rfl, fun i hi z => ?_⟩
    have := List.all_eq_true.mp h i hi
    simp [z] at this
  · rw [if_neg h]; exact .inl rfl
theorem DenS.onJ {is : List Nat} {o : OS} {D : Ends} {K : PySem.W.Frag} {CA : Nat → Addr} {W : WX} (h : DenS K CA W J L S0 H0 (onJ J is o) D) : (∀ i ∈ is, i ∉ J) ∧ DenS K CA W J L S0 H0 o D := by
  rcases onJ_eq (J := J) (is := is) (o := o) with e | ⟨e, q⟩
  · rw [e] at h; exact h.elim
  · rw [e] at h; exact ⟨q, h⟩
theorem bind_ok {i : Nat} {d : D} {n : Nat} {v : V} {O Z : List Addr} {ns : List Nat} (sr : SRep K CA S0 σ H) (f : Fr S0) (hi : i < S0.length) (hJ : i ∉ J) (pv : PVal K CA (Nod S0 ns) H H1 d n v O Z) :
    ∃ S', SRep K CA S' (σ.set i (some v)) H1 ∧ Fr S' ∧ Step J L S0 H S' H1 ∧ envOf S' = bindV (envOf S0) i (d, n) ns := by
  have go : ∀ S1, SRep K CA S1 σ H → Fr S1 → S1.length = S0.length → (∀ j a, OwnAt S1 j a → OwnAt S0 j a) → (∀ a, Any S1 a → Any S0 a) → (∀ a ∈ Z, ¬ Own S1 a) → envOf (setR S1 i d n v O Z) = bindV (envOf S0) i (d, n) ns → (∀ (j : Nat) (r' : Root), S1[j]? = some (some r') → ∃ r : Root, S0[j]? = some (some r) ∧ r.v = r'.v) →
      ∃ S', SRep K CA S' (σ.set i (some v)) H1 ∧ Fr S' ∧ Step J L S0 H S' H1 ∧ envOf S' = bindV (envOf S0) i (d, n) ns := fun S1 sr1 f1 l1 ow an hz he pin => by
    refine ⟨setR S1 i d n v O Z, (sr1.same pv.same).setR pv.rep (by rw [l1]; exact hi), f1.setR pv.nd pv.zo (fun a ha j r _ e q => ?_) (fun a ha j _ w => hz a ha w.own), ⟨fun a o e _ => pv.same a o e, fun a h => same_there pv.same h, fun j a h => ?_, fun a h => ?_, fun j hj r' h => ?_⟩, he⟩
    · exact sr1.any ⟨j, r, e, q⟩ (pv.fresh a ha)
    · rcases setR_own h with ⟨_, z⟩ | ⟨_, z⟩
      · exact .inr (.inr (pv.fresh a z))
      · exact .inl (ow j a z)
    · rcases setR_any h with z | z
      · rcases List.mem_append.mp z with z | z
        · exact .inr (pv.fresh a z)
        · exact (pv.zin a z).elim .inr fun w => .inl w.any
      · exact .inl (an a z)
    · rcases setR_some h with ⟨e, _⟩ | ⟨_, z⟩
      · subst e; exact absurd hj hJ
      · exact pin j r' z
  by_cases hf : full (d, n) = true
  · have hz : Z = [] := pv.rep.full (by simpa [full] using hf)
    refine go S0 sr f rfl (fun _ _ h => h) (fun _ h => h) (by rw [hz]; simp) ?_ fun j r h => ⟨r, h, rfl⟩
    rw [envOf_setR]; unfold bindV; rw [if_pos hf]
  · obtain ⟨S1, sr1, f1, z⟩ := frz_ok ns sr f
    refine go S1 sr1 f1 z.len z.own (fun a ⟨j, r, e, q⟩ => let ⟨r0, h1, h2⟩ := z.any j r e; ⟨j, r0, h1, h2 a q⟩) (fun a ha w => ?_) ?_ z.pin
    · rcases pv.zin a ha with q | q
      · exact sr1.own w q
      · exact z.free f q w
    · rw [envOf_setR, z.env]; unfold bindV; rw [if_neg hf]
end
end Vy

namespace Vy
open PySem PySem.Spec
open PyProof.Rows hiding St
open L2
section
variable {K : PySem.W.Frag} {CA : Nat → Addr} {S0 S1 : Slots} {σ : St} {H H1 H3 : Hp} {J L : List Nat}
theorem mut_okR {i : Nat} {r0 : Root} {F : List Addr} {d : D} {n : Nat} {O Z : List Addr} (sr : SRep K CA S1 σ H) (f : Fr S1) (st : Step J L S0 H S1 H) (hi : S1[i]? = some (some r0)) (hL : i ∉ L) (hF : ∀ x ∈ F, x ∈ r0.O) (k : Keep F H H3) (fx : Fix F H) (th : ∀ x, H x ≠ none → H3 x ≠ none)
    (rep : Rep K CA H3 n d r0.v O Z) (nd : O.Nodup) (zo : ∀ a ∈ Z, a ∉ O) (ho : ∀ x ∈ O, x ∈ r0.O ∨ H x = none) (hz : ∀ x ∈ Z, x ∈ r0.O ∨ x ∈ r0.Z ∨ H x = none ∨ (¬ Own S1 x ∧ Any S0 x)) :
    SRep K CA (setR S1 i d n r0.v O Z) σ H3 ∧ Fr (setR S1 i d n r0.v O Z) ∧ Step J L S0 H (setR S1 i d n r0.v O Z) H3 ∧ envOf (setR S1 i d n r0.v O Z) = setV (envOf S1) i (d, n) := by
  have hil : i < S1.length := (List.getElem?_eq_some_iff.mp hi).1
  have hv : σ[i]? = some (some r0.v) := (sr.rep i r0 hi).1
  have own0 : ∀ x ∈ r0.O, OwnAt S1 i x := fun x hx => ⟨r0, hi, hx⟩
  refine ⟨⟨by unfold setR; rw [List.length_set, sr.len], fun j x hx => ?_⟩, ?_, ?_, envOf_setR⟩
  · unfold setR at hx
    by_cases hj : i = j
    · subst hj
      rw [List.getElem?_set_self hil] at hx
      cases hx
      exact ⟨hv, norm_rep rep⟩
    · rw [List.getElem?_set_ne hj] at hx
      obtain ⟨a, b⟩ := sr.rep j x hx
      refine ⟨a, b.keep k fx fun y hy z => ?_⟩
      rcases List.mem_append.mp hy with q | q
      · exact hj (f.sep i j y (own0 y (hF y z)) ⟨x, hx, q⟩)
      · exact f.zo i y (own0 y (hF y z)) j x hx q
  · refine f.setR nd zo (fun a ha j r hj e q => ?_) fun a ha j hj w => ?_
    · rcases ho a ha with z | z
      · rcases List.mem_append.mp q with q | q
        · exact hj (f.sep j i a ⟨r, e, q⟩ (own0 a z))
        · exact f.zo i a (own0 a z) j r e q
      · exact sr.any ⟨j, r, e, q⟩ z
    · rcases hz a ha with z | z | z | ⟨z, _⟩
      · exact hj (f.sep j i a w (own0 a z))
      · exact f.zo j a w i r0 hi z
      · exact sr.own w.own z
      · exact z w.own
  · refine ⟨fun a o e hn => k a o e fun z => ?_, th, fun j a h => ?_, fun a h => ?_, fun j hj r' h => ?_⟩
    · have := st.ou (L := L) ⟨i, hL, own0 a (hF a z)⟩
      rcases this with q | q
      · exact hn q
      · rw [e] at q; cases q
    · rcases setR_own h with ⟨e, z⟩ | ⟨_, z⟩
      · rcases ho a z with z | z
        · exact (st.own i a (own0 a z)).imp (fun q => e ▸ q) id
        · exact .inr (.inr z)
      · exact st.own j a z
    · rcases setR_any h with z | z
      · have : a ∈ r0.O ∨ a ∈ r0.Z ∨ H a = none ∨ Any S0 a := by
          rcases List.mem_append.mp z with z | z
          · exact (ho a z).elim .inl fun q => .inr (.inr (.inl q))
          · rcases hz a z with q | q | q | ⟨_, q⟩
            · exact .inl q
            · exact .inr (.inl q)
            · exact .inr (.inr (.inl q))
            · exact .inr (.inr (.inr q))
        rcases this with q | q | q | q
        · exact st.any a ⟨i, r0, hi, by simp [q]⟩
        · exact st.any a ⟨i, r0, hi, by simp [q]⟩
        · exact .inr q
        · exact .inl q
      · exact st.any a z
    · unfold setR at h
      by_cases hji : i = j
      · subst hji
        rw [List.getElem?_set_self hil] at h
        have e := Option.some.inj (Option.some.inj h)
        obtain ⟨r1, h1, h2⟩ := st.pin i hj r0 hi
        exact ⟨r1, h1, by rw [h2, ← e]⟩
      · rw [List.getElem?_set_ne hji] at h
        exact st.pin j hj r' h
theorem mut_ok {i : Nat} {r0 : Root} {F : List Addr} {d : D} {n : Nat} {O Z : List Addr} (sr : SRep K CA S1 σ H) (f : Fr S1) (st : Step J L S0 H S1 H) (hi : S1[i]? = some (some r0)) (hL : i ∉ L) (hF : ∀ x ∈ F, x ∈ r0.O) (k : Keep F H H3) (fx : Fix F H) (th : ∀ x, H x ≠ none → H3 x ≠ none)
    (rep : Rep K CA H3 n d r0.v O Z) (nd : O.Nodup) (zo : ∀ a ∈ Z, a ∉ O) (ho : ∀ x ∈ O, x ∈ r0.O ∨ H x = none) (hz : ∀ x ∈ Z, x ∈ r0.O ∨ x ∈ r0.Z ∨ H x = none ∨ (¬ Own S1 x ∧ Any S0 x)) :
    ∃ S', SRep K CA S' σ H3 ∧ Fr S' ∧ Step J L S0 H S' H3 ∧ envOf S' = setV (envOf S1) i (d, n) := ⟨_, mut_okR sr f st hi hL hF k fx th rep nd zo ho hz⟩
end
section
variable {X : Cx} {nm : Nm} {G : Glo} {CA : Nat → Addr} {cf : Runs} {W : WX} {L : List Nat}
def tS (X : Cx) (G : Glo) (CA : Nat → Addr) (cf : Runs) (W : WX) (L : List Nat) (s : S) : TS := fun D σ H => ∃ S, SRep X.K CA S σ H ∧ Fr S ∧ DenS X.K CA W cf.io L S H (exS G cf L (envOf S) s) D
def tB (X : Cx) (G : Glo) (CA : Nat → Addr) (cf : Runs) (W : WX) (L : List Nat) (b : List S) : TS := fun D σ H => ∃ S, SRep X.K CA S σ H ∧ Fr S ∧ DenS X.K CA W cf.io L S H (exB G cf L (envOf S) b) D
theorem b_nil : PSs X [] (tB X G CA cf W L []) := PSs.weak pss_nil fun D σ H ⟨S, sr, fr, h⟩ => by
  rw [exB] at h
  exact h S σ H sr fr Step.refl rfl
theorem b_cons {st : Stmt} {rest : List Stmt} {s : S} {b : List S} (h1 : PS X st (tS X G CA cf W L s)) (h2 : PSs X rest (tB X G CA cf W L b)) : PSs X (st :: rest) (tB X G CA cf W L (s :: b)) := PSs.weak (pss_cons h1 h2) fun D σ H ⟨S, sr, fr, h⟩ => by
  rw [exB] at h
  refine ⟨S, sr, fr, ?_⟩
  cases e : exS G cf L (envOf S) s with
  | nx ρ =>
    rw [e] at h
    intro S' σ' H' sr' fr' st he
    exact ⟨S', sr', fr', by rw [he]; exact h.step st⟩
  | rt p ρ => rw [e] at h; exact h
  | exc x ρ => rw [e] at h; exact h
  | bad => rw [e] at h; exact h
def noLc : Expr → Bool
  | .ListComp .. => false
  | .SetComp .. => false
  | .DictComp .. => false
  | _ => true
theorem no_swap {e : Expr} {t : Option Expr} {l : Nat} {env : PySem.Env} (h : noLc e = true) : swapsWith e t l env = pure false := by
  cases e <;> first | rfl | cases h
theorem asg_of {st : Stmt} {i : Nat} {x : Str} {c : C} (hi : X.N[i]? = some x) (h : PS X st (tAsg (tE X G CA cf W c) (gName i))) : PS X st (tS X G CA cf W L (.asg i c)) := ⟨fun pins s σ H D I ⟨S, sr, fr, hd⟩ => h.run pins s σ H D I (by
  rw [exS] at hd
  have hil : i < S.length := by rw [sr.len, I.len]; exact (List.getElem?_eq_some_iff.mp hi).1
  refine ⟨S, sr, hd.onE sr fr fun p v H1 O Z e pv hd => ?_⟩
  obtain ⟨hJ, hd⟩ := hd.onJ
  obtain ⟨S', sr', fr', st, he⟩ := bind_ok (L := L) sr fr hil (hJ i (by simp)) pv
  exact hd S' _ H1 sr' fr' st he)⟩
theorem s_asg {sc : Scope} {i : Nat} {x : Str} {c : C} {e : Expr} {p pos : Pos} (sco : ScOk sc X) (hN : X.N.Nodup) (hi : X.N[i]? = some x) (h : sc.names.lookup x = some .local ∨ sc.names.lookup x = some .cell) (he : PE X e (tE X G CA cf W c)) (hl : noLc e = true) :
    PS X (.Assign [.Name x p] e pos) (tS X G CA cf W L (.asg i c)) := by
  refine asg_of hi ?_
  rcases h with h | h
  · exact ps_set hN hi (.inl (sco.loc x h)) he (no_swap hl) (.inr (sco.loc x h))
  · obtain ⟨h1, h2⟩ := sco.cel x h
    exact ps_set hN hi (.inr h1) he (no_swap hl) (.inl h2)
theorem s_exp {c : C} {e : Expr} {pos : Pos} (he : PE X e (tE X G CA cf W c)) (hl : noLc e = true) : PS X (.Expr e pos) (tS X G CA cf W L (.exp c)) := PS.weak (ps_expr he (no_swap hl)) fun D σ H ⟨S, sr, fr, h⟩ => by
  rw [exS] at h
  refine ⟨S, sr, h.onE sr fr fun p v H1 O Z e pv hd => ?_⟩
  exact hd S σ H1 (sr.same pv.same) fr (Step.same pv.same) rfl
theorem s_ret {c : C} {e : Expr} {pos : Pos} (he : PE X e (tE X G CA cf W c)) : PS X (.Return (some e) pos) (tS X G CA cf W L (.ret c)) := PS.weak (ps_ret he) fun D σ H ⟨S, sr, fr, h⟩ => by
  rw [exS] at h
  refine ⟨S, sr, h.onE sr fr fun p v H1 O Z e pv hd => ?_⟩
  exact hd S σ v H1 O Z (sr.same pv.same) fr (Step.same pv.same) rfl pv.rep (fun a h w => sr.any w (pv.fresh a h)) (fun a h => .inr (pv.fresh a h)) pv.nd (fun a h => (pv.zin a h).elim .inr fun w => .inl w.any) pv.zo
theorem slot_get {S : Slots} {i : Nat} {p : D × Nat} (h : ((envOf S)[i]?).bind id = some p) : ∃ r : Root, S[i]? = some (some r) ∧ (r.d, r.n) = p := by
  rw [envOf_get] at h
  obtain ⟨r, hr, e⟩ := Option.map_eq_some_iff.mp h
  refine ⟨r, ?_, e⟩
  cases q : S[i]? with
  | none => rw [q] at hr; cases hr
  | some o => rw [q] at hr; cases o with
    | none => cases hr
    | some r' => cases hr; rfl
theorem s_retv {i : Nat} {x : Str} {p pos : Pos} (hN : X.N[i]? = some x) (hv : Vis X.env.scope x) (hd : (x == ("__debug__" : Str)) = false) (hcd : (x == ("__classdict__" : Str)) = false) : PS X (.Return (some (.Name x p)) pos) (tS X G CA cf W L (.retv i)) := PS.weak (ps_ret (pe_var hN hv hd hcd)) fun D σ H ⟨S, sr, fr, h⟩ => by
  rw [exS] at h
  cases e : ((envOf S)[i]?).bind id with
  | none => rw [e] at h; exact h.elim
  | some q =>
    rw [e] at h
    obtain ⟨r, hr, rfl⟩ := slot_get e
    obtain ⟨h1, h2⟩ := sr.rep i r hr
    have ow : ∀ {j a}, OwnAt (S.set i none) j a → j ≠ i ∧ OwnAt S j a := fun {j a} ⟨r', e, q⟩ => by
      by_cases hj : i = j
      · subst hj
        by_cases hl : i < S.length
        · rw [List.getElem?_set_self hl] at e; cases e
        · rw [List.getElem?_eq_none (by simpa using hl)] at e; cases e
      · rw [List.getElem?_set_ne hj] at e; exact ⟨fun z => hj z.symm, r', e, q⟩
    have gt : ∀ {j : Nat} {r' : Root}, (S.set i none)[j]? = some (some r') → j ≠ i ∧ S[j]? = some (some r') := fun {j r'} e => by
      by_cases hj : i = j
      · subst hj
        by_cases hl : i < S.length
        · rw [List.getElem?_set_self hl] at e; cases e
        · rw [List.getElem?_eq_none (by simpa using hl)] at e; cases e
      · rw [List.getElem?_set_ne hj] at e; exact ⟨fun z => hj z.symm, e⟩
    refine ⟨r.v, h1, h (S.set i none) σ r.v H r.O r.Z ⟨by rw [List.length_set]; exact sr.len, fun j r' e => sr.rep j r' (gt e).2⟩ ⟨fun j r' e => fr.nd j r' (gt e).2, fun j k a q w => fr.sep j k a (ow q).2 (ow w).2, fun j a q k r' e => fr.zo j a (ow q).2 k r' (gt e).2⟩
      ⟨fun _ _ e _ => e, fun _ e => e, fun j a q => .inl (ow q).2, fun a ⟨j, r', e, q⟩ => .inl ⟨j, r', (gt e).2, q⟩, fun j _ r' e => ⟨r', (gt e).2, rfl⟩⟩ ?_ h2 (fun a ha ⟨j, r', e, q⟩ => ?_) (fun a h => .inl ⟨i, r, hr, h⟩) (fr.nd i r hr) (fun a h => .inl ⟨i, r, hr, by simp [h]⟩) fun a h w => fr.zo i a ⟨r, hr, w⟩ i r hr h⟩
    · unfold envOf; rw [List.map_set]; rfl
    · rcases List.mem_append.mp q with q | q
      · exact (gt e).1 (fr.sep j i a ⟨r', (gt e).2, q⟩ ⟨r, hr, ha⟩)
      · exact fr.zo i a ⟨r, hr, ha⟩ j r' (gt e).2 q
theorem s_if {c : C} {e : Expr} {a b : List Stmt} {sa sb : List S} {pos : Pos} (hc : PT X e (tT X G CA cf W c)) (ha : PSs X a (tB X G CA cf W L sa)) (hb : PSs X b (tB X G CA cf W L sb)) : PS X (.If e a b pos) (tS X G CA cf W L (.ife c sa sb)) := PS.weak (ps_if hc ha hb) fun D σ H ⟨S, sr, fr, h⟩ => by
  rw [exS] at h
  refine ⟨S, sr, h.onB sr fr fun b H1 e s hd => ?_⟩
  cases b with
  | true => exact ⟨S, sr.same s, fr, hd.step (Step.same s)⟩
  | false => exact ⟨S, sr.same s, fr, hd.step (Step.same s)⟩
theorem s_while {n : Nat} {c : C} {e : Expr} {a : List Stmt} {sa : List S} {pos : Pos} (pas : PassesOwn (model X.prog X.w) X.A X.env X.xe) (hc : PT X e (tT X G CA cf W c)) (ha : PSs X a (tB X G CA cf W L sa)) : PS X (.While e a [] pos) (tS X G CA cf W L (.whl n c sa)) := PS.weak (ps_while pas hc ha) fun D σ H ⟨S, sr, fr, h⟩ => by
  rw [exS] at h
  refine ⟨fun m σ' H' => ∃ S', SRep X.K CA S' σ' H' ∧ Fr S' ∧ Step cf.io L S H S' H' ∧ DenS X.K CA W cf.io L S H (whileL (fun ρ => evB G cf ρ c) (fun ρ => exB G cf L ρ sa) m (envOf S')) D, ⟨n, S, sr, fr, Step.refl, h⟩, ?_⟩
  rintro m σ1 H1 ⟨S1, sr1, fr1, st1, h1⟩
  cases m with
  | zero => exact h1.elim
  | succ m =>
    unfold whileL at h1
    refine ⟨S1, sr1, ?_⟩
    cases e : evB G cf (envOf S1) c with
    | exc x => rw [e] at h1; exact fun cls dd H' s x => h1 S1 σ1 H' cls dd (sr1.same s) fr1 (st1.trans (Step.same s)) rfl x
    | bad => rw [e] at h1; exact h1.elim
    | ok b =>
      rw [e] at h1
      intro H2 s2
      cases b with
      | false => exact h1 S1 σ1 H2 (sr1.same s2) fr1 (st1.trans (Step.same s2)) rfl
      | true =>
        have st2 : Step cf.io L S H S1 H2 := st1.trans (Step.same s2)
        refine ⟨fun σ' H' => ∃ S', SRep X.K CA S' σ' H' ∧ Fr S' ∧ Step cf.io L S H S' H' ∧ DenS X.K CA W cf.io L S H (whileL (fun ρ => evB G cf ρ c) (fun ρ => exB G cf L ρ sa) m (envOf S')) D, fun σ' H' hN => ⟨m, by omega, hN⟩, S1, sr1.same s2, fr1, ?_⟩
        simp only at h1
        cases e2 : exB G cf L (envOf S1) sa with
        | nx ρ =>
          rw [e2] at h1
          intro S' σ' H' sr' fr' st' he
          exact ⟨S', sr', fr', st2.trans st', by rw [he]; exact h1⟩
        | rt p ρ => rw [e2] at h1; exact DenS.nx' (D := D) rfl (fun _ z => by cases z) (DenS.step st2 h1)
        | exc x ρ => rw [e2] at h1; exact DenS.nx' (D := D) rfl (fun _ z => by cases z) (DenS.step st2 h1)
        | bad => rw [e2] at h1; exact h1.elim
end
end Vy

namespace Vy
open PySem PySem.Spec
open PyProof.Rows hiding St
open L2
theorem setV_len {ρ : Env} {i : Nat} {p : D × Nat} : (setV ρ i p).length = ρ.length := by unfold setV; simp
theorem frz_len : ∀ {is : List Nat} {ρ : Env}, (frz ρ is).length = ρ.length
  | [], _ => rfl
  | i :: is, ρ => by
    show (frz (frz1 ρ i) is).length = _
    rw [frz_len]
    unfold frz1
    split
    · exact setV_len
    · rfl
theorem put_len {tg : Tg} {ρ ρ' : Env} {d : D} (h : tg.put ρ d = .ok ρ') : ρ'.length = ρ.length := by
  cases tg with
  | one i => cases h; exact setV_len
  | tup l =>
    cases d <;> first | (cases h; done) | skip
    rename_i ds
    obtain ⟨_, h⟩ := gd_ok (show gd _ _ = .ok ρ' from h)
    cases h
    have : ∀ (ps : List (Nat × D)) (ρ : Env), (ps.foldl (fun r p => setV r p.1 (p.2, 0)) ρ).length = ρ.length := by
      intro ps
      induction ps with
      | nil => intro ρ; rfl
      | cons p ps ih => intro ρ; rw [List.foldl_cons, ih, setV_len]
    exact this _ _
theorem bindV_len {ρ : Env} {i : Nat} {p : D × Nat} {ns : List Nat} : (bindV ρ i p ns).length = ρ.length := by
  unfold bindV; split
  · exact setV_len
  · rw [setV_len, frz_len]
def LenOk (n : Nat) (o : OS) : Prop := match o with
  | .nx ρ => ρ.length = n
  | .exc _ ρ => ρ.length = n
  | _ => True
def LenX (n : Nat) (o : OX) : Prop := match o with
  | .ok _ ρ => ρ.length = n
  | .exc _ ρ => ρ.length = n
  | .bad => True
section
variable {n : Nat} {ρ : Env} {L : List Nat}
theorem LenOk.onE {α : Type} {o : Out α} {f : α → OS} (h : ρ.length = n) (hf : ∀ a, LenOk n (f a)) : LenOk n (onE o ρ f) := by
  cases o with
  | ok a => exact hf a
  | exc e => exact h
  | bad => trivial
theorem LenX.onO {α : Type} {o : Out α} {f : α → OX} (h : ρ.length = n) (hf : ∀ a, o = .ok a → LenX n (f a)) : LenX n (onO o ρ f) := by
  cases o with
  | ok a => exact hf a rfl
  | exc e => exact h
  | bad => trivial
theorem LenX.bind {o : OX} {f : D × Nat → Env → OX} (h : LenX n o) (hf : ∀ p ρ, ρ.length = n → LenX n (f p ρ)) : LenX n (o.bind f) := by
  cases o with
  | ok p ρ => exact hf p ρ h
  | exc e ρ => exact h
  | bad => trivial
theorem LenOk.onX {o : OX} {f : D × Nat → Env → OS} (h : LenX n o) (hf : ∀ p ρ, ρ.length = n → LenOk n (f p ρ)) : LenOk n (onX o f) := by
  cases o with
  | ok p ρ => exact hf p ρ h
  | exc e ρ => exact h
  | bad => trivial
theorem LenOk.onJ {J is : List Nat} {o : OS} (h : LenOk n o) : LenOk n (onJ J is o) := by
  rcases onJ_eq (J := J) (is := is) (o := o) with e | ⟨e, _⟩ <;> rw [e]
  · trivial
  · exact h
theorem LenX.of {o : Option OX} (h : ∀ x, o = some x → LenX n x) : LenX n (OX.of o) := by
  cases o with
  | none => trivial
  | some x => exact h x rfl
theorem LenOk.of {o : Option OS} (h : ∀ x, o = some x → LenOk n x) : LenOk n (osOf o) := by
  cases o with
  | none => trivial
  | some x => exact h x rfl
theorem LenOk.putS {tg : Tg} {d : D} {f : Env → OS} (h : ρ.length = n) (hf : ∀ ρ, ρ.length = n → LenOk n (f ρ)) : LenOk n (putS ρ tg d f) := by
  unfold Vy.putS
  split
  · rename_i ρ1 e
    exact hf _ ((put_len e).trans h)
  · trivial
theorem LenOk.forL {f : Env → D → OS} (hf : ∀ ρ d, ρ.length = n → LenOk n (f ρ d)) : ∀ {xs : List D} {ρ : Env}, ρ.length = n → LenOk n (forL f xs ρ)
  | [], ρ, h => h
  | x :: xs, ρ, h => by
    unfold Vy.forL
    have := hf ρ x h
    split
    · rename_i ρ1 e
      rw [e] at this
      exact LenOk.forL hf this
    · exact this
theorem LenOk.whileL {c : Env → Out Bool} {f : Env → OS} (hf : ∀ ρ, ρ.length = n → LenOk n (f ρ)) : ∀ {k : Nat} {ρ : Env}, ρ.length = n → LenOk n (whileL c f k ρ)
  | 0, ρ, h => trivial
  | k + 1, ρ, h => by
    unfold Vy.whileL
    split
    · have := hf ρ h
      split
      · rename_i ρ1 e
        rw [e] at this
        exact LenOk.whileL hf this
      · exact this
    · exact h
    · exact h
    · trivial
theorem LenOk.appD {i : Nat} {p : D × Nat} {ns : List Nat} (h : ρ.length = n) : LenOk n (appD L ρ i p ns) := by
  unfold Vy.appD
  repeat' split
  all_goals first
    | trivial
    | (show (setV _ _ _).length = n; rw [setV_len, frz_len]; exact h)
    | (show (setV _ _ _).length = n; rw [setV_len]; exact h)
theorem chgP_len {i : Nat} {rs : List Rtp} {q : D × Nat} {ρ' : Env} (h : chgP ρ i rs q = some ρ') : ρ'.length = ρ.length := by
  unfold chgP at h
  obtain ⟨p, _, h⟩ := Option.bind_eq_some_iff.mp h
  obtain ⟨_, _, e⟩ := Option.map_eq_some_iff.mp h
  rw [← e]; exact setV_len
theorem takeP_len {i : Nat} {rs : List Rtp} {u : (D × Nat) × Env} (h : takeP ρ i rs = some u) : u.2.length = ρ.length := by
  unfold takeP at h
  obtain ⟨p, _, h⟩ := Option.bind_eq_some_iff.mp h
  obtain ⟨_, _, e⟩ := Option.map_eq_some_iff.mp h
  rw [← e]; simp
end
section
variable {G : Glo} {cf : Runs}
theorem mopX_len {n : Nat} {L : List Nat} {ρ : Env} {i : Nat} {rs : List Rtp} {ns : List Nat} {ps : List (D × Nat)} {f : D × Nat → Option ((D × Nat) × (D × Nat))} (h : ρ.length = n) : LenX n (mopX L ρ i rs ns ps f) := by
  unfold mopX
  refine LenX.of fun x e => ?_
  split at e
  · cases e
  · obtain ⟨p, _, e⟩ := Option.bind_eq_some_iff.mp e
    obtain ⟨q, _, e⟩ := Option.bind_eq_some_iff.mp e
    obtain ⟨u, _, e⟩ := Option.bind_eq_some_iff.mp e
    split at e
    · obtain ⟨ρ', h1, e⟩ := Option.map_eq_some_iff.mp e
      cases e
      exact (chgP_len h1).trans h
    · split at e
      · cases e
      · obtain ⟨ρ', h1, e⟩ := Option.map_eq_some_iff.mp e
        cases e
        exact (chgP_len h1).trans (frz_len.trans h)
theorem setL_len : ∀ {is : List Nat} {qs : List (D × Nat)} {ρ : Env}, (setL ρ is qs).length = ρ.length
  | [], _, _ => by rw [setL] <;> simp
  | _ :: _, [], _ => by rw [setL] <;> simp
  | i :: is, q :: qs, ρ => by rw [setL, setL_len, setV_len]
theorem iowX_len {n : Nat} {L : List Nat} {ρ : Env} {f : Nat} {as : List Aw} (h : ρ.length = n) : LenX n (iowX G cf L ρ f as) := by
  unfold iowX
  refine LenX.onO h fun ps _ => ?_
  split
  · split
    · split
      · exact setL_len.trans h
      · trivial
    · split
      · exact setL_len.trans h
      · trivial
    · trivial
  · trivial
theorem takeL_len : ∀ {l : List (Nat × List Rtp)} {ρ ρ' : Env}, takeL ρ l = some ρ' → ρ'.length = ρ.length + l.length
  | [], ρ, ρ', h => by rw [takeL] at h; cases h; rfl
  | x :: l, ρ, ρ', h => by
    rw [takeL] at h
    obtain ⟨u, hu, h⟩ := Option.bind_eq_some_iff.mp h
    rw [takeL_len h, List.length_append, takeP_len hu, List.length_cons]
    simp
    omega
theorem giveL_len : ∀ {l : List (Nat × List Rtp)} {ρ ρ' : Env}, giveL l ρ = some ρ' → ρ.length = ρ'.length + l.length
  | [], ρ, ρ', h => by rw [giveL] at h; cases h; rfl
  | x :: l, ρ, ρ', h => by
    rw [giveL] at h
    obtain ⟨ρ1, h1, h⟩ := Option.bind_eq_some_iff.mp h
    have ih := giveL_len h1
    unfold give1 at h
    obtain ⟨q, _, h⟩ := Option.bind_eq_some_iff.mp h
    obtain ⟨p, _, h⟩ := Option.bind_eq_some_iff.mp h
    obtain ⟨u, _, h⟩ := Option.bind_eq_some_iff.mp h
    split at h
    · rename_i hc
      cases h
      rw [List.length_set, List.length_dropLast, List.length_cons]
      have := hc.2.2
      omega
    · cases h
theorem iowN_len {n : Nat} {L : List Nat} {ρ ρh : Env} {f : Nat} {as : List Aw} (h : ρ.length = n) : LenX n (iowN G cf L ρ ρh f as) := by
  unfold iowN
  refine LenX.onO h fun ps _ => ?_
  split
  · split
    · split
      · exact setL_len.trans h
      · trivial
    · split
      · exact setL_len.trans h
      · trivial
    · trivial
  · trivial
theorem iocX_len {n : Nat} {L : List Nat} {ρ : Env} {rc : Option (Nat × Cs)} {f : Nat} {ps : List Pth} {as : List Aw} (h : ρ.length = n) : LenX n (iocX G cf L ρ rc f ps as) := by
  unfold iocX
  refine LenX.of fun x e => ?_
  obtain ⟨l, _, e⟩ := Option.bind_eq_some_iff.mp e
  obtain ⟨ρ2, h2, e⟩ := Option.bind_eq_some_iff.mp e
  split at e
  · cases e
    have h3 := iowN_len (G := G) (cf := cf) (L := l.map (·.1) ++ L) (ρ := ρ2) (ρh := ρ2.take ρ.length) (f := f) (as := as) rfl
    cases e3 : iowN G cf (l.map (·.1) ++ L) ρ2 (ρ2.take ρ.length) f as with
    | ok p ρ3 =>
      rw [e3] at h3
      have h3 : ρ3.length = ρ2.length := h3
      refine LenX.of fun x e => ?_
      obtain ⟨ρ', h1, e⟩ := Option.map_eq_some_iff.mp e
      cases e
      have := giveL_len h1
      have := takeL_len h2
      show ρ'.length = n
      omega
    | exc y ρ3 =>
      rw [e3] at h3
      have h3 : ρ3.length = ρ2.length := h3
      refine LenX.of fun x e => ?_
      obtain ⟨ρ', h1, e⟩ := Option.map_eq_some_iff.mp e
      cases e
      have := giveL_len h1
      have := takeL_len h2
      show ρ'.length = n
      omega
    | bad => trivial
  · cases e
mutual
theorem exX_len {n : Nat} : ∀ (x : Xp) (L : List Nat) (ρ : Env), ρ.length = n → LenX n (exX G cf L ρ x)
  | .pu c, L, ρ, h => by rw [exX]; exact LenX.onO h fun p _ => h
  | .iow f as, L, ρ, h => by rw [exX]; exact iowX_len h
  | .mop p m es, L, ρ, h => by
    rw [exX]
    refine LenX.onO h fun rs _ => LenX.of fun x e => ?_
    obtain ⟨q, _, e⟩ := Option.map_eq_some_iff.mp e
    subst e
    split
    · exact LenX.onO h fun ps _ => mopX_len h
    · trivial
  | .ioc rc f ps as, L, ρ, h => by rw [exX]; exact iocX_len h
  | .cmp o a b, L, ρ, h => by
    rw [exX]
    refine (exX_len a L ρ h).bind fun x ρ1 h1 => LenX.of fun y e => ?_
    split at e
    · cases e
      refine (exX_len b L ρ1 h1).bind fun y ρ2 h2 => LenX.of fun z e => ?_
      obtain ⟨r, _, e⟩ := Option.map_eq_some_iff.mp e
      cases e; exact h2
    · cases e
  | .sub a i, L, ρ, h => by
    rw [exX]
    refine (exX_len a L ρ h).bind fun x ρ1 h1 => LenX.onO h1 fun y _ => LenX.of fun z e => ?_
    obtain ⟨r, _, e⟩ := Option.map_eq_some_iff.mp e
    cases e; exact h1
  | .not a, L, ρ, h => by
    rw [exX]
    refine (exX_len a L ρ h).bind fun x ρ1 h1 => LenX.of fun z e => ?_
    obtain ⟨r, _, e⟩ := Option.map_eq_some_iff.mp e
    cases e; exact h1
  | .and a b, L, ρ, h => by
    rw [exX]
    refine (exX_len a L ρ h).bind fun x ρ1 h1 => LenX.of fun z e => ?_
    obtain ⟨r, _, e⟩ := Option.map_eq_some_iff.mp e
    cases e
    cases r with
    | true => rw [if_pos rfl]; exact exX_len b L ρ1 h1
    | false => rw [if_neg (by decide)]; exact h1
  | .or a b, L, ρ, h => by
    rw [exX]
    refine (exX_len a L ρ h).bind fun x ρ1 h1 => LenX.of fun z e => ?_
    obtain ⟨r, _, e⟩ := Option.map_eq_some_iff.mp e
    cases e
    cases r with
    | true => rw [if_pos rfl]; exact h1
    | false => rw [if_neg (by decide)]; exact exX_len b L ρ1 h1
  | .tup xs, L, ρ, h => by
    rw [exX]
    refine exXs_len xs L ρ _ h fun ps ρ1 h1 => LenX.of fun z e => ?_
    split at e <;> cases e
    exact h1
  | .lst xs, L, ρ, h => by
    rw [exX]
    refine exXs_len xs L ρ _ h fun ps ρ1 h1 => LenX.of fun z e => ?_
    split at e <;> cases e
    exact h1
  | .cal f xs, L, ρ, h => by
    rw [exX]
    exact exXs_len xs L ρ _ h fun ps ρ1 h1 => LenX.onO h1 fun p _ => h1
  | .get d x e, L, ρ, h => by
    rw [exX]
    refine LenX.onO h fun p _ => (exX_len x L ρ h).bind fun k ρ1 h1 => LenX.onO h1 fun y _ => LenX.of fun z e => ?_
    obtain ⟨r, _, e⟩ := Option.map_eq_some_iff.mp e
    cases e; exact h1
  | .lc it tg t e, L, ρ, h => by
    rw [exX]
    refine LenX.onO h fun p _ => LenX.of fun z e => ?_
    obtain ⟨r, _, e⟩ := Option.map_eq_some_iff.mp e
    cases e; trivial
  | .tmo i c m es, L, ρ, h => by
    rw [exX]
    refine LenX.of fun x e => ?_
    obtain ⟨p, _, e⟩ := Option.bind_eq_some_iff.mp e
    obtain ⟨d, _, e⟩ := Option.map_eq_some_iff.mp e
    subst e
    split
    · refine LenX.onO h fun ps _ => ?_
      unfold tmoX
      refine LenX.of fun x e => ?_
      split at e
      · obtain ⟨u, _, e⟩ := Option.map_eq_some_iff.mp e
        subst e
        show (setV _ _ _).length = n
        rw [setV_len]; exact h
      · cases e
    · trivial
  | .tp2 x c, L, ρ, h => by
    rw [exX]
    refine (exX_len x L ρ h).bind fun p ρ1 h1 => LenX.of fun z e => ?_
    split at e
    · cases e; exact LenX.onO h1 fun _ _ => h1
    · cases e
theorem exXs_len {n : Nat} : ∀ (xs : List Xp) (L : List Nat) (ρ : Env) (k : List (D × Nat) → Env → OX), ρ.length = n → (∀ ps ρ, ρ.length = n → LenX n (k ps ρ)) → LenX n (exXs G cf L ρ xs k)
  | [], L, ρ, k, h, hk => by rw [exXs]; exact hk _ _ h
  | x :: xs, L, ρ, k, h, hk => by
    rw [exXs]
    refine (exX_len x L ρ h).bind fun p ρ1 h1 => LenX.of fun z e => ?_
    split at e <;> cases e
    exact exXs_len xs L ρ1 _ h1 fun ps ρ2 h2 => hk _ _ h2
end
theorem LenOk.osM {α : Type} {n : Nat} (o : Option α) (f : α → OS) (h : ∀ a, LenOk n (f a)) : LenOk n (osOf (o.map f)) := by
  cases o with
  | none => trivial
  | some a => exact h a
theorem blkS_len {n : Nat} {J : List Nat} {e : Exn} {c : Ce} : ∀ (l : List (Nat × Ce)) {ρ : Env}, ρ.length = n → LenOk n (blkS G e J l c ρ)
  | [], ρ, h => LenOk.osM _ _ fun _ => trivial
  | (j, a) :: r, ρ, h => LenOk.osM _ _ fun d => LenOk.onJ (blkS_len r (by rw [setV_len]; exact h))
theorem exSu_len {n : Nat} {J : List Nat} {e : Exn} {ρ : Env} (h : ρ.length = n) : ∀ su : Sui, LenOk n (exSu G e J ρ su)
  | .ret c => LenOk.osM _ _ fun _ => trivial
  | .asg i c => LenOk.osM _ _ fun d => LenOk.onJ (by show (setV _ _ _).length = n; rw [setV_len]; exact h)
  | .rai c fs es => LenOk.osM _ _ fun _ => h
  | .blk l c => blkS_len l h
theorem goneS_len {n i : Nat} {o : OS} (h : LenOk n o) : LenOk n (goneS i o) := by
  cases o with
  | nx ρ => show (ρ.set i none).length = n; rw [List.length_set]; exact h
  | rt p ρ => trivial
  | exc e ρ => first | trivial | (show (ρ.set i none).length = n; rw [List.length_set]; exact h)
  | bad => trivial
theorem handle_len {n : Nat} {J : List Nat} {e : Exn} {ρ : Env} (h : ρ.length = n) : ∀ hs : List Hdl, LenOk n (handle G J e ρ hs)
  | [] => h
  | x :: hs => by
    unfold handle
    split
    · trivial
    · split
      · split
        · exact exSu_len h _
        · split
          · trivial
          · exact goneS_len (exSu_len (by simpa using h) _)
      · exact handle_len h hs
theorem updS_len {n : Nat} {J L : List Nat} {ρ : Env} {x i w : Nat} (h : ρ.length = n) : LenOk n (updS J L ρ x i w) := by
  unfold updS
  split
  · split
    · split
      · show List.length _ = n
        split
        · rw [setV_len]; exact h
        · rw [List.length_set, setV_len]; exact h
      · trivial
    · trivial
  · trivial
theorem aprS_len {n : Nat} {J L : List Nat} {ρ : Env} {x i : Nat} {s : Cs} (h : ρ.length = n) : LenOk n (aprS J L ρ x i s) := by
  unfold aprS
  split
  · split
    · split
      · show List.length _ = n
        rw [List.length_set, setV_len]; exact h
      · trivial
    · trivial
  · trivial
theorem amvD_len {n : Nat} {J L : List Nat} {ρ : Env} {i j : Nat} (h : ρ.length = n) : LenOk n (amvD J L ρ i j) := by
  unfold amvD
  split
  · split
    · show List.length _ = n; simpa using h
    · trivial
  · trivial
mutual
theorem exS_len {n : Nat} : ∀ (s : S) (L : List Nat) (ρ : Env), ρ.length = n → LenOk n (exS G cf L ρ s)
  | .pass, L, ρ, h => by rw [exS]; exact h
  | .amv i j, L, ρ, h => by rw [exS]; exact amvD_len h
  | .updD x i w, L, ρ, h => by rw [exS]; exact updS_len h
  | .apr x i s, L, ρ, h => by rw [exS]; exact aprS_len h
  | .asg i e, L, ρ, h => by rw [exS]; exact LenOk.onE h fun p => LenOk.onJ (by show (bindV _ _ _ _).length = n; rw [bindV_len]; exact h)
  | .asgT is e, L, ρ, h => by
    rw [exS]
    exact LenOk.onE h fun p => LenOk.onJ (LenOk.putS (by split <;> first | exact h | exact frz_len.trans h) fun ρ h => h)
  | .exp e, L, ρ, h => by rw [exS]; exact LenOk.onE h fun p => h
  | .ret e, L, ρ, h => by rw [exS]; exact LenOk.onE h fun p => trivial
  | .retv i, L, ρ, h => by rw [exS]; split <;> trivial
  | .retP i j, L, ρ, h => by
    rw [exS]
    split
    · split <;> trivial
    · trivial
  | .retT j i κ, L, ρ, h => by
    rw [exS]
    split
    · split
      · split <;> trivial
      · trivial
    · trivial
  | .retN, L, ρ, h => by rw [exS]; trivial
  | .ife t a b, L, ρ, h => by
    rw [exS]
    refine LenOk.onE h fun c => ?_
    cases c with
    | true => exact exB_len a L ρ h
    | false => exact exB_len b L ρ h
  | .whl k t b, L, ρ, h => by rw [exS]; exact LenOk.whileL (fun ρ h => exB_len b L ρ h) h
  | .for_ tg it b, L, ρ, h => by
    rw [exS]
    refine LenOk.onE h fun p => ?_
    split
    · trivial
    · refine LenOk.onJ ?_
      split
      · exact LenOk.forL (fun ρ d h => LenOk.putS h fun ρ h => exB_len b L ρ h) h
      · exact LenOk.forL (fun ρ d h => LenOk.putS h fun ρ h => exB_len b _ ρ h) (by split <;> first | exact h | exact frz_len.trans h)
  | .forD tg it b, L, ρ, h => by
    rw [exS]
    refine LenOk.onE h fun p => ?_
    split
    · trivial
    · refine LenOk.onJ ?_
      split
      · exact LenOk.forL (fun ρ d h => LenOk.putS h fun ρ h => exB_len b L ρ h) h
      · exact LenOk.forL (fun ρ d h => LenOk.putS h fun ρ h => exB_len b _ ρ h) (frz_len.trans h)
  | .app i e, L, ρ, h => by
    rw [exS]
    split
    · exact LenOk.onE h fun p => LenOk.appD h
    · trivial
  | .par i j a b, L, ρ, h => by
    rw [exS]
    refine LenOk.onE h fun ps => LenOk.onJ ?_
    unfold parD
    split
    · show (setV _ _ _).length = n
      rw [setV_len, setV_len]
      split
      · exact h
      · exact frz_len.trans h
    · trivial
  | .asgX i x, L, ρ, h => by rw [exS]; exact LenOk.onX (exX_len x L ρ h) fun p ρ1 h1 => LenOk.onJ (by show (bindV _ _ _ _).length = n; rw [bindV_len]; exact h1)
  | .asgXT is x, L, ρ, h => by
    rw [exS]
    exact LenOk.onX (exX_len x L ρ h) fun p ρ1 h1 => LenOk.onJ (LenOk.putS (by split <;> first | exact h1 | exact frz_len.trans h1) fun ρ h => h)
  | .expX x, L, ρ, h => by rw [exS]; exact LenOk.onX (exX_len x L ρ h) fun p ρ1 h1 => h1
  | .retX x, L, ρ, h => by rw [exS]; exact LenOk.onX (exX_len x L ρ h) fun p ρ1 h1 => trivial
  | .ifX x a b, L, ρ, h => by
    rw [exS]
    refine LenOk.onX (exX_len x L ρ h) fun p ρ1 h1 => LenOk.of fun z e => ?_
    obtain ⟨c, _, e⟩ := Option.map_eq_some_iff.mp e
    cases e
    cases c with
    | true => exact exB_len a L ρ1 h1
    | false => exact exB_len b L ρ1 h1
  | .appX i x, L, ρ, h => by
    rw [exS]
    split
    · refine LenOk.onX (exX_len x L ρ h) fun q ρ1 h1 => ?_
      split
      · exact LenOk.onX (mopX_len h1) fun _ ρ2 h2 => h2
      · trivial
    · trivial
  | .st p k e, L, ρ, h => by rw [exS]; exact LenOk.onE h fun q => LenOk.onE h fun rs => LenOk.onE h fun y => LenOk.onX (mopX_len h) fun _ ρ2 h2 => h2
  | .stX i x e, L, ρ, h => by
    rw [exS]
    refine LenOk.onE h fun q => ?_
    split
    · exact LenOk.onX (exX_len x L ρ h) fun y ρ1 h1 => LenOk.onX (mopX_len h1) fun _ ρ2 h2 => h2
    · trivial
  | .stf p f e, L, ρ, h => by rw [exS]; exact LenOk.onE h fun q => LenOk.onE h fun rs => LenOk.onX (mopX_len h) fun _ ρ2 h2 => h2
  | .forX tg x b, L, ρ, h => by
    rw [exS]
    refine LenOk.onX (exX_len x _ ρ h) fun p ρ1 h1 => LenOk.of fun z e => ?_
    obtain ⟨xs, _, e⟩ := Option.map_eq_some_iff.mp e
    subst e
    refine LenOk.onJ ?_
    split
    · exact LenOk.forL (fun ρ d h => LenOk.putS h fun ρ h => exB_len b L ρ h) h1
    · exact LenOk.forL (fun ρ d h => LenOk.putS h fun ρ h => exB_len b _ ρ h) (by split <;> first | exact h1 | exact frz_len.trans h1)
  | .rai c fs es, L, ρ, h => by rw [exS]; exact LenOk.onE h fun ps => by split <;> first | exact h | trivial
  | .tri b hs, L, ρ, h => by
    rw [exS]
    have := exB_len b L ρ h
    split
    · rename_i e ρ1 q
      rw [q] at this
      exact handle_len this hs
    · exact this
theorem exB_len {n : Nat} : ∀ (b : List S) (L : List Nat) (ρ : Env), ρ.length = n → LenOk n (exB G cf L ρ b)
  | [], L, ρ, h => by rw [exB]; exact h
  | s :: r, L, ρ, h => by
    rw [exB]
    have := exS_len s L ρ h
    split
    · rename_i ρ1 e
      rw [e] at this
      exact exB_len r L ρ1 this
    · exact this
end
end
section
variable {K : PySem.W.Frag} {CA : Nat → Addr} {S0 S1 S' : Slots} {σ σ' : St} {H H1 H3 : Hp} {L : List Nat}
theorem Fr.put {is : List Nat} {Z : List Addr} (f : Fr S1) (p : Put S1 σ S' σ' is Z) (hz : ∀ a ∈ Z, ¬ Own S1 a) : Fr S' ∧ (∀ j a, OwnAt S' j a → OwnAt S1 j a) ∧ ∀ a, Any S' a → Any S1 a ∨ a ∈ Z := by
  have ow : ∀ j a, OwnAt S' j a → OwnAt S1 j a := fun j a ⟨r, e, q⟩ => by
    by_cases h : j ∈ is
    · rw [(p.new j h r e).1] at q; simp at q
    · rw [(p.oth j h).1] at e; exact ⟨r, e, q⟩
  refine ⟨⟨fun j r e => ?_, fun i j a h1 h2 => f.sep i j a (ow i a h1) (ow j a h2), fun i a h j r e => ?_⟩, ow, fun a ⟨j, r, e, q⟩ => ?_⟩
  · by_cases h : j ∈ is
    · rw [(p.new j h r e).1]; simp
    · rw [(p.oth j h).1] at e; exact f.nd j r e
  · by_cases hj : j ∈ is
    · exact fun z => hz a ((p.new j hj r e).2 a z) (ow i a h).own
    · rw [(p.oth j hj).1] at e; exact f.zo i a (ow i a h) j r e
  · by_cases hj : j ∈ is
    · obtain ⟨e1, e2⟩ := p.new j hj r e
      rw [e1] at q
      exact .inr (e2 a (by simpa using q))
    · rw [(p.oth j hj).1] at e; exact .inl ⟨j, r, e, q⟩
end
section
variable {X : Cx} {nm : Nm} {G : Glo} {CA : Nat → Addr} {cf : Runs} {W : WX} {L : List Nat}
theorem for_core {tg : Tg} {g : TG} {S0 S1 : Slots} {σ : St} {H H1 : Hp} {D : Ends} {xs : List Vy.D} {J : It} {Ns : List Addr} {P : Hp → Prop} {L' : List Nat} {sa : List S} (hg : TgOk X.K CA tg g) (hlen : ∀ i ∈ tg.is, i < X.N.length) (hJ : ∀ i ∈ tg.is, i ∉ cf.io) (hσ : ∀ {S : Slots} {σ' : St} {H' : Hp}, SRep X.K CA S σ' H' → S.length = S0.length → S.length = X.N.length)
    (hL : ∀ i ∈ L, i ∈ L') (sr : SRep X.K CA S1 σ H1) (f1 : Fr S1) (l1 : S1.length = S0.length) (st : Step cf.io L' S0 H S1 H1) (hP : P H1) (w : Walk X.K CA J xs Ns P)
    (n1 : ∀ a ∈ Ns, ¬ Ou S1 L' a) (n2 : mdepL xs = 0 ∨ ∀ a ∈ Ns, ¬ Own S1 a) (n3 : ∀ a ∈ Ns, Any S0 a ∨ H a = none)
    (h : DenS X.K CA W cf.io L S0 H (forL (fun ρ d => putS ρ tg d fun ρ => exB G cf L' ρ sa) xs (envOf S1)) D) :
    ∃ V : Nat → Nat → St → Hp → Prop, (∃ m, V 0 m σ H1) ∧ ∀ i m σ H, V i m σ H →
      (J.stop i H ∧ D.nx σ H) ∨ (J.go i H ∧ ∃ N : St → Hp → Prop, (∀ σ' H', N σ' H' → ∃ m', m' < m ∧ V (i + 1) m' σ' H') ∧ ∀ x H', J.yld i H x H' → g x σ H' fun σ2 H2 => tB X G CA cf W L' sa { D with nx := N, ct := N, bk := D.nx } σ2 H2) := by
  have hN0 : ∀ a ∈ Ns, H1 a ≠ none := w.there H1 hP
  refine ⟨fun i m σc Hc => m = xs.length - i ∧ i ≤ xs.length ∧ ∃ Sc, SRep X.K CA Sc σc Hc ∧ Fr Sc ∧ Sc.length = S0.length ∧ Step cf.io L' S0 H Sc Hc ∧ P Hc ∧ (∀ a ∈ Ns, ¬ Ou Sc L' a) ∧ (mdepL xs = 0 ∨ ∀ a ∈ Ns, ¬ Own Sc a) ∧ DenS X.K CA W cf.io L S0 H (forL (fun ρ d => putS ρ tg d fun ρ => exB G cf L' ρ sa) (xs.drop i) (envOf Sc)) D,
    ⟨xs.length, rfl, Nat.zero_le _, S1, sr, f1, l1, st, hP, n1, n2, h⟩, ?_⟩
  rintro i m σc Hc ⟨rfl, hil, Sc, src, fc, lc, stc, hPc, m1, m2, hd⟩
  by_cases hlt : i < xs.length
  · right
    rw [List.drop_eq_getElem_cons hlt] at hd
    have hxi : xs[i]? = some xs[i] := List.getElem?_eq_getElem hlt
    refine ⟨w.go i Hc hlt hPc, fun σ' H' => ∃ S', SRep X.K CA S' σ' H' ∧ Fr S' ∧ S'.length = S0.length ∧ Step cf.io L' S0 H S' H' ∧ P H' ∧ (∀ a ∈ Ns, ¬ Ou S' L' a) ∧ (mdepL xs = 0 ∨ ∀ a ∈ Ns, ¬ Own S' a) ∧ DenS X.K CA W cf.io L S0 H (forL (fun ρ d => putS ρ tg d fun ρ => exB G cf L' ρ sa) (xs.drop (i + 1)) (envOf S')) D,
      fun σ' H' hN => ⟨xs.length - (i + 1), by omega, rfl, by omega, hN⟩, fun x H2 hy => ?_⟩
    obtain ⟨s2, Z0, r0, hZ0⟩ := w.yld i Hc x H2 xs[i] hPc hxi hy
    obtain ⟨Z, rx, hZ, hZo⟩ : ∃ Z, Rep X.K CA H2 0 xs[i] x [] Z ∧ (∀ a ∈ Z, a ∈ Ns) ∧ ∀ a ∈ Z, ¬ Own Sc a := by
      rcases m2 with z | z
      · have hd0 : (xs[i]).mdep = 0 := Nat.le_zero.mp (z ▸ mdepL_mem (List.getElem_mem hlt))
        obtain ⟨_, e, r⟩ := r0.imm (m := 0) hd0
        exact ⟨[], r, by simp, by simp⟩
      · exact ⟨Z0, r0, hZ0, fun a ha => z a (hZ0 a ha)⟩
    simp only [forL] at hd
    cases hp : tg.put (envOf Sc) xs[i] with
    | exc e => simp only [putS, hp] at hd; exact hd.elim
    | bad => simp only [putS, hp] at hd; exact hd.elim
    | ok ρ' =>
    simp only [putS, hp] at hd
    refine hg Sc σc H2 xs[i] x Z ρ' _ (src.same s2) rx hp (fun j hj => by rw [hσ src lc]; exact hlen j hj) fun S' σ' sr' hρ pu => ?_
    obtain ⟨f', ow, an⟩ := fc.put pu hZo
    have l' : S'.length = S0.length := by rw [sr'.len, pu.len, ← src.len, lc]
    have stp : Step cf.io L' S0 H S' H2 := by
      refine ⟨fun a o e n => s2 a o (stc.keep a o e n), fun a h => same_there s2 (stc.there a h), fun j a h => stc.own j a (ow j a h), fun a h => ?_, fun j hj r' h => ?_⟩
      · rcases an a h with z | z
        · exact stc.any a z
        · exact n3 a (hZ a z)
      · rw [(pu.oth j fun q => hJ j q hj).1] at h
        exact stc.pin j hj r' h
    refine ⟨S', sr', f', ?_⟩
    rw [hρ]
    -- behind a turn
    have go : ∀ S2 σ2 H4, SRep X.K CA S2 σ2 H4 → Fr S2 → Step cf.io L' S' H2 S2 H4 → S2.length = S0.length → P H4 ∧ (∀ a ∈ Ns, ¬ Ou S2 L' a) ∧ (mdepL xs = 0 ∨ ∀ a ∈ Ns, ¬ Own S2 a) := fun S2 σ2 H4 sr2 f2 st2 l2 => by
      have nsu : ∀ a ∈ Ns, ¬ Ou S' L' a := fun a ha ⟨j, hj, q⟩ => m1 a ha ⟨j, hj, ow j a q⟩
      have nth : ∀ a ∈ Ns, H2 a ≠ none := fun a ha => same_there s2 (w.there Hc hPc a ha)
      have p2 : P H2 := w.keep [] Hc H2 hPc (keepS s2) (fun a z => by simp at z) (by simp)
      refine ⟨w.keep (ownL S' L') H2 H4 p2 st2.keepF sr'.fix fun a ha z => nsu a ha (ownL_mem.mp z), fun a ha z => ?_, m2.imp id fun z a ha q => ?_⟩
      · rcases st2.ou z with q | q
        · exact nsu a ha q
        · exact nth a ha q
      · rcases st2.ownA q with ⟨j, q⟩ | q
        · exact z a ha ⟨j, ow j a q⟩
        · exact nth a ha q
    cases e2 : exB G cf L' ρ' sa with
    | nx ρ2 =>
      rw [e2] at hd
      intro S2 σ2 H4 sr2 f2 st2 he
      have l2 : S2.length = S0.length := by
        have : (envOf S2).length = (envOf S').length := by
          rw [he, hρ]
          have := exB_len (G := G) (cf := cf) sa L' ρ' rfl
          rw [e2] at this; exact this
        rw [envOf_len, envOf_len] at this
        rw [this, l']
      obtain ⟨q1, q2, q3⟩ := go S2 σ2 H4 sr2 f2 st2 l2
      exact ⟨S2, sr2, f2, l2, stp.trans st2, q1, q2, q3, by rw [he]; exact hd⟩
    | rt p ρ => rw [e2] at hd; exact DenS.nx' (D := D) rfl (fun _ z => by cases z) (DenS.step stp (hd.lock hL))
    | exc x ρ => rw [e2] at hd; exact DenS.nx' (D := D) rfl (fun _ z => by cases z) (DenS.step stp (hd.lock hL))
    | bad => rw [e2] at hd; exact hd.elim
  · left
    have hie : i = xs.length := by omega
    subst hie
    rw [List.drop_length] at hd
    exact ⟨w.stop Hc hPc, hd Sc σc Hc src fc (stc.mono hL) rfl⟩
theorem s_for {tg : Tg} {g : TG} {it : C} {tge iter : Expr} {b : List Stmt} {sa : List S} {pos : Pos} (pas : PassesOwn (model X.prog X.w) X.A X.env X.xe) (hc : X.calm = true) (hg : TgOk X.K CA tg g) (hlen : ∀ i ∈ tg.is, i < X.N.length) (hi : PI X tge iter (tI X G CA cf W it)) (pg : PG X tge g)
    (ha : ∀ L, PSs X b (tB X G CA cf W L sa)) (hs : noSet iter = true) : PS X (.For tge iter b [] pos) (tS X G CA cf W L (.for_ tg it sa)) := ⟨fun pins s σ H D I ⟨S, sr, fr, h⟩ => by
  have hN : S.length = X.N.length := by rw [sr.len, I.len]
  rw [exS] at h
  cases e : ev G cf (envOf S) it with
  | exc x =>
    rw [e] at h
    refine (ps_for pas hc hi pg (ha L) (fold_no hs)).run pins s σ H D I ⟨S, sr, ?_⟩
    rw [e]
    exact fun cls dd H' s x => h S σ H' cls dd (sr.same s) fr (Step.same s) rfl x
  | bad => rw [e] at h; exact h.elim
  | ok p =>
    rw [e] at h
    simp only [onE_ok] at h
    cases hx : itemsOf p.1 with
    | none => rw [hx] at h; exact h.elim
    | some xs =>
      rw [hx] at h
      simp only at h
      obtain ⟨hJ, h⟩ := h.onJ
      by_cases hf : full p = true
      · rw [if_pos hf] at h
        refine (ps_for pas hc hi pg (ha L) (fold_no hs)).run pins s σ H D I ⟨S, sr, ?_⟩
        rw [e]
        refine ⟨xs, hx, fun J H1 Ns P s1 hP w hNs => ?_⟩
        have nf : ∀ a ∈ Ns, H a = none := fun a ha => (hNs a ha).elim id fun z => absurd (by simpa [full] using hf) z.1
        exact for_core hg hlen hJ (fun _ l => by rw [l, hN]) (fun _ h => h) (sr.same s1) fr rfl (Step.same s1) hP w (fun a ha z => sr.own z.own (nf a ha)) (.inr fun a ha z => sr.own z (nf a ha)) (fun a ha => .inr (nf a ha)) h
      · rw [if_neg hf] at h
        refine (ps_for pas hc hi pg (ha (names it ++ L)) (fold_no hs)).run pins s σ H D I ⟨S, sr, ?_⟩
        rw [e]
        refine ⟨xs, hx, fun J H1 Ns P s1 hP w hNs => ?_⟩
        have n3 : ∀ a ∈ Ns, Any S a ∨ H a = none := fun a ha => (hNs a ha).elim .inr fun z => .inl z.2.any
        by_cases hm : mdepL xs = 0
        · rw [if_pos hm] at h
          refine for_core hg hlen hJ (fun _ l => by rw [l, hN]) (fun j hj => List.mem_append_right _ hj) (sr.same s1) fr rfl (Step.same s1) hP w (fun a ha z => ?_) (.inl hm) n3 h
          obtain ⟨k, hk, q⟩ := z
          rcases hNs a ha with y | ⟨_, j, hj, r, hr, y⟩
          · exact sr.own q.own y
          · rcases List.mem_append.mp y with y | y
            · have := fr.sep k j a q ⟨r, hr, y⟩
              subst this
              exact hk (List.mem_append_left _ hj)
            · exact fr.zo k a q j r hr y
        · rw [if_neg hm] at h
          obtain ⟨S1, sr1, f1, z⟩ := frz_ok (names it) sr fr
          rw [← z.env] at h
          have nn : ∀ a ∈ Ns, ¬ Own S1 a := fun a ha q => by
            rcases hNs a ha with y | y
            · exact sr1.own q y
            · exact z.free fr y.2 q
          exact for_core hg hlen hJ (fun _ l => by rw [l, hN]) (fun j hj => List.mem_append_right _ hj) (sr1.same s1) f1 z.len (z.step.trans (Step.same s1)) hP w (fun a ha q => nn a ha q.own) (.inr nn) n3 h⟩
end
end Vy

namespace Vy
open PySem PySem.Spec
open PyProof.Rows hiding St
open L2
section
variable {X : Cx} {nm : Nm} {G : Glo} {CA : Nat → Addr} {cf : Runs} {W : WX} {L : List Nat}
theorem Rep.lst_own {K : PySem.W.Frag} {H : Hp} {n : Nat} {xs : List D} {v : V} {O Z : List Addr} (r : Rep K CA H n (.lst xs) v O Z) (h : 1 ≤ n) : ∃ m a vs O', n = m + 1 ∧ v = .ref a ∧ H a = some (.lst vs) ∧ Reps K CA H m xs vs O' Z ∧ O = a :: O' := by
  cases r with
  | lstO e r => exact ⟨_, _, _, _, rfl, rfl, e, r, rfl⟩
  | lstZ e r => omega
theorem s_app {i : Nat} {x : Str} {c : C} {e : Expr} {p apos cpos pos : Pos} (hN : X.N[i]? = some x) (hv : Vis X.env.scope x) (hdb : (x == ("__debug__" : Str)) = false) (hcd : (x == ("__classdict__" : Str)) = false)
    (he : PE X e (tE X G CA cf W c)) (hs : noStar e = true) (hl : (apos.endLine == cpos.line) = true) : PS X (.Expr (.Call (.Attribute (.Name x p) "append" apos) [e] [] cpos) pos) (tS X G CA cf W L (.app i c)) := by
  have hs1 : [e].all noStar = true := by simp [hs]
  refine PS.weak (ps_expr (pe_bm F.plainAttrs_list F.slot_list_append F.type_list_append mt_append (pe_var (pos := p) hN hv hdb hcd) (a_cons he a_nil (star_cons hs)) rfl (back_few hs1 (by simp)) hl (star_cons hs) rfl) rfl) fun D σ H ⟨S, sr, fr, h⟩ => ?_
  rw [exS] at h
  cases e1 : ((envOf S)[i]?).bind id with
  | none => rw [e1] at h; exact h.elim
  | some q =>
  rw [e1] at h
  obtain ⟨d0, n0⟩ := q
  cases d0 <;> first | exact h.elim | skip
  rename_i xs
  simp only at h
  obtain ⟨r0, hr0, er⟩ := slot_get e1
  obtain ⟨q1, q2⟩ := sr.rep i r0 hr0
  obtain ⟨rd, rn, rv, rO, rZ⟩ := r0
  have er1 : rd = .lst xs := congrArg Prod.fst er
  have er2 : rn = n0 := congrArg Prod.snd er
  subst er1; subst er2
  have q2 : Rep X.K CA H rn (.lst xs) rv rO rZ := q2
  have q1 : σ[i]? = some (some rv) := q1
  obtain ⟨a0, vs0, O0, Z0, m0, ev0, hH0, rr0, _, _⟩ := q2.lst_inv
  refine ⟨rv, q1, by rw [ev0]; exact .inl ⟨rfl, vs0, .of hH0⟩, S, sr, ?_⟩
  have key : DenL X.K CA W (Nod S (namesL [c])) (evs G cf (envOf S) [c]) σ H fun vs H2 => ∃ p v O Z, ev G cf (envOf S) c = .ok p ∧ vs = [v] ∧ PVal X.K CA (Nod S (names c)) H H2 p.1 p.2 v O Z ∧ DenS X.K CA W cf.io L S H (appD L (envOf S) i p (names c)) D := by
    simp only [evs]
    cases e2 : ev G cf (envOf S) c with
    | exc y => rw [e2] at h; exact fun cls dd H' s x => h S σ H' cls dd (sr.same s) fr (Step.same s) rfl x
    | bad => rw [e2] at h; exact h.elim
    | ok p =>
      rw [e2] at h
      intro vs H2 O Z s pv
      obtain ⟨v, rfl, p1⟩ := pv.one_inv
      exact ⟨p, v, O, Z, rfl, rfl, p1.mono fun a ha => by simpa [namesL] using ha, h⟩
  have mono : ∀ {Q Q' : List V → Hp → Prop}, (∀ vs H2, Q vs H2 → Q' vs H2) → DenL X.K CA W (Nod S (namesL [c])) (evs G cf (envOf S) [c]) σ H Q → DenL X.K CA W (Nod S (namesL [c])) (evs G cf (envOf S) [c]) σ H Q' := fun {Q Q'} w h => by
    cases e2 : evs G cf (envOf S) [c] with
    | exc y => rw [e2] at h; exact h
    | bad => rw [e2] at h; exact h
    | ok ps => rw [e2] at h; exact fun vs H2 O Z s pv => w vs H2 (h vs H2 O Z s pv)
  refine mono (fun vs H2 ⟨p, v, O, Z, e2, ev1, pv, hd⟩ => ?_) key
  subst ev1
  unfold appD at hd
  by_cases hiL : i ∈ L
  · rw [if_pos hiL] at hd; exact hd.elim
  rw [if_neg hiL, e1] at hd
  simp only at hd
  by_cases hc : 1 ≤ rn ∧ xs.length + 1 ≤ SZ
  rotate_left
  · rw [if_neg hc] at hd; exact hd.elim
  rw [if_pos hc] at hd
  obtain ⟨m, a, vs, O', em, ea, hH, rr, eO⟩ := q2.lst_own hc.1
  subst em; subst ea; subst eO
  have own0 : ∀ y ∈ a :: O', OwnAt S i y := fun y hy => ⟨_, hr0, hy⟩
  have nd0 := List.nodup_cons.mp (fr.nd i _ hr0)
  have zo0 : ∀ y ∈ rZ, y ∉ a :: O' := fun y hy w => fr.zo i y (own0 y w) i _ hr0 hy
  have sz : vs.length < sizeLine := by rw [SZ_eq, ← rr.length]; omega
  have hH2 : H2 a = some (.lst vs) := pv.same _ _ hH
  have thO : ∀ y ∈ O', H y ≠ none := fun y hy => sr.own ⟨i, own0 y (by simp [hy])⟩
  have tha : H a ≠ none := by rw [hH]; simp
  refine ⟨a, vs, v, rfl, rfl, hH2, sz, ?_⟩
  have fin : ∀ (S1 : Slots) (k : Nat) (Op Zp : List Addr), SRep X.K CA S1 σ H → Fr S1 → Step cf.io L S H S1 H → S1[i]? = some (some ⟨.lst xs, m + 1, .ref a, a :: O', rZ⟩) → k ≤ m → Rep X.K CA H2 k p.1 v Op Zp → (∀ y ∈ Op, H y = none) → Op.Nodup → (∀ y ∈ Zp, y ∉ Op) → (∀ y ∈ Zp, H y = none ∨ (¬ Own S1 y ∧ Any S y)) →
      DenS X.K CA W cf.io L S H (.nx (setV (envOf S1) i (.lst (xs ++ [p.1]), k + 1))) D → D.nx σ (upd H2 a (.lst (vs ++ [v]))) := by
    intro S1 k Op Zp sr1 f1 st1 hr1 hk rp hOp ndp zop hZp hd
    obtain ⟨O2, Z2, r2, lw⟩ := rr.low hk
    have own1 : ∀ y ∈ a :: O', OwnAt S1 i y := fun y hy => ⟨_, hr1, hy⟩
    have zpn : ∀ y ∈ Zp, y ∉ a :: O' := fun y hy w => by
      rcases hZp y hy with z | ⟨z, _⟩
      · exact sr.own ⟨i, own0 y w⟩ z
      · exact z ⟨i, own1 y w⟩
    have z2 : ∀ y ∈ Z2, y ≠ a ∧ H y ≠ none := fun y hy => by
      rcases lw.all y hy with z | z
      · exact ⟨fun e => nd0.1 (e ▸ z), thO y z⟩
      · exact ⟨fun e => zo0 y z (by simp [e]), sr.any ⟨i, _, hr0, by simp [z]⟩⟩
    have same3 : ∀ y o, H2 y = some o → y ≠ a → upd H2 a (.lst (vs ++ [v])) y = some o := fun y o e hn => by rw [upd_ne hn]; exact e
    have k2 : Keep [a] H2 (upd H2 a (.lst (vs ++ [v]))) := fun y o e hn => same3 y o e (by simpa using hn)
    have fx2 : Fix [a] H2 := fun y hy => by simp at hy; subst hy; rw [hH2]; trivial
    have rep : Rep X.K CA (upd H2 a (.lst (vs ++ [v]))) (k + 1) (.lst (xs ++ [p.1])) (.ref a) (a :: (O2 ++ Op)) (Z2 ++ Zp) := by
      refine .lstO upd_same ?_
      have r2' : Reps X.K CA (upd H2 a (.lst (vs ++ [v]))) k xs vs O2 Z2 := (r2.same pv.same).keep k2 fx2 fun y hy z => by
        simp at z
        rcases List.mem_append.mp hy with q | q
        · exact nd0.1 (z ▸ lw.own y q)
        · exact (z2 y q).1 z
      have rp' : Rep X.K CA (upd H2 a (.lst (vs ++ [v]))) k p.1 v Op Zp := rp.keep k2 fx2 fun y hy z => by
        simp at z
        rcases List.mem_append.mp hy with q | q
        · exact tha (z ▸ hOp y q)
        · exact zpn y q (by simp [z])
      have := r2'.append (.cons rp' .nil)
      simpa using this
    have M1 : (a :: (O2 ++ Op)).Nodup ∧ (∀ y ∈ Z2 ++ Zp, y ∉ a :: (O2 ++ Op)) ∧ (∀ y ∈ a :: (O2 ++ Op), y ∈ a :: O' ∨ H y = none) ∧ ∀ y ∈ Z2 ++ Zp, y ∈ a :: O' ∨ y ∈ rZ ∨ H y = none ∨ (¬ Own S1 y ∧ Any S y) := by
      refine ⟨?_, ?_, ?_, ?_⟩
      · refine List.nodup_cons.mpr ⟨fun z => ?_, List.nodup_append.mpr ⟨lw.nd nd0.2, ndp, fun y hy w hw e => ?_⟩⟩
        · rcases List.mem_append.mp z with z | z
          · exact nd0.1 (lw.own a z)
          · exact tha (hOp a z)
        · subst e; exact thO y (lw.own y hy) (hOp y hw)
      · intro y hy z
        rcases List.mem_append.mp hy with q | q
        · rcases List.mem_cons.mp z with z | z
          · exact (z2 y q).1 z
          · rcases List.mem_append.mp z with z | z
            · exact lw.zo nd0.2 (fun y hy w => zo0 y hy (by simp [w])) y q z
            · exact (z2 y q).2 (hOp y z)
        · rcases List.mem_cons.mp z with z | z
          · exact zpn y q (by simp [z])
          · rcases List.mem_append.mp z with z | z
            · exact zpn y q (by simp [lw.own y z])
            · exact zop y q z
      · intro y hy
        rcases List.mem_cons.mp hy with q | q
        · exact .inl (by simp [q])
        · rcases List.mem_append.mp q with q | q
          · exact .inl (by simp [lw.own y q])
          · exact .inr (hOp y q)
      · intro y hy
        rcases List.mem_append.mp hy with q | q
        · rcases lw.all y q with q | q
          · exact .inl (by simp [q])
          · exact .inr (.inl q)
        · exact (hZp y q).elim (fun z => .inr (.inr (.inl z))) fun z => .inr (.inr (.inr z))
    obtain ⟨S', sr', f', st', he⟩ := mut_ok (L := L) (S0 := S) (S1 := S1) (F := [a]) (H3 := upd H2 a (.lst (vs ++ [v]))) sr1 f1 st1 hr1 hiL (by simp) (fun y o e hn => same3 y o (pv.same y o e) (by simpa using hn)) (fun y hy => by simp at hy; subst hy; rw [hH]; trivial)
      (fun y hy => by
        by_cases e : y = a
        · subst e; rw [upd_same]; simp
        · rw [upd_ne e]; exact same_there pv.same hy) rep M1.1 M1.2.1 M1.2.2.1 M1.2.2.2
    exact hd S' σ _ sr' f' st' he
  by_cases h0 : p.1.mdep = 0
  · rw [if_pos h0] at hd
    obtain ⟨_, _, rp⟩ := pv.rep.imm (m := m) h0
    exact fin S m [] [] sr fr Step.refl hr0 (Nat.le_refl _) rp (by simp) (by simp) (by simp) (by simp) hd
  rw [if_neg h0] at hd
  obtain ⟨Op, Zp, rp, lp⟩ := pv.rep.low (Nat.min_le_right m p.2)
  have ek : min (m + 1) (p.2 + 1) = min m p.2 + 1 := by omega
  rw [ek] at hd
  have hop : ∀ y ∈ Op, H y = none := fun y hy => pv.fresh y (lp.own y hy)
  by_cases hf : full p = true
  · rw [if_pos hf] at hd
    have hz : Z = [] := pv.rep.full (by simpa [full] using hf)
    refine fin S _ Op Zp sr fr Step.refl hr0 (Nat.min_le_left _ _) rp hop (lp.nd pv.nd) (lp.zo pv.nd pv.zo) (fun y hy => .inl ?_) hd
    rcases lp.all y hy with z | z
    · exact pv.fresh y z
    · rw [hz] at z; simp at z
  · rw [if_neg hf] at hd
    by_cases hin : i ∈ names c
    · rw [if_pos hin] at hd; exact hd.elim
    rw [if_neg hin] at hd
    obtain ⟨S1, sr1, f1, z⟩ := frz_ok (names c) sr fr
    rw [← z.env] at hd
    refine fin S1 _ Op Zp sr1 f1 z.step (by rw [z.oth i hin]; exact hr0) (Nat.min_le_left _ _) rp hop (lp.nd pv.nd) (lp.zo pv.nd pv.zo) (fun y hy => ?_) hd
    rcases lp.all y hy with q | q
    · exact .inl (pv.fresh y q)
    · rcases pv.zin y q with q | q
      · exact .inl q
      · exact .inr ⟨z.free fr q, q.any⟩
end
end Vy

namespace Vy
open PySem PySem.Spec
open PyProof.Rows hiding St
open L2
structure Def where
  np : Nat
  nl : Nat
  b : List S
  io : List Nat
  rc : Rc
def initI (nl : Nat) (ps : List (D × Nat)) : Env := ps.map (fun p => some (norm p)) ++ List.replicate (nl - ps.length) none
def initE (nl : Nat) (ds : List D) : Env := ds.map (fun d => some (norm (d, 0))) ++ List.replicate (nl - ds.length) none
def outS : OS → Out (D × Nat)
  | .nx _ => .ok (.non, 9)
  | .rt p _ => .ok p
  | .exc e _ => .exc e
  | .bad => .bad
def iosOf : List Nat → Env → Option (List (D × Nat))
  | [], _ => some []
  | i :: r, ρ => ((ρ[i]?).bind id).bind fun p => (iosOf r ρ).map fun l => p :: l
def outI (io : List Nat) : OS → OutI
  | .nx ρ => match iosOf io ρ with
    | some l => .ok (.non, 9) l
    | none => .bad
  | .rt p ρ => if io = [] ∨ full p = true then (match iosOf io ρ with
    | some l => .ok p l
    | none => .bad) else .bad
  | .exc e ρ => match iosOf io ρ with
    | some l => .exc e l
    | none => .bad
  | .bad => .bad
def plainO : OutI → Out (D × Nat)
  | .ok p [] => .ok p
  | .exc e [] => .exc e
  | _ => .bad
def gdB : Rc → List (D × Nat) → Bool
  | .me c m, (.ins c' fs _, _) :: _ => decide (c' = c) && !fs.contains m
  | .me _ _, _ => false
  | _, _ => true
def mkO : OutI → OutI
  | .ok (.non, _) [q] => .ok q []
  | .exc e [_] => .exc e []
  | _ => .bad
def runI (G : Glo) (P : Nat → Option Def) : Nat → Nat → List (D × Nat) → OutI
  | 0, _, _ => .bad
  | k + 1, f, ps => match P f with
    | none => .bad
    | some d => if ps.length = d.np ∧ gdB d.rc ps = true then (match d.rc with
      | .mk c fi => mkO (runI G P k fi ((.ins c [] [], 9) :: ps))
      | _ => outI d.io (exB G ⟨fun g ds => plainO (runI G P k g (ds.map fun x => (x, 0))), runI G P k, d.io⟩ [] (initI d.nl ps) d.b)) else .bad
def run (G : Glo) (P : Nat → Option Def) (k : Nat) : Runs := ⟨fun g ds => plainO (runI G P k g (ds.map fun x => (x, 0))), runI G P k, []⟩
def Runs.wio (R : Runs) (io : List Nat) : Runs := ⟨R.pl, R.ci, io⟩
theorem runI_g (G : Glo) (P : Nat → Option Def) (k f : Nat) (ps : List (D × Nat)) (d : Def) (h : P f = some d) (hl : ps.length = d.np) (hm : ∀ c fi, d.rc ≠ .mk c fi) (hg : gdB d.rc ps = true) : runI G P (k + 1) f ps = outI d.io (exB G ((run G P k).wio d.io) [] (initI d.nl ps) d.b) := by
  rw [runI, h]; simp only; rw [if_pos ⟨hl, hg⟩]
  cases e : d.rc with
  | fn => rfl
  | me c m => rfl
  | mk c fi => exact absurd e (hm c fi)
theorem runI_no (G : Glo) (P : Nat → Option Def) (k f : Nat) (ps : List (D × Nat)) (d : Def) (h : P f = some d) (hg : gdB d.rc ps = false) : runI G P (k + 1) f ps = .bad := by
  rw [runI, h]; simp only; rw [if_neg (fun z => by rw [hg] at z; cases z.2)]
theorem runI_mk (G : Glo) (P : Nat → Option Def) (k f : Nat) (ps : List (D × Nat)) (d : Def) (c fi : Nat) (h : P f = some d) (hl : ps.length = d.np) (hm : d.rc = .mk c fi) : runI G P (k + 1) f ps = mkO (runI G P k fi ((.ins c [] [], 9) :: ps)) := by
  rw [runI, h]; simp only; rw [if_pos ⟨hl, by rw [hm]; rfl⟩, hm]
theorem runI_eq (G : Glo) (P : Nat → Option Def) (k f : Nat) (ps : List (D × Nat)) (d : Def) (h : P f = some d) (hl : ps.length = d.np) (hr : d.rc = .fn) : runI G P (k + 1) f ps = outI d.io (exB G ((run G P k).wio d.io) [] (initI d.nl ps) d.b) :=
  runI_g G P k f ps d h hl (fun c fi z => by rw [hr] at z; cases z) (by rw [hr]; rfl)
theorem run_g (G : Glo) (P : Nat → Option Def) (k f : Nat) (ds : List D) (d : Def) (h : P f = some d) (hio : d.io = []) (hl : ds.length = d.np) (hm : ∀ c fi, d.rc ≠ .mk c fi) (hg : gdB d.rc (ds.map fun x => (x, 0)) = true) : run G P (k + 1) f ds = outS (exB G (run G P k) [] (initE d.nl ds) d.b) := by
  show plainO (runI G P (k + 1) f (ds.map fun x => (x, 0))) = _
  rw [runI_g G P k f _ d h (by simpa using hl) hm hg, hio]
  have e : initI d.nl (ds.map fun x => (x, 0)) = initE d.nl ds := by unfold initI initE; simp [List.map_map, Function.comp_def]
  rw [e]
  show plainO (outI [] (exB G (run G P k) [] (initE d.nl ds) d.b)) = _
  cases exB G (run G P k) [] (initE d.nl ds) d.b <;> simp [outI, iosOf, plainO, outS]
theorem run_eq (G : Glo) (P : Nat → Option Def) (k f : Nat) (ds : List D) (d : Def) (h : P f = some d) (hio : d.io = []) (hl : ds.length = d.np) (hr : d.rc = .fn) : run G P (k + 1) f ds = outS (exB G (run G P k) [] (initE d.nl ds) d.b) :=
  run_g G P k f ds d h hio hl (fun c fi z => by rw [hr] at z; cases z) (by rw [hr]; rfl)
theorem run_mk (G : Glo) (P : Nat → Option Def) (k f : Nat) (ds : List D) (d : Def) (c fi : Nat) (h : P f = some d) (hl : ds.length = d.np) (hm : d.rc = .mk c fi) : run G P (k + 1) f ds = plainO (mkO (runI G P k fi ((.ins c [] [], 9) :: ds.map fun x => (x, 0)))) := by
  show plainO (runI G P (k + 1) f (ds.map fun x => (x, 0))) = _
  rw [runI_mk G P k f _ d c fi h (by simpa using hl) hm]
section
variable {K : PySem.W.Frag} {CA : Nat → Addr} {H H' : Hp}
def PostI (K : PySem.W.Frag) (CA : Nat → Addr) (io : List Nat) (A : Slots) (vs : List V) (H : Hp) (o : OutI) (Q : VK) (E : XK) : Prop := match o with
  | .ok p ios => ∀ A' v H' O Z, SRep K CA A' (vs.map some) H' → Fr A' → Step io [] A H A' H' → (∀ (i : Nat) (r : Root), A'[i]? = some (some r) → i ∈ io) → iosOf io (envOf A') = some ios →
      Rep K CA H' p.2 p.1 v O Z → (∀ a ∈ O, ¬ Any A' a) → (∀ a ∈ O, Own A a ∨ H a = none) → O.Nodup → (∀ a ∈ Z, Any A a ∨ H a = none) → (∀ a ∈ Z, a ∉ O) → (io ≠ [] → full p = true) → Q v H'
  | .exc e ios => ∀ A' H' cls dd, SRep K CA A' (vs.map some) H' → Fr A' → Step io [] A H A' H' → (∀ (i : Nat) (r : Root), A'[i]? = some (some r) → i ∈ io) → iosOf io (envOf A') = some ios → ExRep K CA e cls dd H' → E cls dd H'
  | .bad => False
def spI (K : PySem.W.Frag) (CA : Nat → Addr) (ci : Nat → List (D × Nat) → OutI) (np : Nat) (io : List Nat) (f : Nat) : Sp := fun vs H Q E =>
  vs.length = np ∧ ∃ rs : List Root, SRep K CA (rs.map some) (vs.map some) H ∧ Fr (rs.map some) ∧ PostI K CA io (rs.map some) vs H (ci f (rs.map fun r => (r.d, r.n))) Q E
theorem get_some {rs : List Root} {i : Nat} {r : Root} (h : (rs.map some)[i]? = some (some r)) : rs[i]? = some r := by
  rw [List.getElem?_map] at h
  cases e : rs[i]? with
  | none => rw [e] at h; cases h
  | some x => rw [e] at h; cases h; rfl
theorem Fr.sub {S S' : Slots} (f : Fr S) (h : ∀ (i : Nat) (r : Root), S'[i]? = some (some r) → S[i]? = some (some r)) : Fr S' := by
  have ow : ∀ {i a}, OwnAt S' i a → OwnAt S i a := fun ⟨r, e, q⟩ => ⟨r, h _ r e, q⟩
  exact ⟨fun i r e => f.nd i r (h i r e), fun i j a q w => f.sep i j a (ow q) (ow w), fun i a q j r e => f.zo i a (ow q) j r (h j r e)⟩
theorem Any.sub {S S' : Slots} (h : ∀ (i : Nat) (r : Root), S'[i]? = some (some r) → S[i]? = some (some r)) {a : Addr} (q : Any S' a) : Any S a := let ⟨i, r, e, w⟩ := q; ⟨i, r, h i r e, w⟩
def maskS (io : List Nat) (n : Nat) (S : Slots) : Slots := (List.range n).map fun i => if i ∈ io then (S[i]?).bind id else none
theorem maskS_get {io : List Nat} {n : Nat} {S : Slots} {i : Nat} {r : Root} (h : (maskS io n S)[i]? = some (some r)) : i < n ∧ i ∈ io ∧ S[i]? = some (some r) := by
  unfold maskS at h
  rw [List.getElem?_map] at h
  by_cases hi : i < n
  · rw [List.getElem?_range hi] at h
    simp only [Option.map_some, Option.some.injEq] at h
    split at h
    · rename_i hio
      refine ⟨hi, hio, ?_⟩
      cases e : S[i]? with
      | none => rw [e] at h; cases h
      | some o => rw [e] at h; cases o with
        | none => cases h
        | some x => cases h; rfl
    · cases h
  · rw [List.getElem?_eq_none (by simpa using hi)] at h
    cases h
theorem maskS_ios {n : Nat} {S : Slots} {io0 : List Nat} : ∀ {io : List Nat}, (∀ i ∈ io, i < n ∧ i ∈ io0) → iosOf io (envOf (maskS io0 n S)) = iosOf io (envOf S)
  | [], _ => rfl
  | i :: r, h => by
    have ih := maskS_ios (S := S) (io0 := io0) (n := n) (io := r) fun j hj => h j (by simp [hj])
    obtain ⟨h1, h2⟩ := h i (by simp)
    rw [iosOf, iosOf, ih]
    congr 1
    rw [envOf_get, envOf_get]
    congr 1
    unfold maskS
    rw [List.getElem?_map, List.getElem?_range h1]
    simp [h2]
theorem start_ok {N : List Str} {rs : List Root} {vs : List V} (sr : SRep K CA (rs.map some) (vs.map some) H) (fr : Fr (rs.map some)) :
    ∃ S, SRep K CA S (L2.start N vs) H ∧ Fr S ∧ envOf S = initI N.length (rs.map fun r => (r.d, r.n)) ∧ (∀ (i : Nat) (r : Root), S[i]? = some (some r) → ∃ r0 : Root, rs[i]? = some r0 ∧ r0.v = r.v ∧ r0.O = r.O ∧ r0.Z = r.Z) ∧ (∀ (i : Nat) (r0 : Root), rs[i]? = some r0 → ∃ r : Root, S[i]? = some (some r) ∧ r0.v = r.v ∧ r0.O = r.O ∧ r0.Z = r.Z) := by
  let nr : Root → Root := fun r => ⟨r.d, (norm (r.d, r.n)).2, r.v, r.O, r.Z⟩
  have hl : rs.length = vs.length := by have := sr.len; simpa using this
  have get : ∀ (i : Nat) (q : Root), ((rs.map fun r => some (nr r)) ++ List.replicate (N.length - rs.length) none)[i]? = some (some q) → ∃ r, rs[i]? = some r ∧ q = nr r := fun i q h => by
    by_cases hi : i < rs.length
    · rw [List.getElem?_append_left (by simpa using hi), List.getElem?_map] at h
      cases e : rs[i]? with
      | none => rw [e] at h; cases h
      | some x => rw [e] at h; cases h; exact ⟨x, rfl, rfl⟩
    · rw [List.getElem?_append_right (by simpa using hi), List.getElem?_replicate] at h
      split at h <;> cases h
  have back : ∀ (i : Nat) (r : Root), rs[i]? = some r → ((rs.map fun r => some (nr r)) ++ List.replicate (N.length - rs.length) none)[i]? = some (some (nr r)) := fun i r h => by
    have hi : i < rs.length := (List.getElem?_eq_some_iff.mp h).1
    rw [List.getElem?_append_left (by simpa using hi), List.getElem?_map, h]; rfl
  have up : ∀ {i : Nat} {r : Root}, rs[i]? = some r → (rs.map some)[i]? = some (some r) := fun {i r} h => by rw [List.getElem?_map, h]; rfl
  have ow : ∀ {i a}, OwnAt ((rs.map fun r => some (nr r)) ++ List.replicate (N.length - rs.length) none) i a → OwnAt (rs.map some) i a := fun {i a} ⟨q, e, w⟩ => by
    obtain ⟨r, h1, rfl⟩ := get i q e
    exact ⟨r, up h1, w⟩
  refine ⟨(rs.map fun r => some (nr r)) ++ List.replicate (N.length - rs.length) none, ⟨?_, fun i q e => ?_⟩, ⟨fun i q e => ?_, fun i j a h w => fr.sep i j a (ow h) (ow w), fun i a h j q e => ?_⟩, ?_, fun i q e => ?_, fun i r e => ⟨nr r, back i r e, rfl, rfl, rfl⟩⟩
  · unfold L2.start
    simp [hl]
  · obtain ⟨r, h1, rfl⟩ := get i q e
    obtain ⟨h2, h3⟩ := sr.rep i r (up h1)
    refine ⟨?_, norm_rep h3⟩
    unfold L2.start
    rw [List.getElem?_append_left (by simp; rw [← hl]; exact (List.getElem?_eq_some_iff.mp h1).1)]
    exact h2
  · obtain ⟨r, h1, rfl⟩ := get i q e
    exact fr.nd i r (up h1)
  · obtain ⟨r, h1, rfl⟩ := get j q e
    exact fr.zo i a (ow h) j r (up h1)
  · unfold envOf initI
    rw [List.map_append, List.map_replicate, List.map_map, List.map_map, List.length_map]
    congr 1
    apply List.map_congr_left
    intro r _
    show some (r.d, (norm (r.d, r.n)).2) = some (norm (r.d, r.n))
    rw [show norm (r.d, r.n) = ((norm (r.d, r.n)).1, (norm (r.d, r.n)).2) from rfl, norm_fst]
  · obtain ⟨r, h1, rfl⟩ := get i q e
    exact ⟨r, h1, rfl, rfl, rfl⟩
theorem roots_of : ∀ {ds : List D} {vs : List V} {Z : List Addr}, Reps K CA H 0 ds vs [] Z → ∃ rs : List Root, rs.map (fun r => (r.d, r.n)) = ds.map (fun d => (d, 0)) ∧ rs.map (·.v) = vs ∧ ∀ r ∈ rs, Rep K CA H r.n r.d r.v r.O r.Z ∧ r.O = [] ∧ ∀ a ∈ r.Z, a ∈ Z
  | [], vs, Z, r => by
    cases r
    exact ⟨[], rfl, rfl, by simp⟩
  | d :: ds, vs, Z, r => by
    obtain ⟨v, vs', Z1, Z2, rfl, r1, r2, rfl⟩ : ∃ v vs' Z1 Z2, vs = v :: vs' ∧ Rep K CA H 0 d v [] Z1 ∧ Reps K CA H 0 ds vs' [] Z2 ∧ Z = Z1 ++ Z2 := by
      generalize hO : ([] : List Addr) = O at r
      generalize hX : d :: ds = dd at r
      cases r with
      | nil => cases hX
      | cons r1 r2 =>
        cases hX
        obtain ⟨e1, e2⟩ := List.append_eq_nil_iff.mp hO.symm
        subst e1; subst e2
        exact ⟨_, _, _, _, rfl, r1, r2, rfl⟩
    obtain ⟨rs, h1, h2, h3⟩ := roots_of r2
    refine ⟨⟨d, 0, v, [], Z1⟩ :: rs, by rw [List.map_cons, List.map_cons, h1], by rw [List.map_cons, h2], fun r hr => ?_⟩
    rcases List.mem_cons.mp hr with rfl | hr
    · exact ⟨r1, rfl, fun a h => by simp [h]⟩
    · obtain ⟨a, b, c⟩ := h3 r hr
      exact ⟨a, b, fun x h => by simp [c x h]⟩
theorem spI_of_spF {P : Nat → Option Def} {G : Glo} {k n f : Nat} {vs : List V} {Q : VK} {E : XK} (h : spF K CA (run G P k) n f vs H Q E) : spI K CA (runI G P k) n [] f vs H Q E := by
  obtain ⟨hl, ds, Z, r, h⟩ := h
  obtain ⟨rs, h1, h2, h3⟩ := roots_of r
  have noown : ∀ i a, ¬ OwnAt (rs.map some) i a := fun i a ⟨q, e, w⟩ => by
    rw [(h3 q (List.mem_of_getElem? (get_some e))).2.1] at w
    simp at w
  have anyZ : ∀ a, Any (rs.map some) a → a ∈ Z := fun a ⟨i, q, e, w⟩ => by
    obtain ⟨_, e1, e2⟩ := h3 q (List.mem_of_getElem? (get_some e))
    rw [e1] at w
    exact e2 a (by simpa using w)
  refine ⟨hl, rs, ⟨by simp [← h2], fun i q e => ?_⟩, ⟨fun i q e => ?_, fun i j a h => absurd h (noown i a), fun i a h => absurd h (noown i a)⟩, ?_⟩
  · have g := get_some e
    refine ⟨?_, (h3 q (List.mem_of_getElem? g)).1⟩
    rw [← h2, List.map_map, List.getElem?_map, g]; rfl
  · rw [(h3 q (List.mem_of_getElem? (get_some e))).2.1]; simp
  · rw [h1]
    have h : Den K CA (fun cls dd _ H' => E cls dd H') (fun a => a ∈ Z) (plainO (runI G P k f (ds.map fun d => (d, 0)))) [] H Q := h
    have sm : ∀ {A' H'}, Step [] [] (rs.map some) H A' H' → Same H H' := fun {A' H'} s a o e => s.keep a o e fun ⟨i, _, q⟩ => noown i a q
    cases e2 : runI G P k f (ds.map fun d => (d, 0)) with
    | ok p ios =>
      rw [e2] at h
      intro A' v H' O Z' sr' fr' st' hm hi rp ho1 ho2 hnd hz hzo _
      cases hi
      exact h v H' O Z' ⟨sm st', rp, fun a q => (ho2 a q).elim (fun ⟨i, q⟩ => absurd q (noown i a)) id, hnd, fun a q => (hz a q).elim (fun q => .inr (anyZ a q)) .inl, hzo⟩
    | exc x ios =>
      rw [e2] at h
      intro A' H' cls dd sr' fr' st' hm hi ex
      cases hi
      exact h cls dd H' (sm st') ex
    | bad => rw [e2] at h; exact h.elim
end
structure Body (sc : Scope) (X : Cx) (nm : Nm) (G : Glo) (CA : Nat → Addr) (cf : Runs) (np : Nat → Option Nat) (bl : List Str) (W : WX) : Prop where
  cx : CtxOk X nm G CA cf np bl
  sc : ScOk sc X
  tk : TkM nm.m X W
  pas : PassesOwn (model X.prog X.w) X.A X.env X.xe
  kd : X.env.scope.kind = .function
  stk : X.stack = X.env :: X.outer
  frm : X.env.frame = some X.env.locals
  pas2 : ∀ hd : Option Value, PassesOwnAt (model X.prog X.w) (X.A.mark hd) X.A X.env X.xe
structure Tb where
  fn : Nat → Str
  gn : Nat → Str
  ex : Nat → Option ExI
  mt : Nat → Rc
  cold : Nat → Bool
  ix : Bool
  fl : List Cs
def Tb.nm (T : Tb) (m : Bool) (N : List Str) : Nm := ⟨N, T.fn, T.gn, T.ex, T.mt, m, T.cold, T.ix, T.fl⟩
def nioM (cold : Nat → Bool) (m : Bool) (nio : Nat → Option (Nat × List Nat)) (f : Nat) : Option (Nat × List Nat) := if (!cold f && m) = true then none else nio f
theorem nioM_ok {cold : Nat → Bool} {m : Bool} {nio : Nat → Option (Nat × List Nat)} {f n : Nat} {io : List Nat} (h : nioM cold m nio f = some (n, io)) : nio f = some (n, io) ∧ (m = true → cold f = true) := by
  unfold nioM at h
  split at h
  · cases h
  · rename_i q
    refine ⟨h, fun e => ?_⟩
    subst e
    cases c : cold f with
    | true => rfl
    | false => rw [c] at q; exact absurd rfl q
structure TbX (P : Program) (w : World) (K : PySem.W.Frag) (mg : Str → Option Value) (T : Tb) (G : Glo) (CA : Nat → Addr) : Prop where
  ex : ∀ base c i, T.ex c = some i → ExF P w K mg base (CA c) i
  exm : ∀ c c', (T.ex c).isSome = true → (T.ex c').isSome = true → PySem.W.exmOne K (.ref (CA c)) (.ref (CA c')) = some ((G.cm c).contains c')
  cmx : ∀ c, G.cm c ≠ [] → (T.ex c).isSome = true
  isx : T.ix = true → ∀ c, (T.ex c).isSome = true → IsX K G CA T.ex c
  cls : T.fl.isEmpty = false → ClsK K CA T.fl
section
variable {P : Program} {w : World} {K : PySem.W.Frag} {mg : Str → Option Value} {base : Heap} {T : Tb} {G : Glo} {CA : Nat → Addr} {Pr : Nat → Option Def} {np : Nat → Option Nat} {bl : List Str}
def gdI (mt : Rc) (ci : List (D × Nat) → OutI) : Prop := ∀ c m, mt = .me c m → ∀ ps, ci ps ≠ .bad → ∃ fs vs l r, ps = (.ins c fs vs, l) :: r ∧ m ∉ fs
def spJ (K : PySem.W.Frag) (CA : Nat → Addr) (ci : Nat → List (D × Nat) → OutI) (n : Nat) (io : List Nat) (f : Nat) : Rc → Sp
  | .mk c _ => spK K CA ⟨fun g ds => plainO (ci g (ds.map fun x => (x, 0))), ci, []⟩ n f c
  | _ => spI K CA ci n io f
def DefAt (P : Program) (w : World) (K : PySem.W.Frag) (mg : Str → Option Value) (base : Heap) (T : Tb) (CA : Nat → Addr) (ci : Nat → List (D × Nat) → OutI) (k f n : Nat) (io : List Nat) : Prop :=
  ∃ (a : Addr) (fd : FuncData) (ps : List Str), Reach K mg CA (T.fn f) a (T.mt f) ∧ PySem.W.keepIn K (.ref a) = true ∧ Binds K fd ps [] ∧ ps.length = npR n (T.mt f) ∧ gdI (T.mt f) (ci f) ∧ ∀ m, (m = true → T.cold f = true) → FnOk P w K mg base (CXm m P w) (kR (k + 2) (T.mt f)) a fd ps (spJ K CA ci n io f (T.mt f))
def FnsI (P : Program) (w : World) (K : PySem.W.Frag) (mg : Str → Option Value) (base : Heap) (T : Tb) (G : Glo) (CA : Nat → Addr) (Pr : Nat → Option Def) (nio : Nat → Option (Nat × List Nat)) (k : Nat) : Prop :=
  ∀ f n io, nio f = some (n, io) → DefAt P w K mg base T CA (runI G Pr k) k f n io
def DefOk (P : Program) (w : World) (K : PySem.W.Frag) (mg : Str → Option Value) (T : Tb) (G : Glo) (CA : Nat → Addr) (Pr : Nat → Option Def) (nio : Nat → Option (Nat × List Nat)) (f n : Nat) (io : List Nat) : Prop :=
  ∃ a : Addr, Reach K mg CA (T.fn f) a (T.mt f) ∧ PySem.W.keepIn K (.ref a) = true ∧ (∃ (fd : FuncData) (ps : List Str), Binds K fd ps [] ∧ ps.length = npR n (T.mt f)) ∧
    ∀ (base : Heap) (k : Nat), FnsI P w K mg base T G CA Pr nio k → gdI (T.mt f) (runI G Pr (k + 1) f) ∧ ∃ (fd : FuncData) (ps : List Str), Binds K fd ps [] ∧ ps.length = npR n (T.mt f) ∧ ∀ m, (m = true → T.cold f = true) → FnOk P w K mg base (CXm m P w) (kR (k + 3) (T.mt f)) a fd ps (spJ K CA (runI G Pr (k + 1)) n io f (T.mt f))
structure CtxI (X : Cx) (nm : Nm) (CA : Nat → Addr) (cf : Runs) (nio : Nat → Option (Nat × List Nat)) : Prop where
  lev : ∃ k, Room k X.A ∧ ∀ f n io, nio f = some (n, io) → ∃ (a : Addr) (fd : FuncData) (ps : List Str), Reach X.K X.mg CA (nm.fn f) a (nm.mt f) ∧ PySem.W.keepIn X.K (.ref a) = true ∧ Binds X.K fd ps [] ∧ ps.length = npR n (nm.mt f) ∧ gdI (nm.mt f) (cf.ci f) ∧ FnOk X.prog X.w X.K X.mg X.base (CXm nm.m X.prog X.w) (kR k (nm.mt f)) a fd ps (spJ X.K CA cf.ci n io f (nm.mt f))
theorem plain_bad {ci : List (D × Nat) → OutI} {ps : List (D × Nat)} (h : plainO (ci ps) ≠ .bad) : ci ps ≠ .bad := fun z => h (by rw [z]; rfl)
theorem fns_ok {nio : Nat → Option (Nat × List Nat)} (hd : ∀ f n io, nio f = some (n, io) → DefOk P w K mg T G CA Pr nio f n io) : ∀ k, FnsI P w K mg base T G CA Pr nio k
  | 0 => fun f n io e => by
    obtain ⟨a, h1, h2, ⟨fd, ps, h3, h4⟩, h5⟩ := hd f n io e
    have no : ∀ vs H Q E, ¬ spJ K CA (runI G Pr 0) n io f (T.mt f) vs H Q E := fun vs H Q E h => by
      cases hm : T.mt f with
      | fn => rw [hm] at h; obtain ⟨_, rs, _, _, h⟩ := h; exact h
      | me c m => rw [hm] at h; obtain ⟨_, rs, _, _, h⟩ := h; exact h
      | mk c fi =>
        rw [hm] at h
        obtain ⟨x, dx, vs1, H1, Q1, _, _, _, _, _, ⟨_, ds, Z, _, h⟩, _⟩ := h
        exact h
    exact ⟨a, fd, ps, h1, h2, h3, h4, fun c m _ ps h => absurd rfl h, fun m _ => ⟨fun vs H Q E h => absurd h (no _ _ _ _), fun A outer s H args us vs Q E _ _ _ _ h => absurd h (no _ _ _ _)⟩⟩
  | k + 1 => fun f n io e => by
    obtain ⟨a, h1, h2, _, h5⟩ := hd f n io e
    obtain ⟨g, fd, ps, h3, h4, h6⟩ := h5 base k (fns_ok hd k)
    exact ⟨a, fd, ps, h1, h2, h3, h4, g, h6⟩
theorem def_core (PB : Cx → List Stmt → TS → Prop) {m : Bool} {np : Nat → Option Nat} {nio' nio : Nat → Option (Nat × List Nat)} {f n : Nat} {io : List Nat} {a : Addr} {ps N : List Str} {qual : Str} {st : Stmt} {b : List S} (h4 : ps.length = n) (h5 : FnScope N ps (defScope st)) (rc : Rc) (hrc : ∀ c fi, rc ≠ .mk c fi) (h6 : Pr f = some ⟨n, N.length, b, io, rc⟩) (hio : ∀ i ∈ io, i < n)
    (hnp : ∀ f n, np f = some n → nio f = some (n, []) ∧ (m = true → T.cold f = true)) (hni : ∀ f n io, nio' f = some (n, io) → nio f = some (n, io) ∧ (m = true → T.cold f = true))
    (h7 : ∀ (X : Cx) (cf : Runs) (W : WX), Body (defScope st) X (T.nm m N) G CA cf np bl W → CtxI X (T.nm m N) CA cf nio' → cf.io = io → PB X (defBody st) (tB X G CA cf W [] b)) (tx : TbX P w K mg T G CA) (hb : ∀ x ∈ bl, mg x = none) (hg : ∀ g d, G.gv g = some d → ∃ u v, mg (T.gn g) = some u ∧ RelV v u ∧ ∀ H, Rep K CA H 9 d v [] []) :
    ∀ (base : Heap) (k : Nat), FnsI P w K mg base T G CA Pr nio k → ∀ (cdv : Value) (A : Around) (outer : List PySem.Env) (s : Shared) (H : Hp) (vs : List V) (Q : VK) (E : XK), Room (k + 2) (A.deeper (envOfC qual (defScope st) s.heap.objs.size a cdv)) → spI K CA (runI G Pr (k + 1)) n io f vs H Q E →
      ∃ t, PB (cxOf (CXm m P w) P w K mg base N qual (defScope st) a cdv A outer s H E) (defBody st) t ∧ t { nx := fun _ H' => Q .non H', rt := Q } (L2.start N vs) H := by
  intro base k ih cdv A outer s H vs Q E hr h
  obtain ⟨hl, rs, sr0, fr0, h⟩ := h
  have hrl : rs.length = n := by have := sr0.len; simp at this; rw [this, hl]
  have rec_ : ∀ (m' : Bool) (f n : Nat), nio f = some (n, []) → (m' = true → T.cold f = true) → FnRec m' (cxOf (CXm m P w) P w K mg base N qual (defScope st) a cdv A outer s H E) CA ((run G Pr k).wio io) (k + 2) (T.fn f) (T.mt f) f n := fun m' f n e c => by
    obtain ⟨a, fd, ps, q1, q2, q3, q4, qg, q5⟩ := ih f n [] e
    refine ⟨⟨a, fd, ps, q1, q2, q3, q4, ?_⟩, fun c m hm ds hb => ?_⟩
    · have q5 := q5 m' c
      cases hm : T.mt f with
      | fn => rw [hm] at q5; exact q5.imp fun vs H Q E h => spI_of_spF h
      | me c m => rw [hm] at q5; exact q5.imp fun vs H Q E h => spI_of_spF h
      | mk c fi => rw [hm] at q5; exact q5
    · obtain ⟨fs, us, l, r, e1, e2⟩ := qg c m hm (ds.map fun x => (x, 0)) (plain_bad hb)
      cases ds with
      | nil => cases e1
      | cons d ds =>
        simp only [List.map_cons, List.cons.injEq, Prod.mk.injEq] at e1
        exact ⟨fs, us, ds, by rw [e1.1.1], e2⟩
  refine ⟨tB (cxOf (CXm m P w) P w K mg base N qual (defScope st) a cdv A outer s H E) G CA ((run G Pr k).wio io) (fun cls d _ H => E cls d H) [] b, h7 _ ((run G Pr k).wio io) _ ⟨⟨rfl, h5.nd, rfl, ⟨k + 2, hr, fun f n e => rec_ m f n (hnp f n e).1 (hnp f n e).2, by omega, fun f n e c => rec_ true f n (hnp f n e).1 fun _ => c⟩, tx.ex base, tx.exm, tx.cmx, tx.isx, tx.cls, hb, hg⟩, ⟨fun x h => h, fun x h => ⟨h, rfl⟩, fun x h => .inl h, fun x h => h⟩, TkM.of, passes_of rfl, h5.kind, rfl, rfl, L2H.passesAt_of rfl⟩ ⟨k + 2, hr, fun f n io e => ?_⟩ rfl, ?_⟩
  · obtain ⟨a, fd, ps, q1, q2, q3, q4, qg, q5⟩ := ih f n io (hni f n io e).1
    exact ⟨a, fd, ps, q1, q2, q3, q4, qg, q5 m (hni f n io e).2⟩
  · obtain ⟨S, sr, fr, he, fw, bk⟩ := start_ok (N := N) sr0 fr0
    refine ⟨S, sr, fr, ?_⟩
    rw [he]
    cases hgd : gdB rc (rs.map fun r => (r.d, r.n)) with
    | false => rw [runI_no G Pr k f _ _ h6 hgd] at h; exact h.elim
    | true =>
    rw [runI_g G Pr k f _ _ h6 (by simpa using hrl) hrc hgd] at h
    have ow : ∀ {i a}, OwnAt S i a → OwnAt (rs.map some) i a := fun {i a} ⟨q, e, w⟩ => by
      obtain ⟨r, h1, _, h2, _⟩ := fw i q e
      exact ⟨r, by rw [List.getElem?_map, h1]; rfl, h2 ▸ w⟩
    have wo : ∀ {i a}, OwnAt (rs.map some) i a → OwnAt S i a := fun {i a} ⟨q, e, w⟩ => by
      obtain ⟨r, h1, _, h2, _⟩ := bk i q (get_some e)
      exact ⟨r, h1, h2 ▸ w⟩
    have an : ∀ {a}, Any S a → Any (rs.map some) a := fun {a} ⟨i, q, e, w⟩ => by
      obtain ⟨r, h1, _, h2, h3⟩ := fw i q e
      exact ⟨i, r, by rw [List.getElem?_map, h1]; rfl, by rw [h2, h3]; exact w⟩
    have mask : ∀ {S' : Slots} {σ' : St} {H' : Hp}, SRep K CA S' σ' H' → Fr S' → Step io [] S H S' H' → SRep K CA (maskS io n S') (vs.map some) H' ∧ Fr (maskS io n S') ∧ Step io [] (rs.map some) H (maskS io n S') H' ∧ (∀ (i : Nat) (r : Root), (maskS io n S')[i]? = some (some r) → i ∈ io) ∧ iosOf io (envOf (maskS io n S')) = iosOf io (envOf S') := fun {S' σ' H'} sr' fr' st' => by
      have sub : ∀ (i : Nat) (r : Root), (maskS io n S')[i]? = some (some r) → S'[i]? = some (some r) := fun i r e => (maskS_get e).2.2
      refine ⟨⟨by simp [maskS, hl], fun i r e => ?_⟩, fr'.sub sub, ⟨fun a o e hn => st'.keep a o e fun ⟨i, hi, q⟩ => hn ⟨i, hi, ow q⟩, st'.there, fun i a ⟨r, e, q⟩ => ?_, fun a q => (st'.any a (q.sub sub)).imp an id, fun i hi r e => ?_⟩, fun i r e => (maskS_get e).2.1, maskS_ios fun i hi => ⟨hio i hi, hi⟩⟩
      · obtain ⟨e1, e2, e3⟩ := maskS_get e
        refine ⟨?_, (sr'.rep i r e3).2⟩
        obtain ⟨r1, q1, q2⟩ := st'.pin i e2 r e3
        obtain ⟨r2, q3, q4, _⟩ := fw i r1 q1
        have := (sr0.rep i r2 (by rw [List.getElem?_map, q3]; rfl)).1
        rw [this, q4, q2]
      · rcases st'.own i a ⟨r, sub i r e, q⟩ with z | ⟨j, hj, z⟩ | z
        · exact .inl (ow z)
        · exact .inr (.inl ⟨j, hj, ow z⟩)
        · exact .inr (.inr z)
      · obtain ⟨r1, q1, q2⟩ := st'.pin i hi r (sub i r e)
        obtain ⟨r2, q3, q4, _⟩ := fw i r1 q1
        exact ⟨r2, by rw [List.getElem?_map, q3]; rfl, q4.trans q2⟩
    show DenS K CA _ io [] S H (exB G ((run G Pr k).wio io) [] (initI N.length (rs.map fun r => (r.d, r.n))) b) _
    cases e2 : exB G ((run G Pr k).wio io) [] (initI N.length (rs.map fun r => (r.d, r.n))) b with
    | nx ρ =>
      simp only [e2, outI] at h
      intro S' σ' H' sr' fr' st' he'
      obtain ⟨m1, m2, m3, m4, m5⟩ := mask sr' fr' st'
      subst he'
      cases e3 : iosOf io (envOf S') with
      | none => rw [e3] at h; exact h.elim
      | some l => rw [e3] at h; exact h _ .non H' [] [] m1 m2 m3 m4 (m5.trans e3) .non (by simp) (by simp) (by simp) (by simp) (by simp) fun _ => by simp [full, D.mdep]
    | rt p ρ =>
      simp only [e2, outI] at h
      intro S' σ' v H' O Z sr' fr' st' he' rp o1 o2 nd z1 z2
      obtain ⟨m1, m2, m3, m4, m5⟩ := mask sr' fr' st'
      subst he'
      by_cases hc : io = [] ∨ full p = true
      · rw [if_pos hc] at h
        cases e3 : iosOf io (envOf S') with
        | none => rw [e3] at h; exact h.elim
        | some l =>
          rw [e3] at h
          exact h _ v H' O Z m1 m2 m3 m4 (m5.trans e3) rp (fun a ha q => o1 a ha (q.sub fun i r e => (maskS_get e).2.2)) (fun a ha => (o2 a ha).imp (fun ⟨i, q⟩ => ⟨i, ow q⟩) id) nd (fun a ha => (z1 a ha).imp an id) z2 fun hne => hc.resolve_left hne
      · rw [if_neg hc] at h; exact h.elim
    | exc x ρ =>
      simp only [e2, outI] at h
      intro S' σ' H' cls dd sr' fr' st' he' ex
      obtain ⟨m1, m2, m3, m4, m5⟩ := mask sr' fr' st'
      subst he'
      cases e3 : iosOf io (envOf S') with
      | none => rw [e3] at h; exact h.elim
      | some l => rw [e3] at h; exact h _ H' cls dd m1 m2 m3 m4 (m5.trans e3) ex
    | bad => simp only [e2, outI] at h; exact h.elim
theorem okM {m : Bool} {x qual : Str} {st : Stmt} {f : Addr} {fd : FuncData} {N ps : List Str} {k : Nat} {sp : Sp} (F : Fun K x qual st f fd) (S : FnScope N ps (defScope st)) (len : ∀ vs H Q E, sp vs H Q E → vs.length = ps.length)
    (body : ∀ (cdv : Value) (A : Around) (outer : List PySem.Env) (s : Shared) (H : Hp) (vs : List V) (Q : VK) (E : XK), Room k (A.deeper (envOfC qual (defScope st) s.heap.objs.size f cdv)) → sp vs H Q E →
      ∃ t, PSs (cxOf (CXm m P w) P w K mg base N qual (defScope st) f cdv A outer s H E) (defBody st) t ∧ t { nx := fun _ H' => Q .non H', rt := Q } (L2.start N vs) H) : FnOk P w K mg base (CXm m P w) (k + 1) f fd ps sp := by
  obtain ⟨_, _, _, _, _, _, cdv, _, _, rfl, l1, l2⟩ := F.ex
  exact fn_of l1 l2 S len fun A outer s H vs Q E hr q => body cdv A outer s H vs Q E hr q
theorem gdB_me {c : Nat} {m : Cs} {ps : List (D × Nat)} (h : gdB (.me c m) ps = true) : ∃ fs vs l r, ps = (.ins c fs vs, l) :: r ∧ m ∉ fs := by
  cases ps with
  | nil => cases h
  | cons p r =>
    obtain ⟨d, l⟩ := p
    cases d <;> first | (cases h; done) | skip
    rename_i c' fs vs
    have h : (decide (c' = c) && !fs.contains m) = true := h
    simp only [Bool.and_eq_true, decide_eq_true_iff] at h
    obtain ⟨rfl, h2⟩ := h
    exact ⟨fs, vs, l, r, rfl, by simpa using h2⟩
theorem gd_run {f n nl : Nat} {b : List S} {io : List Nat} {rc : Rc} {k : Nat} (hmt : T.mt f = rc) (h6 : Pr f = some ⟨n, nl, b, io, rc⟩) : gdI (T.mt f) (runI G Pr (k + 1) f) := by
  intro c m hm ps hb
  rw [hmt] at hm
  subst hm
  cases hg : gdB (.me c m) ps with
  | false => exact absurd (runI_no G Pr k f ps _ h6 hg) hb
  | true => exact gdB_me hg
theorem def_fn {nio : Nat → Option (Nat × List Nat)} {f n : Nat} {io : List Nat} {a : Addr} {fd : FuncData} {ps N : List Str} {x qual : Str} {st : Stmt} {b : List S} (h1 : Reach K mg CA (T.fn f) a (T.mt f)) (h2 : Fun K x qual st a fd) (h3 : Binds K fd ps []) (h4 : ps.length = n) (h5 : FnScope N ps (defScope st)) (rc : Rc) (hrc : ∀ c fi, rc ≠ .mk c fi) (hmt : T.mt f = rc) (h6 : Pr f = some ⟨n, N.length, b, io, rc⟩) (hio : ∀ i ∈ io, i < n)
    (np : Bool → Nat → Option Nat) (hnp : ∀ m f n, np m f = some n → nio f = some (n, []) ∧ (m = true → T.cold f = true))
    (h7 : ∀ (m : Bool) (X : Cx) (cf : Runs) (W : WX), (m = true → T.cold f = true) → Body (defScope st) X (T.nm m N) G CA cf (np m) bl W → CtxI X (T.nm m N) CA cf (nioM T.cold m nio) → cf.io = io → PSs X (defBody st) (tB X G CA cf W [] b)) (tx : TbX P w K mg T G CA) (hb : ∀ x ∈ bl, mg x = none) (hg : ∀ g d, G.gv g = some d → ∃ u v, mg (T.gn g) = some u ∧ RelV v u ∧ ∀ H, Rep K CA H 9 d v [] []) :
    ∀ (base : Heap) (k : Nat), FnsI P w K mg base T G CA Pr nio k → ∀ m, (m = true → T.cold f = true) → FnOk P w K mg base (CXm m P w) (k + 3) a fd ps (spI K CA (runI G Pr (k + 1)) n io f) := by
  intro base k ih m hm
  exact okM h2 h5 (fun vs H Q E h => h.1.trans h4.symm) (def_core PSs h4 h5 rc hrc h6 hio (hnp m) (fun f n io => nioM_ok) (fun X cf W Y I e => h7 m X cf W hm Y I e) tx hb hg base k ih)
theorem def_ok {nio : Nat → Option (Nat × List Nat)} {f n : Nat} {io : List Nat} {a : Addr} {fd : FuncData} {ps N : List Str} {x qual : Str} {st : Stmt} {b : List S} (h1 : Reach K mg CA (T.fn f) a (T.mt f)) (h2 : Fun K x qual st a fd) (h3 : Binds K fd ps []) (h4 : ps.length = n) (h5 : FnScope N ps (defScope st)) (rc : Rc) (hrc : ∀ c fi, rc ≠ .mk c fi) (hmt : T.mt f = rc) (h6 : Pr f = some ⟨n, N.length, b, io, rc⟩) (hio : ∀ i ∈ io, i < n)
    (np : Bool → Nat → Option Nat) (hnp : ∀ m f n, np m f = some n → nio f = some (n, []) ∧ (m = true → T.cold f = true))
    (h7 : ∀ (m : Bool) (X : Cx) (cf : Runs) (W : WX), (m = true → T.cold f = true) → Body (defScope st) X (T.nm m N) G CA cf (np m) bl W → CtxI X (T.nm m N) CA cf (nioM T.cold m nio) → cf.io = io → PSs X (defBody st) (tB X G CA cf W [] b)) (tx : TbX P w K mg T G CA) (hb : ∀ x ∈ bl, mg x = none) (hg : ∀ g d, G.gv g = some d → ∃ u v, mg (T.gn g) = some u ∧ RelV v u ∧ ∀ H, Rep K CA H 9 d v [] []) :
    DefOk P w K mg T G CA Pr nio f n io := by
  have hn : npR n (T.mt f) = n := by rw [hmt]; cases rc with | fn => rfl | me c m => rfl | mk c fi => exact absurd rfl (hrc c fi)
  refine ⟨a, h1, h2.kp, ⟨fd, ps, h3, h4.trans hn.symm⟩, fun base k ih => ⟨gd_run hmt h6, fd, ps, h3, h4.trans hn.symm, fun m hm => ?_⟩⟩
  have := def_fn h1 h2 h3 h4 h5 rc hrc hmt h6 hio np hnp h7 tx hb hg base k ih m hm
  rw [hmt]
  cases rc with
  | fn => exact this
  | me c m => exact this
  | mk c fi => exact absurd rfl (hrc c fi)
end
end Vy

namespace Vy
open PySem PySem.Spec
open PyProof.Rows hiding St
open L2
section
variable {K : PySem.W.Frag} {CA : Nat → Addr}
def unpairV : List V → List (V × V)
  | k :: v :: r => (k, v) :: unpairV r
  | _ => []
theorem key_of {H : Hp} {n : Nat} {d : D} {v : V} {O Z : List Addr} {k : L2.Key} (r : Rep K CA H n d v O Z) (h : vKey d = some k) : v = kV k ∧ O = [] ∧ Z = [] ∧ ∀ s, d = .str s → Bd s := by
  cases d <;> first | (cases h; done) | skip
  · cases h; obtain ⟨e, h1, h2⟩ := r.int_inv; exact ⟨e, h1, h2, fun s z => by cases z⟩
  · cases h; obtain ⟨e, h1, h2, h3⟩ := r.str_inv; exact ⟨e, h1, h2, fun s z => by cases z; exact h3⟩
end
section
variable {X : Cx} {nm : Nm} {G : Glo} {CA : Nat → Addr} {cf : Runs} {W : WX}
inductive DP (X : Cx) (G : Glo) (CA : Nat → Addr) (cf : Runs) (W : WX) : List (Option Expr) → List Expr → List C → List (TE × TE) → Prop
  | nil : DP X G CA cf W [] [] [] []
  | cons {k v : Expr} {ck cv : C} {ks : List (Option Expr)} {vs : List Expr} {cs : List C} {trs : List (TE × TE)} : PE X k (tE X G CA cf W ck) → PE X v (tE X G CA cf W cv) → DP X G CA cf W ks vs cs trs → DP X G CA cf W (some k :: ks) (v :: vs) (ck :: cv :: cs) ((tE X G CA cf W ck, tE X G CA cf W cv) :: trs)
theorem dl_cons {c : C} {cs : List C} {σ : St} {H : Hp} {Q : List V → Hp → Prop} (h : tL X G CA cf W (c :: cs) σ H Q) : tE X G CA cf W c σ H fun v H1 => tL X G CA cf W cs σ H1 fun vs H2 => Q (v :: vs) H2 := by
  obtain ⟨S, sr, h⟩ := h
  rw [evs] at h
  refine ⟨S, sr, ?_⟩
  cases e1 : ev G cf (envOf S) c with
  | exc x => rw [e1] at h; exact h
  | bad => rw [e1] at h; exact h
  | ok p =>
    rw [e1] at h
    simp only [Out.bind_ok] at h
    intro v H1 O Z pv
    refine ⟨S, sr.same pv.same, ?_⟩
    cases e2 : evs G cf (envOf S) cs with
    | exc x => rw [e2] at h; exact fun cls dd H' s' r => h cls dd H' (pv.same.trans s') r
    | bad => rw [e2] at h; exact h
    | ok ps =>
      rw [e2] at h
      intro vs H2 O' Z' s2 pw
      refine h _ _ _ _ (pv.same.trans s2) (.cons ((pv.later s2).mono fun a => Nod.l) ((pw.ahead pv.same).mono fun a => Nod.r) (fun a ha hb => ?_) fun a ha hb => ?_)
      · exact pv.rep.there a hb (pw.fresh a ha)
      · rcases pw.zin a hb with z | z
        · exact pv.rep.there a (by simp [ha]) z
        · exact Nod.there sr z (pv.fresh a ha)
theorem tE.mono {c : C} {σ : St} {H : Hp} {Q Q' : VK} (w : ∀ v H, Q v H → Q' v H) (h : tE X G CA cf W c σ H Q) : tE X G CA cf W c σ H Q' := by
  obtain ⟨S, sr, h⟩ := h
  refine ⟨S, sr, ?_⟩
  cases e : ev G cf (envOf S) c with
  | ok p => rw [e] at h; exact fun v H1 O Z pv => w v H1 (h v H1 O Z pv)
  | exc x => rw [e] at h; exact h
  | bad => rw [e] at h; exact h
theorem DP.pairs {ks : List (Option Expr)} {vs : List Expr} {cs : List C} {trs : List (TE × TE)} (h : DP X G CA cf W ks vs cs trs) {σ : St} : ∀ {H : Hp} {Q : List (V × V) → Hp → Prop}, tL X G CA cf W cs σ H (fun us H2 => Q (unpairV us) H2) → tPairs trs σ H Q := by
  induction h with
  | nil => exact fun {H Q} ⟨S, sr, h⟩ => h [] H [] [] (Same.refl H) .nil
  | cons hk hv _ ih => exact fun {H Q} h => (dl_cons h).mono fun v H1 h1 => (dl_cons h1).mono fun w H2 h2 => ih h2
end
end Vy

namespace Vy
open PySem PySem.Spec
open PyProof.Rows hiding St
open L2
structure En (sc : Scope) (X : Cx) (nm : Nm) (G : Glo) (CA : Nat → Addr) (cf : Runs) (np : Nat → Option Nat) (bl : List Str) (W : WX) : Prop where
  cx : CtxOk X nm G CA cf np bl
  so : ScOk sc X
  tk : TkM nm.m X W
def dbg (x : Str) : Bool := !(x == ("__debug__" : Str)) && !(x == ("__classdict__" : Str)) && !(x == ("__name__" : Str))
def visB (sc : Scope) (x : Str) : Bool := match sc.names.lookup x with
  | some .local => true
  | some .cell => true
  | some .free => true
  | _ => false
def locB (sc : Scope) (x : Str) : Bool := match sc.names.lookup x with
  | some .local => true
  | some .cell => true
  | _ => false
def gloB (sc : Scope) (x : Str) : Bool := match sc.names.lookup x with
  | some .globalImplicit => true
  | _ => false
def freB (sc : Scope) (x : Str) : Bool := match sc.names.lookup x with
  | some .cell => true
  | some .free => true
  | _ => false
section
variable {sc : Scope} {X : Cx} {nm : Nm} {G : Glo} {CA : Nat → Addr} {cf : Runs} {np : Nat → Option Nat} {bl : List Str} {W : WX} {L : List Nat}
theorem Body.en (B : Body sc X nm G CA cf np bl W) : En sc X nm G CA cf np bl W := ⟨B.cx, B.sc, B.tk⟩
theorem En.inn (B : En sc X nm G CA cf np bl W) {scope : Scope} {s : Shared} {H : Hp} {c : Addr} {cl : List (Str × Addr)} {fp : List Addr} : En scope (Cx.inn X scope s H c cl fp) nm G CA cf np bl W0 := ⟨B.cx.inn, ScOk.inn, tkM0⟩
theorem dbg_ok {x : Str} (h : dbg x = true) : (x == ("__debug__" : Str)) = false ∧ (x == ("__classdict__" : Str)) = false ∧ x ≠ "__name__" := by
  unfold dbg at h
  simp only [Bool.and_eq_true, Bool.not_eq_true'] at h
  exact ⟨h.1.1, h.1.2, fun e => by have := h.2; rw [e] at this; revert this; decide⟩
theorem En.vis (B : En sc X nm G CA cf np bl W) {x : Str} (h : visB sc x = true) : Vis X.env.scope x := by
  unfold visB at h
  split at h
  · rename_i e; exact .inl (B.so.loc x e)
  · rename_i e; exact .inr (.inl (B.so.cel x e).1)
  · rename_i e; rcases B.so.fre x e with z | z
    · exact .inr (.inr z)
    · exact .inr (.inl z)
  · cases h
theorem loc_or {x : Str} (h : locB sc x = true) : sc.names.lookup x = some .local ∨ sc.names.lookup x = some .cell := by
  unfold locB at h
  split at h
  · exact .inl (by assumption)
  · exact .inr (by assumption)
  · cases h
theorem En.gl (B : En sc X nm G CA cf np bl W) {x : Str} (h : gloB sc x = true) : Gl X x := by
  unfold gloB at h
  split at h
  · exact B.so.glo x (by assumption)
  · cases h
theorem x_var (B : En sc X nm G CA cf np bl W) (i : Nat) {x : Str} {pos : Pos} (hN : nm.N[i]? = some x) (h : visB sc x = true) (hd : dbg x = true) : PE X (.Name x pos) (tE X G CA cf W (.var i)) :=
  e_var (by rw [B.cx.N]; exact hN) (B.vis h) (dbg_ok hd).1 (dbg_ok hd).2.1
theorem x_glb (B : En sc X nm G CA cf np bl W) (g : Nat) {x : Str} {pos : Pos} (hx : x = nm.gn g) (h : gloB sc x = true) (hg : (G.gv g).isSome = true) (hd : dbg x = true) : PE X (.Name x pos) (tE X G CA cf W (.glb g)) :=
  e_glb B.cx hx (B.gl h) hg (dbg_ok hd).1
theorem x_cmp (B : En sc X nm G CA cf np bl W) (o : CO) {a b : C} {ea eb : Expr} {pos : Pos} (ha : PE X ea (tE X G CA cf W a)) (hb : PE X eb (tE X G CA cf W b)) (hm : behindInMarks o.op eb = false) : PE X (.Compare ea [o.op] [eb] pos) (tE X G CA cf W (.cmp o a b)) :=
  let ⟨_, hr, _⟩ := B.cx.lev; e_cmp hr ha hb hm
theorem y_cmp (B : En sc X nm G CA cf np bl W) (o : CO) {a b : C} {ea eb : Expr} {pos : Pos} (ha : PE X ea (tE X G CA cf W a)) (hb : PE X eb (tE X G CA cf W b)) (hm : behindInMarks o.op eb = false) : PT X (.Compare ea [o.op] [eb] pos) (tT X G CA cf W (.cmp o a b)) :=
  let ⟨_, hr, _⟩ := B.cx.lev; t_cmp hr ha hb hm
theorem y_chn (B : En sc X nm G CA cf np bl W) (o o' : CO) {a b c : C} {ea eb ec : Expr} {pos : Pos} (ha : PE X ea (tE X G CA cf W a)) (hb : PE X eb (tE X G CA cf W b)) (hc : PE X ec (tE X G CA cf W c)) (hm : lastMarks [o.op, o'.op] [eb, ec] = false) : PT X (.Compare ea [o.op, o'.op] [eb, ec] pos) (tT X G CA cf W (.chn o o' a b c)) :=
  let ⟨_, hr, _⟩ := B.cx.lev; t_chn hr ha hb hc hm
theorem x_sub (B : En sc X nm G CA cf np bl W) {a b : C} {ea eb : Expr} {pos : Pos} (ha : PE X ea (tE X G CA cf W a)) (hb : PE X eb (tE X G CA cf W b)) (hs : PlainIx eb) : PE X (.Subscript ea eb pos) (tE X G CA cf W (.sub a b)) :=
  let ⟨_, hr, _⟩ := B.cx.lev; e_sub hr ha hb hs
theorem x_cal (B : En sc X nm G CA cf np bl W) (f n : Nat) {x : Str} {cs : List C} {e : Expr} {es : List Expr} {p pos : Pos} (hf : np f = some n) (hx : x = nm.fn f) (hmt : nm.mt f = .fn) (hn : cs.length = n) (h : gloB sc x = true) (hd : dbg x = true) (hs : (e :: es).all noStar = true)
    (ha : PA X (e :: es) (tL X G CA cf W cs)) : PE X (.Call (.Name x p) (e :: es) [] pos) (tE X G CA cf W (.cal f cs)) := e_cal B.cx B.tk hf hx hmt hn (B.gl h) ha (dbg_ok hd).1 hs
theorem x_bif (B : En sc X nm G CA cf np bl W) (f : Bi) {x : Str} {cs : List C} {e : Expr} {es : List Expr} {p pos : Pos} (hf : biOk f = true) (hx : x = Str.ofString (biS f)) (hb : bl.contains x = true) (h : gloB sc x = true) (hd : dbg x = true) (hs : (e :: es).all noStar = true)
    (ha : PA X (e :: es) (tL X G CA cf W cs)) : PE X (.Call (.Name x p) (e :: es) [] pos) (tE X G CA cf W (.bif f cs)) := e_bif B.cx hf hx (by simpa using hb) (B.gl h) ha (dbg_ok hd).1 (dbg_ok hd).2.2 hs
theorem x_isi (B : En sc X nm G CA cf np bl W) (k : IK) {c : C} {e : Expr} {x : Str} {pp p2 pos : Pos} (hk : ikOk k = true) (hx : x = Str.ofString (ikS k)) (hb : bl.contains x = true) (hi : bl.contains ("isinstance" : Str) = true) (h : gloB sc x = true) (hg : gloB sc "isinstance" = true) (hs : noStar e = true) (hd : dbg x = true)
    (he : PE X e (tE X G CA cf W c)) : PE X (.Call (.Name "isinstance" pp) [e, .Name x p2] [] pos) (tE X G CA cf W (.isi c k)) := e_isi B.cx hk hx (by simpa using hb) (by simpa using hi) (B.gl h) (B.gl hg) he hs (dbg_ok hd).2.2 (dbg_ok hd).1
theorem a_c {c : C} {cs : List C} {e : Expr} {es : List Expr} (hs : noStar e = true) (ha : PE X e (tE X G CA cf W c)) (hr : PA X es (tL X G CA cf W cs)) : PA X (e :: es) (tL X G CA cf W (c :: cs)) := a_cons ha hr (star_cons hs)
theorem r_1 (B : En sc X nm G CA cf np bl W) {tg : Expr} {c : C} {e : Expr} {p pos : Pos} (hr : bl.contains ("range" : Str) = true) (hg : gloB sc "range" = true) (hs : noStar e = true) (h : PE X e (tE X G CA cf W c)) : PI X tg (.Call (.Name "range" p) [e] [] pos) (tI X G CA cf W (.rng [c])) := i_rng1 B.cx (by simpa using hr) (B.gl hg) h hs
def blkB (N : List Str) (sc scope : Scope) (own : List (Str × Nat)) : Bool :=
  (match scope.kind with | .function => true | _ => false) && scope.names.all (fun y => scope.names.lookup y.1 == some y.2) && own.all (fun p => N[p.2]? == some p.1) &&
  scope.names.all (fun y => !(y.2 == .free) || freB sc y.1) && scope.names.all (fun y => !(y.2 == .local || y.2 == .cell) || (own.map (·.1)).contains y.1 || !N.contains y.1)
theorem blk_ok (B : En sc X nm G CA cf np bl W) {scope : Scope} {own : List (Str × Nat)} (h : blkB nm.N sc scope own = true) : BlkOk X.N X.env.scope scope own := by
  unfold blkB at h
  simp only [Bool.and_eq_true] at h
  obtain ⟨⟨⟨⟨h1, h2⟩, h3⟩, h4⟩, h5⟩ := h
  refine ⟨?_, fun y hy => ?_, fun p hp => ?_, fun y hy e => ?_, fun y hy e => ?_⟩
  · cases e : scope.kind <;> rw [e] at h1 <;> first | rfl | cases h1
  · simpa using List.all_eq_true.mp h2 y hy
  · rw [B.cx.N]; simpa using List.all_eq_true.mp h3 p hp
  · have := List.all_eq_true.mp h4 y hy
    rw [e] at this
    have hf : freB sc y.1 = true := by simpa using this
    unfold freB at hf
    split at hf
    · rename_i z; exact .inl (B.so.cel y.1 z).1
    · rename_i z; exact (B.so.fre y.1 z).symm
    · cases hf
  · have := List.all_eq_true.mp h5 y hy
    have h0 : (y.2 == NameKind.local || y.2 == NameKind.cell) = true := by rcases e with e | e <;> rw [e] <;> rfl
    rw [h0] at this
    simp only [Bool.not_true, Bool.false_or, Bool.or_eq_true, Bool.not_eq_true'] at this
    rcases this with z | z
    · exact .inl (by simpa using z)
    · right; rw [B.cx.N]; intro w; rw [List.contains_iff_mem.mpr w] at z; cases z
theorem x_lc1 (B : En sc X nm G CA cf np bl W) (i : Nat) {x : Str} {it : C} {t : Option C} {e : C} {elt iter : Expr} {ifs : List Expr} {scope : Scope} {pos px : Pos} (hb : blkB nm.N sc scope [(x, i)] = true) (hx : nm.N[i]? = some x) (hl : locB scope x = true) (hs : noSet iter = true)
    (hi : PI X (.Name x px) iter (tI X G CA cf W it)) (ht : ∀ s H c cl fp, En scope (Cx.inn X scope s H c cl fp) nm G CA cf np bl W0 → PTs (Cx.inn X scope s H c cl fp) ifs (tTo (Cx.inn X scope s H c cl fp) G CA cf W0 t))
    (he : ∀ s H c cl fp, En scope (Cx.inn X scope s H c cl fp) nm G CA cf np bl W0 → PE (Cx.inn X scope s H c cl fp) elt (tE (Cx.inn X scope s H c cl fp) G CA cf W0 e)) :
    PE X (.ListComp elt [⟨.Name x px, iter, ifs, 0⟩] scope pos) (tE X G CA cf W (.lc it (.one i) t e)) :=
  e_lc B.cx hi (blk_ok B hb) rfl (fun l z => by cases z) tg_one (fun s H c cl fp => g_one (B.inn).so B.cx.nd (by show X.N[i]? = _; rw [B.cx.N]; exact hx) (loc_or hl)) (fun s H c cl fp => ht s H c cl fp B.inn) (fun s H c cl fp => he s H c cl fp B.inn) hs
theorem z_asg (B : En sc X nm G CA cf np bl W) (i : Nat) {x : Str} {c : C} {e : Expr} {p pos : Pos} (hx : nm.N[i]? = some x) (hl : locB sc x = true) (hc : noLc e = true) (he : PE X e (tE X G CA cf W c)) : PS X (.Assign [.Name x p] e pos) (tS X G CA cf W L (.asg i c)) :=
  s_asg B.so B.cx.nd (by rw [B.cx.N]; exact hx) (loc_or hl) he hc
theorem z_retv (B : En sc X nm G CA cf np bl W) (i : Nat) {x : Str} {p pos : Pos} (hx : nm.N[i]? = some x) (h : visB sc x = true) (hd : dbg x = true) : PS X (.Return (some (.Name x p)) pos) (tS X G CA cf W L (.retv i)) :=
  s_retv (by rw [B.cx.N]; exact hx) (B.vis h) (dbg_ok hd).1 (dbg_ok hd).2.1
theorem z_app (B : En sc X nm G CA cf np bl W) (i : Nat) {x : Str} {c : C} {e : Expr} {p apos cpos pos : Pos} (hx : nm.N[i]? = some x) (h : visB sc x = true) (hd : dbg x = true) (hs : noStar e = true) (hl : (apos.endLine == cpos.line) = true) (he : PE X e (tE X G CA cf W c)) :
    PS X (.Expr (.Call (.Attribute (.Name x p) "append" apos) [e] [] cpos) pos) (tS X G CA cf W L (.app i c)) := s_app (by rw [B.cx.N]; exact hx) (B.vis h) (dbg_ok hd).1 (dbg_ok hd).2.1 he hs hl
theorem z_for1 (B : En sc X nm G CA cf np bl W) (pas : PassesOwn (model X.prog X.w) X.A X.env X.xe) (i : Nat) {x : Str} {it : C} {iter : Expr} {b : List Stmt} {sa : List S} {px pos : Pos} (hx : nm.N[i]? = some x) (hl : locB sc x = true) (hs : noSet iter = true) (hi : PI X (.Name x px) iter (tI X G CA cf W it)) (ha : ∀ L, PSs X b (tB X G CA cf W L sa)) :
    PS X (.For (.Name x px) iter b [] pos) (tS X G CA cf W L (.for_ (.one i) it sa)) :=
  s_for pas B.cx.calm tg_one (fun j hj => by simp [Tg.is] at hj; subst hj; rw [B.cx.N]; exact (List.getElem?_eq_some_iff.mp hx).1) hi (g_one B.so B.cx.nd (by rw [B.cx.N]; exact hx) (loc_or hl)) ha hs
theorem TgNames.lt {sc : Scope} {N : List Str} {es : List Expr} {is : List Nat} (h : TgNames sc N es is) : ∀ i ∈ is, i < N.length := by
  induction h with
  | nil => simp
  | cons h1 _ _ ih =>
    intro j hj
    rcases List.mem_cons.mp hj with e | hj
    · rw [e]; exact (List.getElem?_eq_some_iff.mp h1).1
    · exact ih j hj
end
section
variable {P : Program} {w : World} {K : PySem.W.Frag} {mg : Str → Option Value} {base : Heap} {T : Tb} {G : Glo} {CA : Nat → Addr} {Pr : Nat → Option Def} {np : Nat → Option Nat} {bl : List Str}
def spLaw (K : PySem.W.Frag) : Sp := fun vs H Q _ => ∃ (a : Addr) (ns : List Int), vs = [.ref a] ∧ SqZ K H a (ns.map V.int) ∧ ns.length ≤ 63 ∧ ∀ H', Q (.bl true) H'
theorem law_ok {k j f : Nat} {a : Addr} {fd : FuncData} {ps : List Str} (F : FnOk P w K mg base (L2.CX P w) j a fd ps (spI K CA (runI G Pr k) 1 [] f)) (h : ∀ ns : List Int, ns.length ≤ 63 → ∃ n, run G Pr k f [.scr ns] = .ok (.bl true, n)) : FnOk P w K mg base (L2.CX P w) j a fd ps (spLaw K) :=
  F.imp fun vs H Q E ⟨a, ns, hv, hq, hl, q⟩ => by
    subst hv
    obtain ⟨n, e⟩ := h ns hl
    refine spI_of_spF ⟨rfl, [.scr ns], [], ?_, ?_⟩
    · have := Reps.cons (K := K) (CA := CA) (H := H) (n := 0) (.scr hq) .nil
      simpa using this
    · rw [e]
      intro v H' O Z pv
      rw [pv.rep.bl_inv.1]
      exact q H'
theorem sp_end {H : Hp} {a : Addr} {ns : List Int} (hl : ns.length ≤ 63) (hO : Only H) (hS : SqL K H a (ns.map V.int)) : spLaw K [.ref a] H (fun v _ => v = .bl true) fun _ _ _ => False := by
  refine ⟨a, ns, rfl, ?_, hl, fun _ => rfl⟩
  rcases hS with (e | ⟨o, e⟩) | e
  · rcases hO a with z | ⟨o, xs, z⟩
    · rw [z] at e; cases e
    · rw [z] at e; cases e
  · exact .inl ⟨o, e⟩
  · exact .inr fun H' => .inr e
theorem cx_end (H : Hp) (s : Shared) (e : Value) (s' : Shared) (h : L2.CX P w [] H s (fun _ _ _ => False) e s') : False := by
  obtain ⟨_, _, _, _, _, _, _, _, _, _, _, _, z⟩ := h
  exact z
end
end Vy

namespace Vy
open PySem PySem.Spec
open PyProof.Rows hiding St
open L2
section
variable {K : PySem.W.Frag} {CA : Nat → Addr} {H H' : Hp}
theorem ExRep.same {e : Exn} {cls : Value} {dd : Option Addr} (s : Same H H') (x : ExRep K CA e cls dd H) : ExRep K CA e cls dd H' :=
  ⟨x.1, x.2.imp id fun ⟨dx, ys, h1, h2, h3, h4⟩ => ⟨dx, ys, h1, s _ _ h2, h3, h4.same s⟩⟩
end
theorem evs_length {G : Glo} {cf : Runs} {ρ : Env} : ∀ (cs : List C) (ps : List (D × Nat)), evs G cf ρ cs = .ok ps → cs.length = ps.length
  | [], ps, h => by rw [evs] at h; cases h; rfl
  | c :: cs, ps, h => by
    rw [evs] at h
    obtain ⟨p, _, h⟩ := Out.bind_eq_ok h
    obtain ⟨qs, h2, h⟩ := Out.bind_eq_ok h
    cases h
    simp [evs_length cs qs h2]
section
variable {sc : Scope} {X : Cx} {nm : Nm} {G : Glo} {CA : Nat → Addr} {cf : Runs} {np : Nat → Option Nat} {bl : List Str} {W : WX} {L : List Nat}
theorem exf_dbg {P : Program} {w : World} {K : PySem.W.Frag} {mg : Str → Option Value} {base : Heap} {C : Addr} {i : ExI} (F : ExF P w K mg base C i) : (i.x == ("__debug__" : Str)) = false := by
  simpa using F.ne
theorem exf_r {C : Addr} {i : ExI} (F : ExF X.prog X.w X.K X.mg X.base C i) : Raises X (.ref C) := raises_own F.exC F.tyC
theorem z_rai0 (B : En sc X nm G CA cf np bl W) (c : Nat) {i : ExI} {x : Str} {cs : List C} {e : Expr} {es : List Expr} {p pos pos' : Pos} (hi : nm.ex c = some i) (hf : i.fs = []) (hx : x = i.x) (hg : gloB sc x = true) (hs : (e :: es).all noStar = true) (hn : cs.length ≤ 99)
    (ha : PA X (e :: es) (tL X G CA cf W cs)) : PS X (.Raise (some (.Call (.Name x p) (e :: es) [] pos)) none pos') (tS X G CA cf W L (.rai c [] cs)) := by
  subst hx
  have E := B.cx.ex c i hi
  rw [List.all_cons, Bool.and_eq_true] at hs
  refine PS.weak (raise_m B.cx.calm B.tk (mkN_0 PySem.F.excBase_ValueError (E.mk0 hf) E.gC E.kC (exf_r E) (B.gl hg) ha (exf_dbg E) (star_cons hs.1) (back_any hs.2))) fun D σ H ⟨S, sr, fr, h⟩ => ?_
  rw [exS] at h
  refine ⟨S, sr, ?_⟩
  cases e1 : evs G cf (envOf S) cs with
  | ok ps =>
    rw [e1] at h
    simp only [onE_ok] at h
    split at h
    · intro vs H' O Z s pv
      refine ⟨?_, h S σ H' _ none (sr.same s) fr (Step.same s) rfl ⟨rfl, .inl ⟨rfl, rfl, rfl⟩⟩⟩
      rw [← pv.length, ← evs_length cs ps e1, sizeLine_eq]; omega
    · exact h.elim
  | exc x => rw [e1] at h; exact fun cls dd H' s x => h S σ H' cls dd (sr.same s) fr (Step.same s) rfl x
  | bad => rw [e1] at h; exact h
end
end Vy

namespace Vy
open PySem PySem.Spec
open PyProof.Rows hiding St
open L2
section
variable {K : PySem.W.Frag} {CA : Nat → Addr} {H H' : Hp}
end
section
variable (K : PySem.W.Frag) (G : Glo) (CA : Nat → Addr) (on : Option Nat) (a : Addr) (cls : Value) (dd : Option Addr)
structure Su (e : Exn) (S : Slots) (σ : St) (H : Hp) : Prop where
  sr : SRep K CA S σ H
  ex : ExRep K CA e cls dd H
  nm : ∀ i, on = some i → σ[i]? = some (some (.ref a))
def tSu (W : WX) (J L : List Nat) (su : Sui) : TS := fun D σ H => ∃ e S, Su K CA on a cls dd e S σ H ∧ Fr S ∧ DenS K CA W J L S H (exSu G e J (envOf S) su) D
end
section
variable {K : PySem.W.Frag} {G : Glo} {CA : Nat → Addr} {on : Option Nat} {a : Addr} {cls : Value} {dd : Option Addr} {X : Cx} {σ : St} {H H' : Hp} {e : Exn} {S : Slots}
theorem Su.same (u : Su K CA on a cls dd e S σ H) (s : Same H H') : Su K CA on a cls dd e S σ H' := ⟨u.sr.same s, u.ex.same s, u.nm⟩
end
end Vy

namespace Vy
open PySem PySem.Spec
open PyProof.Rows hiding St
open L2
section
variable {K : PySem.W.Frag} {CA : Nat → Addr} {J L : List Nat} {S : Slots} {σ : St} {H : Hp} {i : Nat}
theorem set_none_get {j : Nat} {r : Root} (h : (S.set i none)[j]? = some (some r)) : j ≠ i ∧ S[j]? = some (some r) := by
  by_cases hj : i = j
  · subst hj
    by_cases hl : i < S.length
    · rw [List.getElem?_set_self hl] at h; cases h
    · rw [List.getElem?_eq_none (by simpa using hl)] at h; cases h
  · rw [List.getElem?_set_ne hj] at h; exact ⟨fun z => hj z.symm, h⟩
theorem SRep.gone0 (sr : SRep K CA S σ H) : SRep K CA (S.set i none) σ H := ⟨by rw [List.length_set]; exact sr.len, fun j r e => sr.rep j r (set_none_get e).2⟩
theorem SRep.goneV (sr : SRep K CA S σ H) (o : Option V) : SRep K CA (S.set i none) (σ.set i o) H := ⟨by rw [List.length_set, List.length_set]; exact sr.len, fun j r e => by
  obtain ⟨h1, h2⟩ := set_none_get e
  obtain ⟨h3, h4⟩ := sr.rep j r h2
  exact ⟨by rw [List.getElem?_set_ne (Ne.symm h1)]; exact h3, h4⟩⟩
theorem Fr.gone (f : Fr S) : Fr (S.set i none) := f.sub fun j r e => (set_none_get e).2
theorem step_gone : Step J L S H (S.set i none) H where
  keep := fun _ _ e _ => e
  there := fun _ h => h
  own := fun j a ⟨r, e, q⟩ => .inl ⟨r, (set_none_get e).2, q⟩
  any := fun a ⟨j, r, e, q⟩ => .inl ⟨j, r, (set_none_get e).2, q⟩
  pin := fun j _ r e => ⟨r, (set_none_get e).2, rfl⟩
theorem env_gone : envOf (S.set i none) = (envOf S).set i none := by unfold envOf; rw [List.map_set]; rfl
theorem gone_den {W W' : WX} {D D' : Ends} {o : OS} (hn : D'.nx = fun σ' H' => D.nx (σ'.set i none) H') (hr : D'.rt = D.rt) (hx : ∀ e ρ, o ≠ .exc e ρ) (h : DenS K CA W J L S H (goneS i o) D) : DenS K CA W' J L S H o D' := by
  cases o with
  | nx ρ =>
    intro S' σ' H' sr fr st he
    rw [hn]
    exact h (S'.set i none) (σ'.set i none) H' (sr.goneV _) fr.gone (st.trans step_gone) (by rw [env_gone, he])
  | rt p ρ =>
    intro S' σ' v H' O Z sr fr st he rp o1 o2 nd z1 z2
    rw [hr]
    exact h (S'.set i none) σ' v H' O Z sr.gone0 fr.gone (st.trans step_gone) (by rw [env_gone, he]) rp (fun a q w => o1 a q (w.sub fun j r e => (set_none_get e).2)) o2 nd z1 z2
  | exc e ρ => exact absurd rfl (hx e ρ)
  | bad => exact h
end
def Sui.calm : Sui → Bool
  | .rai .. => false
  | _ => true
theorem blkS_calm {G : Glo} {e : Exn} {J : List Nat} {c : Ce} : ∀ (l : List (Nat × Ce)) (ρ : Env) (x : Exn) (ρ' : Env), blkS G e J l c ρ ≠ .exc x ρ'
  | [], ρ, x, ρ' => by
    show osOf ((evC G e ρ c).map fun d => .rt (d, 9) ρ) ≠ _
    cases evC G e ρ c <;> (intro z; cases z)
  | (j, a) :: r, ρ, x, ρ' => by
    show osOf ((evC G e ρ a).map fun d => Vy.onJ J [j] (blkS G e J r c (setV ρ j (d, 9)))) ≠ _
    cases evC G e ρ a with
    | none => intro z; cases z
    | some d =>
      intro z
      have z : Vy.onJ J [j] (blkS G e J r c (setV ρ j (d, 9))) = .exc x ρ' := z
      rcases onJ_eq (J := J) (is := [j]) (o := blkS G e J r c (setV ρ j (d, 9))) with q | ⟨q, _⟩
      · rw [q] at z; cases z
      · rw [q] at z; exact blkS_calm r _ x ρ' z
theorem exSu_calm {G : Glo} {e : Exn} {J : List Nat} {ρ : Env} {su : Sui} (h : su.calm = true) : ∀ x ρ', exSu G e J ρ su ≠ .exc x ρ' := by
  intro x ρ'
  cases su with
  | ret c =>
    show osOf ((evC G e ρ c).map fun d => .rt (d, 9) ρ) ≠ _
    cases evC G e ρ c <;> (intro z; cases z)
  | asg i c =>
    show osOf ((evC G e ρ c).map fun d => Vy.onJ J [i] (.nx (setV ρ i (d, 9)))) ≠ _
    cases evC G e ρ c with
    | none => intro z; cases z
    | some d =>
      rcases onJ_eq (J := J) (is := [i]) (o := .nx (setV ρ i (d, 9))) with q | ⟨q, _⟩
      · intro z; have z : Vy.onJ J [i] (.nx (setV ρ i (d, 9))) = .exc x ρ' := z; rw [q] at z; cases z
      · intro z; have z : Vy.onJ J [i] (.nx (setV ρ i (d, 9))) = .exc x ρ' := z; rw [q] at z; cases z
  | rai => cases h
  | blk l c => exact blkS_calm l ρ x ρ'
theorem any_one (l : List Nat) (c : Nat) : (l.any fun x => [c].contains x) = l.contains c := by
  induction l with
  | nil => rfl
  | cons a r ih =>
    rw [List.any_cons, ih, List.contains_cons]
    congr 1
    simp [BEq.comm]
section
variable {sc : Scope} {X : Cx} {nm : Nm} {G : Glo} {CA : Nat → Addr} {cf : Runs} {np : Nat → Option Nat} {nio : Nat → Option (Nat × List Nat)} {bl : List Str} {W : WX} {L : List Nat}
theorem exm_of (B : CtxOk X nm G CA cf np bl) {e : Exn} {cls : Value} {dd : Option Addr} {H : Hp} {c : Nat} (x : ExRep X.K CA e cls dd H) (h : G.cm e.c ≠ []) (hc : (nm.ex c).isSome = true) : PySem.W.exmOne X.K cls (.ref (CA c)) = some ((G.cm e.c).contains c) := by
  rw [x.1]; exact B.exm e.c c (B.cmx _ h) hc
theorem den_calm {K : PySem.W.Frag} {J : List Nat} {S : Slots} {H : Hp} {W W' : WX} {D : Ends} {o : OS} (hx : ∀ e ρ, o ≠ .exc e ρ) (h : DenS K CA W J L S H o D) : DenS K CA W' J L S H o D := by
  cases o with
  | nx ρ => exact h
  | rt p ρ => exact h
  | exc e ρ => exact absurd rfl (hx e ρ)
  | bad => exact h
inductive HdsV (sc : Scope) (X : Cx) (nm : Nm) (G : Glo) (CA : Nat → Addr) (cf : Runs) (L : List Nat) : List ExceptHandler → List Hdl → Prop
  | nil : HdsV sc X nm G CA cf L [] []
  | cons (c : Nat) {ci : ExI} {x : Str} {su : Sui} {suite : List Stmt} {b₀ : Stmt} {npos pos' : Pos} {hds : List ExceptHandler} {l : List Hdl} (hc : nm.ex c = some ci) (hx : x = ci.x) (hg : gloB sc x = true) (hsc : su.calm = true)
    (hsu : ∀ (a : Addr) (oe : Obj) (cls : Value) (d : Option Addr) (pn : List (Addr × Obj)), Zc cls d oe → (∃ vs, oe.data = .fields vs) → PSs (X.suite a ((a, oe) :: pn)) (b₀ :: suite) (tSu X.K G CA none a cls d W0 cf.io L su)) (r : HdsV sc X nm G CA cf L hds l) :
    HdsV sc X nm G CA cf L (.ExceptHandler (some (.Name x npos)) none (b₀ :: suite) pos' :: hds) (⟨[c], none, su⟩ :: l)
def tsOf (X : Cx) (G : Glo) (CA : Nat → Addr) (cf : Runs) (L : List Nat) (h : Hdl) : Value × (Addr → Value → Option Addr → TS) := (.ref (CA (h.cs.headD 0)), fun a cls d => tSu X.K G CA none a cls d W0 cf.io L h.su)
theorem HdsV.ok (B : En sc X nm G CA cf np bl W) {hds : List ExceptHandler} {l : List Hdl} (h : HdsV sc X nm G CA cf L hds l) : L2.HdsOk X hds (l.map (tsOf X G CA cf L)) := by
  induction h with
  | nil => exact .nil
  | cons c hc hx hg hsc hsu r ih =>
    have E := B.cx.ex c _ hc
    subst hx
    exact .cons ⟨B.gl hg, exf_dbg E, .inl E.gC⟩ hsu ih
theorem HdsV.many (B : En sc X nm G CA cf np bl W) {S S1 : Slots} {σ1 : St} {H H1 : Hp} {e : Exn} {cls : Value} {dd : Option Addr} {D : Ends} (sr1 : SRep X.K CA S1 σ1 H1) (fr1 : Fr S1) (st1 : Step cf.io L S H S1 H1) (ex : ExRep X.K CA e cls dd H1) {hds : List ExceptHandler} {l : List Hdl} (k : HdsV sc X nm G CA cf L hds l)
    (h : DenS X.K CA W cf.io L S H (handle G cf.io e (envOf S1) l) D) : wMany X.K W D (l.map (tsOf X G CA cf L)) cls dd σ1 H1 := by
  induction k with
  | nil => exact h S1 σ1 H1 cls dd sr1 fr1 st1 rfl ex
  | cons c hc hx hg hsc hsu r ih =>
    unfold handle at h
    split at h
    · exact h.elim
    · rename_i hcm
      simp only [any_one] at h
      refine ⟨(G.cm e.c).contains c, exm_of (c := c) B.cx ex hcm (by rw [hc]; rfl), fun hb a ha => ?_, fun hb => ?_⟩
      · rw [if_pos hb] at h
        exact ⟨e, S1, ⟨sr1, ex, nofun⟩, fr1, den_calm (exSu_calm hsc) (h.step st1)⟩
      · rw [if_neg (by rw [hb]; decide)] at h
        exact ih h
variable {a : Addr} {oe : Obj} {pn : List (Addr × Obj)} {cls : Value} {dd : Option Addr} {on : Option Nat}
end
end Vy

namespace Vy
open PySem PySem.Spec
open PyProof.Rows hiding St
open L2
inductive NoneAll (mg : Str → Option Value) : List Str → Prop
  | nil : NoneAll mg []
  | cons {x : Str} {xs : List Str} : mg x = none → NoneAll mg xs → NoneAll mg (x :: xs)
theorem NoneAll.all {mg : Str → Option Value} {xs : List Str} (h : NoneAll mg xs) : ∀ x ∈ xs, mg x = none := by
  induction h with
  | nil => simp
  | cons h _ ih =>
    intro y hy
    rcases List.mem_cons.mp hy with e | hy
    · rw [e]; exact h
    · exact ih y hy
section
variable {sc : Scope} {X : Cx} {nm : Nm} {G : Glo} {CA : Nat → Addr} {cf : Runs} {np : Nat → Option Nat} {bl : List Str} {W : WX} {L : List Nat}
end
def lk {α : Type} : List (Nat × α) → Nat → Option α
  | [], _ => none
  | (k, v) :: r, f => match Nat.beq k f with
    | true => some v
    | false => lk r f
theorem lk_mem {α : Type} : ∀ {l : List (Nat × α)} {f : Nat} {v : α}, lk l f = some v → (f, v) ∈ l
  | [], f, v, h => by cases h
  | (k, v0) :: r, f, v, h => by
    rw [lk] at h
    cases e : Nat.beq k f with
    | true => rw [e] at h; cases h; rw [Nat.eq_of_beq_eq_true e]; simp
    | false => rw [e] at h; exact List.mem_cons_of_mem _ (lk_mem h)
inductive DefsOk (Q : Nat → Nat → List Nat → Prop) : List (Nat × (Nat × List Nat)) → Prop
  | nil : DefsOk Q []
  | cons {f n io r} : Q f n io → DefsOk Q r → DefsOk Q ((f, (n, io)) :: r)
theorem DefsOk.all {Q : Nat → Nat → List Nat → Prop} {l : List (Nat × (Nat × List Nat))} (h : DefsOk Q l) : ∀ f n io, lk l f = some (n, io) → Q f n io := by
  have : ∀ x ∈ l, Q x.1 x.2.1 x.2.2 := by
    induction h with
    | nil => simp
    | cons h _ ih =>
      intro x hx
      rcases List.mem_cons.mp hx with e | hx
      · rw [e]; exact h
      · exact ih x hx
  exact fun f n io e => this _ (lk_mem e)
inductive GlosOk (Q : Nat → D → Prop) : List (Nat × D) → Prop
  | nil : GlosOk Q []
  | cons {g d r} : Q g d → GlosOk Q r → GlosOk Q ((g, d) :: r)
theorem GlosOk.all {Q : Nat → D → Prop} {l : List (Nat × D)} (h : GlosOk Q l) : ∀ g d, lk l g = some d → Q g d := by
  have : ∀ x ∈ l, Q x.1 x.2 := by
    induction h with
    | nil => simp
    | cons h _ ih =>
      intro x hx
      rcases List.mem_cons.mp hx with e | hx
      · rw [e]; exact h
      · exact ih x hx
  exact fun g d e => this _ (lk_mem e)
def plainN (nio : Nat → Option (Nat × List Nat)) (f : Nat) : Option Nat := match nio f with
  | some (n, []) => some n
  | _ => none
theorem plainN_ok {nio : Nat → Option (Nat × List Nat)} (f n : Nat) (h : plainN nio f = some n) : nio f = some (n, []) := by
  unfold plainN at h
  split at h
  · cases h; assumption
  · cases h
end Vy

namespace Vy
open PySem PySem.Spec
open PyProof.Rows hiding St
open L2
def clsS (st : Stmt) (j : Nat) : Stmt := match st with
  | .ClassDef (body := b) .. => b.getD j (.Pass ⟨0, 0, 0, 0⟩)
  | _ => .Pass ⟨0, 0, 0, 0⟩
def caT (l : List (Nat × Addr)) (c : Nat) : Addr := (lk l c).getD 0
inductive AllP {α : Type} (P : α → Prop) : List α → Prop
  | nil : AllP P []
  | cons {a : α} {l : List α} : P a → AllP P l → AllP P (a :: l)
theorem AllP.all {α : Type} {P : α → Prop} {l : List α} (h : AllP P l) : ∀ a ∈ l, P a := by
  induction h with
  | nil => simp
  | cons h _ ih =>
    intro y hy
    rcases List.mem_cons.mp hy with e | hy
    · rw [e]; exact h
    · exact ih y hy
theorem lk_fst {α β : Type} : ∀ {l : List (Nat × α)} {l' : List (Nat × β)} {c : Nat}, l.map (·.1) = l'.map (·.1) → (lk l c).isSome = (lk l' c).isSome
  | [], [], _, _ => rfl
  | [], _ :: _, _, h => by simp at h
  | _ :: _, [], _, h => by simp at h
  | (k, v) :: r, (k', v') :: r', c, h => by
    simp only [List.map_cons, List.cons.injEq] at h
    obtain ⟨e, h⟩ := h
    subst e
    rw [lk, lk]
    cases Nat.beq k c with
    | true => rfl
    | false => exact lk_fst h
section
variable {P : Program} {w : World} {K : PySem.W.Frag} {mg : Str → Option Value} {h : Heap}
theorem exf0 {x : Str} {C : Addr} (X : K.In h) (GG : h.Ns mainGlobals mg) (aC : PySem.W.nsIn K mainGlobals x = some (some (.ref C))) (kC : PySem.W.keepIn K (.ref C) = true) (eC : PySem.W.subIn K (.ref C) (.type "BaseException") = some true) (tC : PySem.W.typeIn K (.ref C) = some (.type "type"))
    (qC : PySem.W.excIn K C [.type "ValueError", .type "Exception", .type "BaseException", .type "object"] "ValueError.__new__" = true) (ne : x ≠ "__debug__") (base : Heap) : ExF P w K mg base C ⟨x, []⟩ :=
  ⟨PySem.W.mg_of X GG aC, kC, eC, tC, ne, fun _ => qC, fun z => absurd rfl z⟩
theorem exm_mk {C D : Addr} {b : Bool} (eD : PySem.W.subIn K (.ref D) (.type "BaseException") = some true) (hD : PySem.W.hasDictIn K D = true) (tD : PySem.W.typeIn K (.ref D) = some (.type "type")) (s : PySem.W.subIn K (.ref C) (.ref D) = some b) : PySem.W.exmOne K (.ref C) (.ref D) = some b := PySem.W.exm_ref eD hD tD s
end
end Vy

namespace Vy
open PySem PySem.Spec
open PyProof.Rows hiding St
open L2
section
variable {X : Cx} {pins : List (Addr × Obj)} {σ : List (Option V)} {H : Hp} {s s2 : Shared} {i : Nat} {n : Str} {v : Option Value} {m : Str → Option Value}
end
section
variable {X : Cx} {x n : Str} {c : Value} {i : Nat} {body suite : List Stmt} {b₀ : Stmt} {np pos pos' : Pos} {tb : WX → TS} {ts : Addr → Value → Option Addr → TS} {Wout : WX}
end
end Vy

namespace Vy
open PySem PySem.Spec
open PyProof.Rows hiding St
open L2
section
variable {sc : Scope} {X : Cx} {nm : Nm} {G : Glo} {CA : Nat → Addr} {cf : Runs} {np : Nat → Option Nat} {bl : List Str} {W W' : WX} {J L : List Nat} {a : Addr} {pn : List (Addr × Obj)} {xe : Value → Shared → Prop} {cls : Value} {dd : Option Addr} {on : Option Nat}
end
end Vy

namespace Vy
open PySem PySem.Spec
open PyProof.Rows hiding St
open L2
def Nm.hot (nm : Nm) : Nm := { nm with m := true }
def coldN (nm : Nm) (np : Nat → Option Nat) (f : Nat) : Option Nat := if nm.cold f = true then np f else none
section
variable {K : PySem.W.Frag} {CA : Nat → Addr} {J L : List Nat} {S : Slots} {σ : St} {H : Hp} {i : Nat}
end
section
variable {sc : Scope} {X : Cx} {nm : Nm} {G : Glo} {CA : Nat → Addr} {cf : Runs} {np : Nat → Option Nat} {bl : List Str} {W : WX} {L : List Nat}
theorem CtxOk.hot (C : CtxOk X nm G CA cf np bl) : CtxOk X nm.hot G CA cf (coldN nm np) bl where
  N := C.N
  nd := C.nd
  calm := C.calm
  lev := by
    obtain ⟨k, h1, h2, h3, h4⟩ := C.lev
    have q : ∀ f n, coldN nm np f = some n → np f = some n ∧ nm.cold f = true := fun f n e => by
      unfold coldN at e
      split at e
      · exact ⟨e, by assumption⟩
      · cases e
    exact ⟨k, h1, fun f n e => h4 f n (q f n e).1 (q f n e).2, h3, fun f n e c => h4 f n (q f n e).1 c⟩
  ex := C.ex
  exm := C.exm
  cmx := C.cmx
  isx := C.isx
  cls := C.cls
  blt := C.blt
  glb := C.glb
end
end Vy

namespace PySem.W
open PySem PySem.Spec PySem.Calls PyProof.Rows
section
variable {prog : Program} {w : World} {A : Around} {E : Value → Shared → Prop} {s : Shared} {K : Frag} {x D : Addr} {ox : Obj} {od : Option Obj}
end
end PySem.W
namespace Vy
open PySem PySem.Spec
open PyProof.Rows hiding St
open L2
section
variable {sc : Scope} {X : Cx} {nm : Nm} {G : Glo} {CA : Nat → Addr} {cf : Runs} {np : Nat → Option Nat} {bl : List Str} {W : WX} {L : List Nat} {a : Addr} {oe : Obj} {pn : List (Addr × Obj)} {cls : Value} {dd : Option Addr}
end
end Vy

namespace L2
open PySem PySem.Spec PyProof.Rows
structure Cl where
  c : Value
  on : Option Nat
  ts : Addr → Value → Option Addr → TS
def goneE (i : Nat) (D : Ends) : Ends := { nx := fun σ' H' => D.nx (σ'.set i none) H', rt := D.rt, bk := fun σ' H' => D.bk (σ'.set i none) H', ct := fun σ' H' => D.ct (σ'.set i none) H' }
def wMix (K : PySem.W.Frag) (Wout : WX) (D : Ends) : List Cl → WX
  | [] => Wout
  | k :: r => fun cls d σ H => ∃ b, PySem.W.exmOne K cls k.c = some b ∧ (b = true → ∀ a, H a = none → match k.on with
      | none => k.ts a cls d D σ H
      | some i => k.ts a cls d (goneE i D) (σ.set i (some (.ref a))) H) ∧ (b = false → wMix K Wout D r cls d σ H)
inductive MixOk (X : Cx) : List ExceptHandler → List Cl → Prop
  | nil : MixOk X [] []
  | no {x : Str} {c : Value} {ts : Addr → Value → Option Addr → TS} {b₀ : Stmt} {suite : List Stmt} {np pos' : Pos} {hds : List ExceptHandler} {l : List Cl} (hc : Names X x c)
      (hsu : ∀ (a : Addr) (oe : Obj) (cls : Value) (d : Option Addr) (pn : List (Addr × Obj)), Zc cls d oe → (∃ vs, oe.data = .fields vs) → PSs (X.suite a ((a, oe) :: pn)) (b₀ :: suite) (ts a cls d)) (r : MixOk X hds l) :
      MixOk X (.ExceptHandler (some (.Name x np)) none (b₀ :: suite) pos' :: hds) (⟨c, none, ts⟩ :: l)
  | as {i : Nat} {x n : Str} {c : Value} {ts : Addr → Value → Option Addr → TS} {b₀ : Stmt} {suite : List Stmt} {np pos' : Pos} {hds : List ExceptHandler} {l : List Cl} (hi : X.N[i]? = some n) (hln : X.env.kindOf n = some .local) (hc : Names X x c)
      (hsu : ∀ (a : Addr) (oe : Obj) (cls : Value) (d : Option Addr) (pn : List (Addr × Obj)), Zc cls d oe → (∃ vs, oe.data = .fields vs) → PSs (X.suite a ((a, oe) :: pn)) (b₀ :: suite) (ts a cls d)) (r : MixOk X hds l) :
      MixOk X (.ExceptHandler (some (.Name x np)) (some n) (b₀ :: suite) pos' :: hds) (⟨c, some i, ts⟩ :: l)
section
variable {X : Cx} {body : List Stmt} {h₀ : ExceptHandler} {hds : List ExceptHandler} {l : List Cl} {pos : Pos} {tb : WX → TS} {Wout : WX}
end
end L2
namespace Vy
open PySem PySem.Spec
open PyProof.Rows hiding St
open L2
section
variable {sc : Scope} {X : Cx} {nm : Nm} {G : Glo} {CA : Nat → Addr} {cf : Runs} {np : Nat → Option Nat} {bl : List Str} {W : WX} {L : List Nat}
inductive HdsX (sc : Scope) (X : Cx) (nm : Nm) (G : Glo) (CA : Nat → Addr) (cf : Runs) (L : List Nat) : List ExceptHandler → List Hdl → Prop
  | nil : HdsX sc X nm G CA cf L [] []
  | no (c : Nat) {ci : ExI} {x : Str} {su : Sui} {suite : List Stmt} {b₀ : Stmt} {npos pos' : Pos} {hds : List ExceptHandler} {l : List Hdl} (hc : nm.ex c = some ci) (hx : x = ci.x) (hg : gloB sc x = true) (hsc : su.calm = true)
    (hsu : ∀ (a : Addr) (oe : Obj) (cls : Value) (d : Option Addr) (pn : List (Addr × Obj)), Zc cls d oe → (∃ vs, oe.data = .fields vs) → PSs (X.suite a ((a, oe) :: pn)) (b₀ :: suite) (tSu X.K G CA none a cls d W0 cf.io L su)) (r : HdsX sc X nm G CA cf L hds l) :
    HdsX sc X nm G CA cf L (.ExceptHandler (some (.Name x npos)) none (b₀ :: suite) pos' :: hds) (⟨[c], none, su⟩ :: l)
  | as (i c : Nat) {ci : ExI} {x n : Str} {su : Sui} {suite : List Stmt} {b₀ : Stmt} {npos pos' : Pos} {hds : List ExceptHandler} {l : List Hdl} (hi : nm.N[i]? = some n) (hl : sc.names.lookup n = some .local) (hc : nm.ex c = some ci) (hx : x = ci.x) (hg : gloB sc x = true) (hsc : su.calm = true)
    (hsu : ∀ (a : Addr) (oe : Obj) (cls : Value) (d : Option Addr) (pn : List (Addr × Obj)), Zc cls d oe → (∃ vs, oe.data = .fields vs) → PSs (X.suite a ((a, oe) :: pn)) (b₀ :: suite) (tSu X.K G CA (some i) a cls d W0 cf.io L su)) (r : HdsX sc X nm G CA cf L hds l) :
    HdsX sc X nm G CA cf L (.ExceptHandler (some (.Name x npos)) (some n) (b₀ :: suite) pos' :: hds) (⟨[c], some i, su⟩ :: l)
def clOf (X : Cx) (G : Glo) (CA : Nat → Addr) (cf : Runs) (L : List Nat) (h : Hdl) : Cl := ⟨.ref (CA (h.cs.headD 0)), h.nm, fun a cls d => tSu X.K G CA h.nm a cls d W0 cf.io L h.su⟩
theorem HdsX.ok (B : En sc X nm G CA cf np bl W) {hds : List ExceptHandler} {l : List Hdl} (h : HdsX sc X nm G CA cf L hds l) : L2.MixOk X hds (l.map (clOf X G CA cf L)) := by
  induction h with
  | nil => exact .nil
  | no c hc hx hg hsc hsu r ih =>
    have E := B.cx.ex c _ hc
    subst hx
    exact .no ⟨B.gl hg, exf_dbg E, .inl E.gC⟩ hsu ih
  | as i c hi hl hc hx hg hsc hsu r ih =>
    have E := B.cx.ex c _ hc
    subst hx
    exact .as (by rw [B.cx.N]; exact hi) (B.so.loc _ hl) ⟨B.gl hg, exf_dbg E, .inl E.gC⟩ hsu ih
theorem HdsX.many (B : En sc X nm G CA cf np bl W) {S S1 : Slots} {σ1 : St} {H H1 : Hp} {e : Exn} {cls : Value} {dd : Option Addr} {D : Ends} (sr1 : SRep X.K CA S1 σ1 H1) (fr1 : Fr S1) (st1 : Step cf.io L S H S1 H1) (hlen : S1.length = X.N.length) (ex : ExRep X.K CA e cls dd H1) {hds : List ExceptHandler} {l : List Hdl} (k : HdsX sc X nm G CA cf L hds l)
    (h : DenS X.K CA W cf.io L S H (handle G cf.io e (envOf S1) l) D) : wMix X.K W D (l.map (clOf X G CA cf L)) cls dd σ1 H1 := by
  induction k with
  | nil => exact h S1 σ1 H1 cls dd sr1 fr1 st1 rfl ex
  | no c hc hx hg hsc hsu r ih =>
    unfold handle at h
    split at h
    · exact h.elim
    · rename_i hcm
      simp only [any_one] at h
      refine ⟨(G.cm e.c).contains c, exm_of (c := c) B.cx ex hcm (by rw [hc]; rfl), fun hb a ha => ?_, fun hb => ?_⟩
      · rw [if_pos hb] at h
        exact ⟨e, S1, ⟨sr1, ex, nofun⟩, fr1, den_calm (exSu_calm hsc) (h.step st1)⟩
      · rw [if_neg (by rw [hb]; decide)] at h
        exact ih h
  | as i c hi hl hc hx hg hsc hsu r ih =>
    unfold handle at h
    split at h
    · exact h.elim
    · rename_i hcm
      simp only [any_one] at h
      refine ⟨(G.cm e.c).contains c, exm_of (c := c) B.cx ex hcm (by rw [hc]; rfl), fun hb a ha => ?_, fun hb => ?_⟩
      · rw [if_pos hb] at h
        split at h
        · exact h.elim
        · refine ⟨e, S1.set i none, ⟨sr1.goneV _, ex, fun j hj => ?_⟩, fr1.gone, ?_⟩
          · cases hj
            exact List.getElem?_set_self (by rw [← sr1.len, hlen, B.cx.N]; exact (List.getElem?_eq_some_iff.mp hi).1)
          · rw [env_gone]
            exact gone_den rfl rfl (exSu_calm hsc) (h.step (st1.trans step_gone))
      · rw [if_neg (by rw [hb]; decide)] at h
        exact ih h
variable {a : Addr} {oe : Obj} {pn : List (Addr × Obj)} {cls : Value} {dd : Option Addr} {on : Option Nat}
end
end Vy

namespace Vy
open PySem PySem.Spec
open PyProof.Rows hiding St
open L2
section
variable {K : PySem.W.Frag} {G : Glo} {CA : Nat → Addr} {on : Option Nat} {a : Addr} {cls : Value} {dd : Option Addr} {X : Cx} {nm : Nm} {sc : Scope} {cf : Runs} {np : Nat → Option Nat} {bl : List Str} {W : WX} {oe : Obj} {pn : List (Addr × Obj)} {xe : Value → Shared → Prop}
end
end Vy

namespace Vy
section
variable (G : Glo) (cf : Runs) (ρ : Env)
@[simp] theorem ev_cst (d : D) : ev G cf ρ (.cst d) = .ok (d, 9) := by rw [ev]
@[simp] theorem ev_var (i : Nat) : ev G cf ρ (.var i) = .of ((ρ[i]?).bind id |>.map fun p => (p.1, 0)) := by rw [ev]
@[simp] theorem ev_glb (g : Nat) : ev G cf ρ (.glb g) = .of ((G.gv g).map fun d => (d, 9)) := by rw [ev]
@[simp] theorem ev_bin (o : BO) (a b : C) : ev G cf ρ (.bin o a b) = (ev G cf ρ a).bind fun x => (ev G cf ρ b).bind fun y => .of (binD o x y) := by rw [ev]
@[simp] theorem ev_cmp (o : CO) (a b : C) : ev G cf ρ (.cmp o a b) = (ev G cf ρ a).bind fun x => (ev G cf ρ b).bind fun y => (Out.of (cmpD o x.1 y.1)).bind fun r => .ok (.bl r, 9) := by rw [ev]
@[simp] theorem ev_chn (o p : CO) (a b c : C) : ev G cf ρ (.chn o p a b c) = (ev G cf ρ a).bind fun x => (ev G cf ρ b).bind fun y => (Out.of (cmpD o x.1 y.1)).bind fun r => if r = true then (ev G cf ρ c).bind fun z => (Out.of (cmpD p y.1 z.1)).bind fun q => .ok (.bl q, 9) else .ok (.bl false, 9) := by rw [ev]
@[simp] theorem ev_not (a : C) : ev G cf ρ (.not a) = (ev G cf ρ a).bind fun x => (Out.of (truth x.1)).bind fun b => .ok (.bl (!b), 9) := by rw [ev]
@[simp] theorem ev_neg (a : C) : ev G cf ρ (.neg a) = (ev G cf ρ a).bind fun x => match x.1 with | .int i => .ok (.int (-i), 9) | _ => .bad := by rw [ev] <;> rfl
@[simp] theorem ev_and (a b : C) : ev G cf ρ (.and a b) = (ev G cf ρ a).bind fun x => (Out.of (truth x.1)).bind fun r => if r = true then ev G cf ρ b else .ok x := by rw [ev]
@[simp] theorem ev_or (a b : C) : ev G cf ρ (.or a b) = (ev G cf ρ a).bind fun x => (Out.of (truth x.1)).bind fun r => if r = true then .ok x else ev G cf ρ b := by rw [ev]
@[simp] theorem ev_ife (t a b : C) : ev G cf ρ (.ife t a b) = (ev G cf ρ t).bind fun x => (Out.of (truth x.1)).bind fun r => if r = true then ev G cf ρ a else ev G cf ρ b := by rw [ev]
@[simp] theorem ev_tup (es : List C) : ev G cf ρ (.tup es) = (evs G cf ρ es).bind fun ps => gd (ps.length ≤ SZ) (.ok (.tup (ps.map (·.1)), lvL ps)) := by rw [ev]
@[simp] theorem ev_lst (es : List C) : ev G cf ρ (.lst es) = (evs G cf ρ es).bind fun ps => gd (ps.length ≤ SZ) (.ok (.lst (ps.map (·.1)), lvL ps + 1)) := by rw [ev]
@[simp] theorem ev_dct (ks es : List C) : ev G cf ρ (.dct ks es) = (evs G cf ρ es).bind fun ps => .of (dispD ps) := by rw [ev]
@[simp] theorem ev_sub (a i : C) : ev G cf ρ (.sub a i) = (ev G cf ρ a).bind fun x => (ev G cf ρ i).bind fun y => .of (subD x.1 y.1) := by rw [ev]
@[simp] theorem ev_slc (a : C) (lo hi : Option C) : ev G cf ρ (.slc a lo hi) = (ev G cf ρ a).bind fun x => (evo G cf ρ lo).bind fun l => (evo G cf ρ hi).bind fun h => .of (slcD x.1 l h) := by rw [ev]
@[simp] theorem ev_rvl (a : C) : ev G cf ρ (.rvl a) = (ev G cf ρ a).bind fun x => .of ((lsqOf x.1).map fun xs => (.lst xs.reverse, lv1 xs.reverse)) := by rw [ev]
@[simp] theorem ev_cal (f : Nat) (es : List C) : ev G cf ρ (.cal f es) = (evs G cf ρ es).bind fun ps => cf f (ps.map (·.1)) := by rw [ev]
@[simp] theorem ev_bif (f : Bi) (es : List C) : ev G cf ρ (.bif f es) = (evs G cf ρ es).bind fun ps => .of (bifD f ps) := by rw [ev]
@[simp] theorem ev_mth (m : Me) (o : C) (es : List C) : ev G cf ρ (.mth m o es) = (ev G cf ρ o).bind fun x => gd (recvOk m x.1 = true) ((evs G cf ρ es).bind fun ps => .of (methD m x ps)) := by rw [ev]
@[simp] theorem ev_isi (a : C) (k : IK) : ev G cf ρ (.isi a k) = (ev G cf ρ a).bind fun x => gd (isiOk x.1 k = true) (.ok (.bl (isaD G.cm x.1 k), 9)) := by rw [ev]
@[simp] theorem ev_lc (it : C) (tg : Tg) (t : Option C) (e : C) : ev G cf ρ (.lc it tg t e) = (ev G cf ρ it).bind fun x => (Out.of (itemsOf x.1)).bind fun xs => (compL (turnF G cf ρ tg t e) xs).bind fun ps => .ok (.lst (ps.map (·.1)), lvL ps + 1) := by rw [ev] <;> rfl
@[simp] theorem ev_rng (es : List C) : ev G cf ρ (.rng es) = (evs G cf ρ es).bind fun ps => (rngD (ps.map (·.1))).bind fun xs => .ok (.lst xs, 9) := by rw [ev]
@[simp] theorem ev_enu (e : C) : ev G cf ρ (.enu e) = (ev G cf ρ e).bind fun x => .of ((lsqOf x.1).map fun xs => (.lst (enumD xs), x.2)) := by rw [ev]
@[simp] theorem evs_nil : evs G cf ρ [] = .ok [] := by rw [evs]
@[simp] theorem evs_cons (e : C) (es : List C) : evs G cf ρ (e :: es) = (ev G cf ρ e).bind fun x => (evs G cf ρ es).bind fun xs => .ok (x :: xs) := by rw [evs]
@[simp] theorem evo_none : evo G cf ρ none = .ok none := by rw [evo]
@[simp] theorem evo_some (e : C) : evo G cf ρ (some e) = (ev G cf ρ e).bind fun x => match x.1 with | .int i => .ok (some i) | _ => .bad := by rw [evo] <;> rfl
@[simp] theorem evt_none : evt G cf ρ none = .ok true := by rw [evt]
@[simp] theorem evt_some (e : C) : evt G cf ρ (some e) = (ev G cf ρ e).bind fun x => .of (truth x.1) := by rw [evt]
@[simp] theorem evB_eq (e : C) : evB G cf ρ e = (ev G cf ρ e).bind fun x => .of (truth x.1) := id rfl
variable (L : List Nat)
@[simp] theorem exB_nil : exB G cf L ρ [] = .nx ρ := by rw [exB]
def thenB (o : OS) (f : Env → OS) : OS := match o with | .nx ρ => f ρ | o => o
@[simp] theorem thenB_nx (f : Env → OS) : thenB (.nx ρ) f = f ρ := id rfl
@[simp] theorem thenB_rt (p : D × Nat) (f : Env → OS) : thenB (.rt p ρ) f = .rt p ρ := id rfl
@[simp] theorem thenB_exc (e : Exn) (f : Env → OS) : thenB (.exc e ρ) f = .exc e ρ := id rfl
@[simp] theorem thenB_bad (f : Env → OS) : thenB .bad f = .bad := id rfl
@[simp] theorem exB_cons' (s : S) (r : List S) : exB G cf L ρ (s :: r) = thenB (exS G cf L ρ s) fun ρ' => exB G cf L ρ' r := by rw [exB] <;> rfl
theorem exB_app : ∀ (a b : List S) (ρ : Env), exB G cf L ρ (a ++ b) = thenB (exB G cf L ρ a) fun ρ' => exB G cf L ρ' b
  | [], b, ρ => by simp
  | s :: r, b, ρ => by
    rw [List.cons_append, exB_cons', exB_cons']
    cases exS G cf L ρ s with
    | nx ρ' => simp only [thenB_nx]; rw [exB_app r b]
    | _ => rfl
@[simp] theorem exS_pass : exS G cf L ρ .pass = .nx ρ := by rw [exS]
@[simp] theorem exS_asg (i : Nat) (e : C) : exS G cf L ρ (.asg i e) = onE (ev G cf ρ e) ρ fun p => onJ cf.io [i] (.nx (bindV ρ i p (names e))) := by rw [exS]
@[simp] theorem exS_asgT (is : List Nat) (e : C) : exS G cf L ρ (.asgT is e) = onE (ev G cf ρ e) ρ fun p => onJ cf.io is (putS (if full p = true then ρ else frz ρ (names e)) (.tup is) p.1 .nx) := by rw [exS]
@[simp] theorem exS_exp (e : C) : exS G cf L ρ (.exp e) = onE (ev G cf ρ e) ρ fun _ => .nx ρ := by rw [exS]
@[simp] theorem exS_ret (e : C) : exS G cf L ρ (.ret e) = onE (ev G cf ρ e) ρ fun p => .rt p ρ := by rw [exS]
@[simp] theorem exS_retv (i : Nat) : exS G cf L ρ (.retv i) = match (ρ[i]?).bind id with | some p => .rt p (ρ.set i none) | none => .bad := by rw [exS] <;> rfl
@[simp] theorem exS_retN : exS G cf L ρ .retN = .rt (.non, 9) ρ := by rw [exS]
@[simp] theorem exS_ife (t : C) (a b : List S) : exS G cf L ρ (.ife t a b) = onE (evB G cf ρ t) ρ fun c => if c = true then exB G cf L ρ a else exB G cf L ρ b := by rw [exS]
@[simp] theorem exS_whl (n : Nat) (t : C) (b : List S) : exS G cf L ρ (.whl n t b) = whileL (fun ρ => evB G cf ρ t) (fun ρ => exB G cf L ρ b) n ρ := by rw [exS]
def forS (tg : Tg) (it : C) (b : List S) (p : D × Nat) : OS := match itemsOf p.1 with
  | none => .bad
  | some xs => onJ cf.io tg.is <| if full p = true then forL (fun ρ d => putS ρ tg d fun ρ => exB G cf L ρ b) xs ρ
    else forL (fun ρ d => putS ρ tg d fun ρ => exB G cf (names it ++ L) ρ b) xs (if mdepL xs = 0 then ρ else frz ρ (names it))
theorem exS_for (tg : Tg) (it : C) (b : List S) : exS G cf L ρ (.for_ tg it b) = onE (ev G cf ρ it) ρ (forS G cf ρ L tg it b) := by rw [exS] <;> rfl
@[simp] theorem exS_par (i j : Nat) (a b : C) : exS G cf L ρ (.par i j a b) = onE (evs G cf ρ [a, b]) ρ fun ps => onJ cf.io [i, j] (parD ρ i j ps (namesL [a, b])) := by rw [exS]
@[simp] theorem exS_app (i : Nat) (e : C) : exS G cf L ρ (.app i e) = match (ρ[i]?).bind id with
    | some (.lst _, _) => onE (ev G cf ρ e) ρ fun p => appD L ρ i p (names e)
    | _ => .bad := by rw [exS] <;> rfl
end
@[simp] theorem outS_nx (ρ : Env) : outS (.nx ρ) = .ok (.non, 9) := id rfl
@[simp] theorem outS_rt (p : D × Nat) (ρ : Env) : outS (.rt p ρ) = .ok p := id rfl
@[simp] theorem outS_exc (e : Exn) (ρ : Env) : outS (.exc e ρ) = .exc e := id rfl
@[simp] theorem outS_bad : outS .bad = .bad := id rfl
@[simp] theorem run_io (G : Glo) (P : Nat → Option Def) (k : Nat) : (run G P k).io = [] := id rfl
@[simp] theorem wio_io (R : Runs) (io : List Nat) : (R.wio io).io = io := id rfl
@[simp] theorem wio_pl (R : Runs) (io : List Nat) : (R.wio io).pl = R.pl := id rfl
@[simp] theorem wio_ci (R : Runs) (io : List Nat) : (R.wio io).ci = R.ci := id rfl
@[simp] theorem run_ci (G : Glo) (P : Nat → Option Def) (k : Nat) : (run G P k).ci = runI G P k := id rfl
@[simp] theorem onJ_nil (is : List Nat) (o : OS) : onJ [] is o = o := by simp [onJ, okJ]
@[simp] theorem go_true {α : Type} (x : Option α) : go True x = x := by simp [go]
@[simp] theorem go_false {α : Type} (x : Option α) : go False x = none := by simp [go]
@[simp] theorem gd_true {α : Type} (x : Out α) : gd True x = x := by simp [gd]
@[simp] theorem gd_false {α : Type} (x : Out α) : gd False x = .bad := by simp [gd]
@[simp] theorem truth_bl (b : Bool) : truth (.bl b) = some b := id rfl
@[simp] theorem truth_non : truth .non = some false := id rfl
@[simp] theorem truth_int (i : Int) : truth (.int i) = some (i != 0) := id rfl
@[simp] theorem truth_lst (xs : List D) : truth (.lst xs) = some (!xs.isEmpty) := id rfl
@[simp] theorem truth_tup (xs : List D) : truth (.tup xs) = some (!xs.isEmpty) := id rfl
@[simp] theorem norm_str (s : Cs) (n : Nat) : norm (.str s, n) = (.str s, 9) := by simp [norm, D.mdep]
@[simp] theorem norm_int (i : Int) (n : Nat) : norm (.int i, n) = (.int i, 9) := by simp [norm, D.mdep]
@[simp] theorem norm_bl (b : Bool) (n : Nat) : norm (.bl b, n) = (.bl b, 9) := by simp [norm, D.mdep]
@[simp] theorem norm_non (n : Nat) : norm (.non, n) = (.non, 9) := by simp [norm, D.mdep]
@[simp] theorem norm_scr (ns : List Int) (n : Nat) : norm (.scr ns, n) = (.scr ns, 9) := by simp [norm, D.mdep]
@[simp] theorem norm_lst (xs : List D) (n : Nat) : norm (.lst xs, n) = (.lst xs, n) := by simp [norm, D.mdep]
@[simp] theorem norm_dct (ks xs : List D) (n : Nat) : norm (.dct ks xs, n) = (.dct ks xs, n) := by simp [norm, D.mdep]
@[simp] theorem full_str (s : Cs) (n : Nat) : full (.str s, n) = true := by simp [full, D.mdep]
@[simp] theorem full_int (i : Int) (n : Nat) : full (.int i, n) = true := by simp [full, D.mdep]
@[simp] theorem full_bl (b : Bool) (n : Nat) : full (.bl b, n) = true := by simp [full, D.mdep]
@[simp] theorem full_non (n : Nat) : full (.non, n) = true := by simp [full, D.mdep]
@[simp] theorem full_scr (ns : List Int) (n : Nat) : full (.scr ns, n) = true := by simp [full, D.mdep]
theorem bind_full {ρ : Env} {i : Nat} {p : D × Nat} {ns : List Nat} (h : full p = true) : bindV ρ i p ns = setV ρ i p := by unfold bindV; rw [if_pos h]
@[simp] theorem bind_str (ρ : Env) (i : Nat) (s : Cs) (n : Nat) (ns : List Nat) : bindV ρ i (.str s, n) ns = ρ.set i (some (.str s, 9)) := by rw [bind_full (by simp)]; simp [setV]
@[simp] theorem bind_int (ρ : Env) (i : Nat) (s : Int) (n : Nat) (ns : List Nat) : bindV ρ i (.int s, n) ns = ρ.set i (some (.int s, 9)) := by rw [bind_full (by simp)]; simp [setV]
@[simp] theorem bind_bl (ρ : Env) (i : Nat) (s : Bool) (n : Nat) (ns : List Nat) : bindV ρ i (.bl s, n) ns = ρ.set i (some (.bl s, 9)) := by rw [bind_full (by simp)]; simp [setV]
@[simp] theorem bind_non (ρ : Env) (i : Nat) (n : Nat) (ns : List Nat) : bindV ρ i (.non, n) ns = ρ.set i (some (.non, 9)) := by rw [bind_full (by simp)]; simp [setV]
@[simp] theorem put_str (ρ : Env) (i : Nat) (s : Cs) : Tg.put ρ (.one i) (.str s) = .ok (ρ.set i (some (.str s, 9))) := by simp [Tg.put, setV]
@[simp] theorem put_int (ρ : Env) (i : Nat) (s : Int) : Tg.put ρ (.one i) (.int s) = .ok (ρ.set i (some (.int s, 9))) := by simp [Tg.put, setV]
@[simp] theorem initE_eq (nl : Nat) (ds : List D) : initE nl ds = ds.map (fun d => some (norm (d, 0))) ++ List.replicate (nl - ds.length) none := id rfl
@[simp] theorem add_int (i j : Int) (m n : Nat) : binD .add (.int i, m) (.int j, n) = some (.int (i + j), 9) := id rfl
@[simp] theorem sub_int (i j : Int) (m n : Nat) : binD .sub (.int i, m) (.int j, n) = some (.int (i - j), 9) := id rfl
theorem mul_int {i j : Int} {m n : Nat} (h : mulOk i j) : binD .mul (.int i, m) (.int j, n) = some (.int (i * j), 9) := go_pos h
theorem mod_int {i j : Int} {m n : Nat} (h : 0 < j) : binD .mod (.int i, m) (.int j, n) = some (.int (i % j), 9) := by
  show go (j ≠ 0) _ = _
  rw [go_pos (by omega), Int.fmod_eq_emod_of_nonneg _ (by omega)]
theorem fdv_int {i j : Int} {m n : Nat} (h : 0 < j) (h2 : j < 1073741824) : binD .fdv (.int i, m) (.int j, n) = some (.int (i / j), 9) := by
  show go (j ≠ 0 ∧ _) _ = _
  rw [go_pos (by omega), Int.fdiv_eq_ediv_of_nonneg _ (by omega)]
theorem add_str {s t : Cs} {m n : Nat} (h : s.length + t.length ≤ SZ) : binD .add (.str s, m) (.str t, n) = some (.str (s ++ t), 9) := go_pos h
@[simp] theorem lt_int (i j : Int) : cmpD .lt (.int i) (.int j) = some (decide (i < j)) := id rfl
@[simp] theorem le_int (i j : Int) : cmpD .le (.int i) (.int j) = some (decide (i ≤ j)) := id rfl
@[simp] theorem gt_int (i j : Int) : cmpD .gt (.int i) (.int j) = some (decide (j < i)) := id rfl
@[simp] theorem ge_int (i j : Int) : cmpD .ge (.int i) (.int j) = some (decide (j ≤ i)) := id rfl
@[simp] theorem eq_int (i j : Int) : cmpD .eq (.int i) (.int j) = some (i == j) := by simp [cmpD, eqOk, pyEq, D.dep]
@[simp] theorem ne_int (i j : Int) : cmpD .ne (.int i) (.int j) = some (!(i == j)) := by simp [cmpD, eqOk, pyEq, D.dep]
@[simp] theorem eq_str (i j : Cs) : cmpD .eq (.str i) (.str j) = some (i == j) := by simp [cmpD, eqOk, pyEq, D.dep]
@[simp] theorem ne_str (i j : Cs) : cmpD .ne (.str i) (.str j) = some (!(i == j)) := by simp [cmpD, eqOk, pyEq, D.dep]
@[simp] theorem eq_bl (i j : Bool) : cmpD .eq (.bl i) (.bl j) = some (i == j) := by simp [cmpD, eqOk, pyEq, D.dep]
@[simp] theorem ne_bl (i j : Bool) : cmpD .ne (.bl i) (.bl j) = some (!(i == j)) := by simp [cmpD, eqOk, pyEq, D.dep]
@[simp] theorem lt_str (i j : Cs) : cmpD .lt (.str i) (.str j) = some (decide (i < j)) := id rfl
@[simp] theorem le_str (i j : Cs) : cmpD .le (.str i) (.str j) = some (!decide (j < i)) := id rfl
@[simp] theorem len_scr (ns : List Int) (n : Nat) : bifD .len [(.scr ns, n)] = some (.int ns.length, 9) := id rfl
@[simp] theorem len_lst (ns : List D) (n : Nat) : bifD .len [(.lst ns, n)] = some (.int ns.length, 9) := id rfl
@[simp] theorem len_tup (ns : List D) (n : Nat) : bifD .len [(.tup ns, n)] = some (.int ns.length, 9) := id rfl
@[simp] theorem ord_str (c n : Nat) : bifD .ord [(.str [c], n)] = some (.int c, 9) := id rfl
theorem sub_scr {ns : List Int} {i : Int} (h0 : 0 ≤ i) (h : i < ns.length) : subD (.scr ns) (.int i) = some (.int (ns.getD i.toNat 0), 9) := by
  have : i.toNat < ns.length := by omega
  simp [subD, at?, ix, h0, h, this]
theorem sub_str {s : Cs} {i : Int} (hl : s.length ≤ SZ) (h0 : 0 ≤ i) (h : i < s.length) : subD (.str s) (.int i) = some (.str [s.getD i.toNat 0], 9) := by
  have : i.toNat < s.length := by omega
  simp [subD, at?, ix, h0, h, this, go, hl]
@[simp] theorem lt1 (a b : Nat) : (([a] : Cs) < [b]) ↔ a < b := by
  rw [List.cons_lt_cons_iff]
  simp
@[simp] theorem le1 (a b : Nat) : (([a] : Cs) ≤ [b]) ↔ a ≤ b := by
  rw [← List.not_lt, lt1]; omega
@[simp] theorem castBeq (a b : Nat) : (((a : Nat) : Int) == ((b : Nat) : Int)) = (a == b) := by
  rw [Bool.eq_iff_iff, beq_iff_eq, beq_iff_eq]
  omega
theorem compL_mp {α : Type} {f : D → Out (Option (D × Nat))} {g : α → D} {h : α → D × Nat} {l : List α} (hf : ∀ a ∈ l, f (g a) = .ok (some (h a))) (hl : l.length ≤ SZ) : compL f (l.map g) = .ok (l.map h) := by
  induction l with
  | nil => rfl
  | cons a l ih =>
    rw [List.map_cons, compL, hf a (by simp)]
    simp only
    rw [ih (fun b hb => hf b (by simp [hb])) (by simp at hl; omega)]
    simp only [Out.bind_ok, List.length_map]
    rw [gd_pos (by simpa using hl)]
    rfl
theorem strsOf_map (l : List Cs) : strsOf (l.map D.str) = some l := by
  induction l with
  | nil => rfl
  | cons s r ih => rw [List.map_cons, strsOf, ih]; rfl
theorem boolsOf_map (l : List Bool) : boolsOf (l.map D.bl) = some l := by
  induction l with
  | nil => rfl
  | cons s r ih => rw [List.map_cons, boolsOf, ih]; rfl
@[simp] theorem all_mp {α : Type} (p : α → Bool) (l : List α) (n : Nat) : bifD .all [(.lst (l.map fun a => D.bl (p a)), n)] = some (.bl (l.all p), 9) := by
  have : boolsOf (l.map fun a => D.bl (p a)) = some (l.map p) := by
    have := boolsOf_map (l.map p)
    rwa [List.map_map] at this
  simp only [bifD, this]
  simp
theorem joinL_nil : ∀ l : List Cs, TL.joinL [] l = l.flatten
  | [] => rfl
  | [p] => by simp [TL.joinL]
  | p :: q :: r => by
    show p ++ ([] ++ TL.joinL [] (q :: r)) = _
    rw [joinL_nil (q :: r)]; simp
theorem join_ok {s : Cs} {l : List Cs} {m n : Nat} (h : (l.map (·.length)).sum + l.length * s.length ≤ SZ) : methD .join (.str s, m) [(.lst (l.map D.str), n)] = some (.str (TL.joinL s l), 9) := by
  simp only [methD, seqOf, Option.bind_some, strsOf_map]
  rw [if_pos h]
theorem rng_nat {n : Nat} (h : n ≤ 1000000) : rngD [.int (n : Int)] = .ok ((List.range n).map fun (j : Nat) => D.int (j : Int)) := by
  simp only [rngD]
  rw [gd_pos (by omega)]
  simp [rangeD]
theorem flat1 {α β : Type} (f : α → β) (l : List α) : (l.map fun j => [f j]).flatten = l.map f := by
  induction l with
  | nil => rfl
  | cons a l ih => simp [ih]
theorem join1 {α : Type} (f : α → Nat) (l : List α) (m n : Nat) (h : l.length ≤ 1000000) : methD .join (.str [], m) [(.lst (l.map fun j => D.str [f j]), n)] = some (.str (l.map f), 9) := by
  have e := join_ok (s := []) (l := l.map fun j => [f j]) (m := m) (n := n) ?_
  · rw [List.map_map] at e
    rw [show (D.str ∘ fun j => [f j]) = fun j => D.str [f j] from rfl] at e
    rw [e, joinL_nil, flat1]
  · rw [List.map_map, show ((fun x : Cs => x.length) ∘ fun j => [f j]) = fun _ => 1 from rfl]
    rw [List.map_const', List.sum_replicate_nat]
    simp only [List.length_map, List.length_nil]
    unfold SZ
    omega
theorem sub_lst {xs : List D} {i : Int} {d : D} (h0 : 0 ≤ i) (h : xs[i.toNat]? = some d) : subD (.lst xs) (.int i) = some (d, 0) := by
  have hl : i.toNat < xs.length := (List.getElem?_eq_some_iff.mp h).1
  have : i < xs.length := by omega
  simp only [subD, at?, ix, h0, this, if_true, Option.bind_some, h, Option.map_some]
theorem sub_tup {xs : List D} {i : Int} {d : D} (h0 : 0 ≤ i) (h : xs[i.toNat]? = some d) : subD (.tup xs) (.int i) = some (d, 0) := by
  have hl : i.toNat < xs.length := (List.getElem?_eq_some_iff.mp h).1
  have : i < xs.length := by omega
  simp only [subD, at?, ix, h0, this, if_true, Option.bind_some, h, Option.map_some]
theorem eqOkL_strs (l : List Cs) : eqOkL (l.map D.str) = true := by
  induction l with
  | nil => rfl
  | cons s r ih => rw [List.map_cons, eqOkL, ih]; rfl
theorem any_strs (s : Cs) (l : List Cs) : (l.map D.str).any (fun y => pyEq y (.str s)) = l.contains s := by
  induction l with
  | nil => rfl
  | cons t r ih =>
    rw [List.map_cons, List.any_cons, ih, List.contains_cons]
    congr 1
    show (t == s) = (s == t)
    rw [Bool.eq_iff_iff, beq_iff_eq, beq_iff_eq]
    exact eq_comm
theorem in_strs (s : Cs) (l : List Cs) : cmpD .isin (.str s) (.lst (l.map D.str)) = some (l.contains s) := by
  simp only [cmpD, inD]
  rw [go_pos ⟨rfl, eqOkL_strs l, by rw [show (D.str s).dep = 0 from rfl]; omega⟩, any_strs]
@[simp] theorem mdepL_nil : mdepL [] = 0 := by rw [mdepL]
@[simp] theorem mdepL_cons (d : D) (r : List D) : mdepL (d :: r) = max d.mdep (mdepL r) := by rw [mdepL]
@[simp] theorem mdep_non : D.mdep .non = 0 := by rw [D.mdep] <;> simp
@[simp] theorem mdep_bl (b : Bool) : D.mdep (.bl b) = 0 := by rw [D.mdep] <;> simp
@[simp] theorem mdep_int (b : Int) : D.mdep (.int b) = 0 := by rw [D.mdep] <;> simp
@[simp] theorem mdep_str (b : Cs) : D.mdep (.str b) = 0 := by rw [D.mdep] <;> simp
@[simp] theorem mdep_scr (b : List Int) : D.mdep (.scr b) = 0 := by rw [D.mdep] <;> simp
@[simp] theorem mdep_tup (b : List D) : D.mdep (.tup b) = mdepL b := by rw [D.mdep]
@[simp] theorem mdep_lst (b : List D) : D.mdep (.lst b) = mdepL b + 1 := by rw [D.mdep]
@[simp] theorem mdep_dct (k b : List D) : D.mdep (.dct k b) = mdepL b + 1 := by rw [D.mdep]
@[simp] theorem lvL_nil : lvL [] = 9 := by rw [lvL]
@[simp] theorem lvL_cons (d : D) (n : Nat) (r : List (D × Nat)) : lvL ((d, n) :: r) = if d.mdep = 0 then lvL r else min n (lvL r) := by rw [lvL]
@[simp] theorem sub_tup0 (x : D) (r : List D) : subD (.tup (x :: r)) (.int 0) = some (x, 0) := sub_tup (by omega) rfl
@[simp] theorem sub_tup1 (x y : D) (r : List D) : subD (.tup (x :: y :: r)) (.int 1) = some (y, 0) := sub_tup (by omega) rfl
@[simp] theorem sub_tup2 (x y z : D) (r : List D) : subD (.tup (x :: y :: z :: r)) (.int 2) = some (z, 0) := sub_tup (by omega) rfl
@[simp] theorem sub_lst0 (x : D) (r : List D) : subD (.lst (x :: r)) (.int 0) = some (x, 0) := sub_lst (by omega) rfl
@[simp] theorem sub_lst1 (x y : D) (r : List D) : subD (.lst (x :: y :: r)) (.int 1) = some (y, 0) := sub_lst (by omega) rfl
@[simp] theorem sub_lst2 (x y z : D) (r : List D) : subD (.lst (x :: y :: z :: r)) (.int 2) = some (z, 0) := sub_lst (by omega) rfl
@[simp] theorem isiOk_str (s : Cs) (k : IK) (h : ikOk k = true) : isiOk (.str s) k = true := by cases k <;> first | rfl | cases h
@[simp] theorem isiOk_bl (s : Bool) (k : IK) (h : ikOk k = true) : isiOk (.bl s) k = true := by cases k <;> first | rfl | cases h
@[simp] theorem isiOk_int (s : Int) (k : IK) (h : ikOk k = true) : isiOk (.int s) k = true := by cases k <;> first | rfl | cases h
@[simp] theorem isiOk_non (k : IK) (h : ikOk k = true) : isiOk .non k = true := by cases k <;> first | rfl | cases h
@[simp] theorem isiOk_tup (s : List D) (k : IK) (h : ikOk k = true) : isiOk (.tup s) k = true := by cases k <;> first | rfl | cases h
@[simp] theorem isiOk_lst (s : List D) (k : IK) (h : ikOk k = true) : isiOk (.lst s) k = true := by cases k <;> first | rfl | cases h
@[simp] theorem isiOk_dct (s t : List D) (k : IK) (h : ikOk k = true) : isiOk (.dct s t) k = true := by cases k <;> first | rfl | cases h
@[simp] theorem ik_str : ikOk .str = true := id rfl
@[simp] theorem ik_int : ikOk .int = true := id rfl
@[simp] theorem ik_bool : ikOk .bool = true := id rfl
@[simp] theorem ik_tuple : ikOk .tuple = true := id rfl
@[simp] theorem ik_list : ikOk .list = true := id rfl
@[simp] theorem ik_dict : ikOk .dict = true := id rfl
section
variable (cm : Nat → List Nat)
@[simp] theorem isa_bl_bool (b : Bool) : isaD cm (.bl b) .bool = true := id rfl
@[simp] theorem isa_bl_int (b : Bool) : isaD cm (.bl b) .int = true := id rfl
@[simp] theorem isa_bl_str (b : Bool) : isaD cm (.bl b) .str = false := id rfl
@[simp] theorem isa_bl_tup (b : Bool) : isaD cm (.bl b) .tuple = false := id rfl
@[simp] theorem isa_bl_lst (b : Bool) : isaD cm (.bl b) .list = false := id rfl
@[simp] theorem isa_int_bool (b : Int) : isaD cm (.int b) .bool = false := id rfl
@[simp] theorem isa_int_int (b : Int) : isaD cm (.int b) .int = true := id rfl
@[simp] theorem isa_int_str (b : Int) : isaD cm (.int b) .str = false := id rfl
@[simp] theorem isa_int_tup (b : Int) : isaD cm (.int b) .tuple = false := id rfl
@[simp] theorem isa_str_bool (b : Cs) : isaD cm (.str b) .bool = false := id rfl
@[simp] theorem isa_str_int (b : Cs) : isaD cm (.str b) .int = false := id rfl
@[simp] theorem isa_str_str (b : Cs) : isaD cm (.str b) .str = true := id rfl
@[simp] theorem isa_str_tup (b : Cs) : isaD cm (.str b) .tuple = false := id rfl
@[simp] theorem isa_str_lst (b : Cs) : isaD cm (.str b) .list = false := id rfl
@[simp] theorem isa_lst_lst (b : List D) : isaD cm (.lst b) .list = true := id rfl
@[simp] theorem isa_lst_str (b : List D) : isaD cm (.lst b) .str = false := id rfl
@[simp] theorem isa_tup_str (b : List D) : isaD cm (.tup b) .str = false := id rfl
@[simp] theorem isa_tup_tup (b : List D) : isaD cm (.tup b) .tuple = true := id rfl
@[simp] theorem isa_tup_lst (b : List D) : isaD cm (.tup b) .list = false := id rfl
@[simp] theorem isa_non_str : isaD cm .non .str = false := id rfl
end
@[simp] theorem isnot_non (d : D) : cmpD .isnot d .non = (match d with | .hol => none | .non => some false | _ => some true) := by cases d <;> rfl
@[simp] theorem is_non (d : D) : cmpD .is_ d .non = (match d with | .hol => none | .non => some true | _ => some false) := by cases d <;> rfl
section
variable {α : Type}
theorem mdepL_map (f : α → D) (l : List α) (h : ∀ a, (f a).mdep = 0) : mdepL (l.map f) = 0 := by
  induction l with
  | nil => simp
  | cons a l ih => simp [ih, h]
theorem lvL_map (f : α → D) (n : Nat) (l : List α) (h : ∀ a, (f a).mdep = 0) : lvL (l.map fun a => (f a, n)) = 9 := by
  induction l with
  | nil => simp
  | cons a l ih => simp [ih, h]
@[simp] theorem mdepL_mapS (f : α → Cs) (l : List α) : mdepL (l.map fun a => D.str (f a)) = 0 := mdepL_map _ l fun _ => by simp
@[simp] theorem mdepL_mapI (f : α → Int) (l : List α) : mdepL (l.map fun a => D.int (f a)) = 0 := mdepL_map _ l fun _ => by simp
@[simp] theorem mdepL_mapB (f : α → Bool) (l : List α) : mdepL (l.map fun a => D.bl (f a)) = 0 := mdepL_map _ l fun _ => by simp
@[simp] theorem lvL_mapS (f : α → Cs) (n : Nat) (l : List α) : lvL (l.map fun a => (D.str (f a), n)) = 9 := lvL_map _ n l fun _ => by simp
@[simp] theorem lvL_mapI (f : α → Int) (n : Nat) (l : List α) : lvL (l.map fun a => (D.int (f a), n)) = 9 := lvL_map _ n l fun _ => by simp
@[simp] theorem lvL_mapB (f : α → Bool) (n : Nat) (l : List α) : lvL (l.map fun a => (D.bl (f a), n)) = 9 := lvL_map _ n l fun _ => by simp
end
end Vy

namespace Vy
open PySem PySem.Spec
open PyProof.Rows hiding St
open L2
section
variable {X : Cx} {nm : Nm} {G : Glo} {CA : Nat → Addr} {cf : Runs} {W : WX}
end
section
variable {X : Cx} {nm : Nm} {G : Glo} {CA : Nat → Addr} {cf : Runs} {W : WX} {L : List Nat}
end
end Vy

namespace Vy
open PySem PySem.Spec
open PyProof.Rows hiding St
open L2
section
variable {X : Cx}
end
section
variable {X : Cx} {nm : Nm} {G : Glo} {CA : Nat → Addr} {cf : Runs} {W : WX}
end
end Vy

namespace Vy
open PySem PySem.Spec
open PyProof.Rows hiding St
open L2
section
variable {X : Cx} {nm : Nm} {G : Glo} {CA : Nat → Addr} {cf : Runs} {W : WX}
theorem Reps.rev0 {K : PySem.W.Frag} {H : Hp} : ∀ {ds : List D} {vs : List V} {Z : List Addr}, Reps K CA H 0 ds vs [] Z → ∃ Z', Reps K CA H 0 ds.reverse vs.reverse [] Z' ∧ ∀ a ∈ Z', a ∈ Z
  | [], vs, Z, r => by cases r; exact ⟨[], .nil, by simp⟩
  | d :: ds, vs, Z, r => by
    obtain ⟨v, vs', Z1, Z2, rfl, r1, r2, rfl⟩ : ∃ v vs' Z1 Z2, vs = v :: vs' ∧ Rep K CA H 0 d v [] Z1 ∧ Reps K CA H 0 ds vs' [] Z2 ∧ Z = Z1 ++ Z2 := by
      generalize hO : ([] : List Addr) = O at r
      generalize hX : d :: ds = dd at r
      cases r with
      | nil => cases hX
      | cons r1 r2 =>
        cases hX
        obtain ⟨e1, e2⟩ := List.append_eq_nil_iff.mp hO.symm
        subst e1; subst e2
        exact ⟨_, _, _, _, rfl, r1, r2, rfl⟩
    obtain ⟨Z', r3, h3⟩ := Reps.rev0 r2
    have := r3.append (Reps.cons r1 .nil)
    rw [List.reverse_cons, List.reverse_cons]
    refine ⟨Z' ++ (Z1 ++ []), by simpa using this, fun a ha => ?_⟩
    simp at ha ⊢
    rcases ha with z | z
    · exact .inr (h3 a z)
    · exact .inl z
theorem e_rvl {c : C} {e : Expr} {k : Nat} {p1 p2 p3 pos : Pos} (he : PE X e (tE X G CA cf W c)) : PE X (.Subscript e (.Slice none none (some (.UnaryOp .USub (.Constant (.int 1) k p1) p2)) p3) pos) (tE X G CA cf W (.rvl c)) := by
  refine PE.weak (pe_revL he) fun σ H Q ⟨S, sr, h⟩ => ?_
  rw [ev] at h
  refine ⟨S, sr, Den.seq (Same.refl H) h fun p v H1 O Z e1 pv hd => ?_⟩
  obtain ⟨z, hz, hd⟩ := Den.ofv hd
  obtain ⟨d, n⟩ := p
  cases d <;> first | (cases hz; done) | skip
  · rename_i xs
    cases hz
    obtain ⟨a, vs, Z0, ea, h1, r, hz0⟩ := pv.lst_inv
    obtain ⟨Z', r2, h2⟩ := Reps.rev0 r
    refine ⟨a, vs, ea, .of h1, fun p hp => ?_⟩
    obtain ⟨O', Z'', pp⟩ := PVal.newList pv.same r2 (fun b hb => hz0 b (h2 b hb)) hp
    exact hd _ _ _ _ pp
  · rename_i ns
    cases hz
    obtain ⟨a, ea, h1, _⟩ := pv.rep.scr_inv
    refine ⟨a, _, ea, h1.l, fun p hp => ?_⟩
    have r : Reps X.K CA H1 0 (ns.map D.int) (ns.map V.int) [] [] := ints_reps ns
    obtain ⟨Z', r2, h2⟩ := Reps.rev0 r
    obtain ⟨O', Z'', pp⟩ := PVal.newList (M := Nod S (names (C.rvl c))) pv.same r2 (fun b hb => by have := h2 b hb; simp at this) hp
    exact hd _ _ _ _ pp
end
end Vy

namespace Vy
open PySem PySem.Spec
open PyProof.Rows hiding St
open L2
section
variable {X : Cx} {nm : Nm} {G : Glo} {CA : Nat → Addr} {cf : Runs} {W : WX}
end
end Vy

namespace Vy
open PySem PySem.Spec
open PyProof.Rows hiding St
open L2
section
variable {K : PySem.W.Frag} {CA : Nat → Addr} {H H3 : Hp} {n m : Nat} {d d' x : D} {v w : V} {O Z : List Addr}
inductive VA1 (H : Hp) : V → Rtp → V → Prop
  | fld {a C dx fvs f w} : H a = some (.ins C dx fvs) → fvs.lookup (mkS f) = some w → VA1 H (.ref a) (.fld f) w
  | lst {a vs i j w} : H a = some (.lst vs) → ix vs.length i = some j → vs[j]? = some w → VA1 H (.ref a) (.at (.int i)) w
  | dct {a kvs k κ w} : H a = some (.dK kvs) → vKey k = some κ → valV kvs κ = some w → VA1 H (.ref a) (.at k) w
theorem VA1.det {v w u : V} {q : Rtp} (h : VA1 H v q w) (k : VA1 H v q u) : w = u := by
  cases h with
  | fld h1 h2 => cases k with
    | fld k1 k2 => rw [h1] at k1; cases k1; rw [h2] at k2; cases k2; rfl
  | lst h1 h2 h3 => cases k with
    | lst k1 k2 k3 => rw [h1] at k1; cases k1; rw [h2] at k2; cases k2; rw [h3] at k3; cases k3; rfl
    | dct k1 k2 k3 => rw [h1] at k1; cases k1
  | dct h1 h2 h3 => cases k with
    | lst k1 k2 k3 => rw [h1] at k1; cases k1
    | dct k1 k2 k3 => rw [h1] at k1; cases k1; rw [h2] at k2; cases k2; rw [h3] at k3; cases k3; rfl
theorem VA1.keep {q : Rtp} {F : List Addr} {a : Addr} (h : VA1 H (.ref a) q w) (k : Keep F H H3) (n : a ∉ F) : VA1 H3 (.ref a) q w := by
  cases h with
  | fld h1 h2 => exact .fld (k _ _ h1 n) h2
  | lst h1 h2 h3 => exact .lst (k _ _ h1 n) h2 h3
  | dct h1 h2 h3 => exact .dct (k _ _ h1 n) h2 h3
inductive VAt (H : Hp) : V → List Rtp → V → Prop
  | nil {y : V} : VAt H y [] y
  | cons {y : V} {q : Rtp} {z : V} {rs : List Rtp} {u : V} : VA1 H y q z → VAt H z rs u → VAt H y (q :: rs) u
theorem VAt.det {u : V} : ∀ {rs : List Rtp} {v w : V}, VAt H v rs w → VAt H v rs u → w = u
  | [], _, _, .nil, .nil => rfl
  | _ :: _, _, _, .cons h1 h2, .cons k1 k2 => by
    have e := h1.det k1
    subst e
    exact h2.det k2
theorem Reps.set {ds : List D} {vs : List V} {j : Nat} {v : V} {A B A' B' O2 Z2 : List Addr} {d' : D} (hj : j < ds.length) (h0 : vs[j]? = some v) (h1 : Reps K CA H n (ds.take j) (vs.take j) A A') (h2 : Reps K CA H n (ds.drop (j + 1)) (vs.drop (j + 1)) B B') (h : Rep K CA H n d' v O2 Z2) :
    Reps K CA H n (ds.set j d') vs (A ++ O2 ++ B) (A' ++ Z2 ++ B') := by
  have e1 : ds.set j d' = ds.take j ++ d' :: ds.drop (j + 1) := List.set_eq_take_append_cons_drop.trans (if_pos hj)
  have hv : j < vs.length := (List.getElem?_eq_some_iff.mp h0).1
  have e2 : vs = vs.take j ++ v :: vs.drop (j + 1) := by
    have : v = vs[j] := by rw [List.getElem?_eq_getElem hv] at h0; exact (Option.some.inj h0).symm
    rw [this, ← List.drop_eq_getElem_cons hv, List.take_append_drop]
  rw [e1, e2]
  have := h1.append (.cons h h2)
  simpa [List.append_assoc] using this
theorem findIdx_lookup {f : Cs} : ∀ {fs : List Cs} {fvs : List (Str × V)} {j : Nat} {v : V}, fs.map mkS = fvs.map (·.1) → fs.findIdx? (· == f) = some j → (fvs.map (·.2))[j]? = some v → fvs.lookup (mkS f) = some v
  | [], [], j, v, _, h, _ => by simp at h
  | g :: fs, (x, w) :: fvs, j, v, hm, h, hv => by
    simp only [List.map_cons, List.cons.injEq] at hm
    obtain ⟨h1, h2⟩ := hm
    rw [List.findIdx?_cons] at h
    by_cases e : g = f
    · subst e
      simp at h; subst h
      simp at hv
      rw [List.lookup_cons, h1]; simp [hv]
    · have e' : (g == f) = false := by simpa using e
      rw [e'] at h
      simp at h
      obtain ⟨k, hk, rfl⟩ := h
      have := findIdx_lookup (v := v) h2 hk (by simpa using hv)
      rw [List.lookup_cons]
      have ne : (mkS f == x) = false := by
        rw [← h1, mkS_beq]
        simp; exact fun z => e z.symm
      rw [ne]; exact this
  | [], _ :: _, j, v, hm, h, _ => by simp at hm
  | _ :: _, [], j, v, hm, h, _ => by simp at hm
theorem findIdx_key {k : D} {κ : L2.Key} (hk : vKey k = some κ) : ∀ {ks : List D} {kvs : List (L2.Key × V)} {j : Nat} {v : V}, ks.map vKey = kvs.map (fun p => some p.1) → ks.findIdx? (fun x => pyEq x k) = some j → (kvs.map (·.2))[j]? = some v → valV kvs κ = some v
  | [], [], j, v, _, h, _ => by simp at h
  | g :: ks, (x, w) :: kvs, j, v, hm, h, hv => by
    simp only [List.map_cons, List.cons.injEq] at hm
    obtain ⟨h1, h2⟩ := hm
    have eq : pyEq g k = decide (x = κ) := by
      have hg : vKey g = some x := h1
      rw [Bool.eq_iff_iff, decide_eq_true_eq]
      cases g <;> first | (cases hg; done) | skip
      all_goals (cases k <;> first | (cases hk; done) | skip)
      all_goals (cases hg; cases hk; simp [pyEq])
      constructor
      · intro e; rw [e]
      · exact mkS_inj
    rw [List.findIdx?_cons] at h
    unfold valV
    by_cases e : x = κ
    · rw [eq, decide_eq_true e] at h
      simp at h; subst h
      simp at hv
      simp [e, hv]
    · rw [eq, decide_eq_false e] at h
      simp at h
      obtain ⟨i, hi, rfl⟩ := h
      have := findIdx_key hk (v := v) h2 hi (by simpa using hv)
      rw [List.find?_cons, show decide (x = κ) = false from decide_eq_false e]
      exact this
  | [], _ :: _, j, v, hm, h, _ => by simp at hm
  | _ :: _, [], j, v, hm, h, _ => by simp at hm
theorem Rep.kid {q : Rtp} {j : Nat} (r : Rep K CA H (n + 1) d v O Z) (hp : posP d q = some j) (hk : (kids d)[j]? = some d') : ∃ a A O1 B A' Z1 B' v1, v = .ref a ∧ O = a :: (A ++ O1 ++ B) ∧ Z = A' ++ Z1 ++ B' ∧ Rep K CA H n d' v1 O1 Z1 ∧ VA1 H v q v1 ∧
    ∀ d'' O2 Z2, Rep K CA H n d'' v1 O2 Z2 → Rep K CA H (n + 1) (setK d j d'') v (a :: (A ++ O2 ++ B)) (A' ++ Z2 ++ B') := by
  have hlt := (List.getElem?_eq_some_iff.mp hk).1
  cases d <;> first | (cases hk; done) | skip
  · rename_i xs
    cases q with
    | fld f => cases hp
    | «at» k =>
    cases k <;> first | (cases hp; done) | skip
    rename_i i
    cases r with
    | lstO e r =>
      obtain ⟨v1, A, B, A', B', O1, Z1, e1, q1, h1, h2, q2, q3⟩ := r.get j d' hk
      refine ⟨_, A, O1, B, A', Z1, B', v1, rfl, by rw [h1], h2, q1, .lst e (by rw [← r.length]; exact hp) e1, fun d'' O2 Z2 r2 => ?_⟩
      exact .lstO e (Reps.set hlt e1 q2 q3 r2)
  · rename_i ks xs
    cases q with
    | fld f => cases hp
    | «at» k =>
    obtain ⟨hs, hp⟩ := go_some (show go _ _ = some j from hp)
    obtain ⟨κ, hκ⟩ := Option.isSome_iff_exists.mp hs
    cases r with
    | dctO e ko r =>
      obtain ⟨v1, A, B, A', B', O1, Z1, e1, q1, h1, h2, q2, q3⟩ := r.get j d' hk
      refine ⟨_, A, O1, B, A', Z1, B', v1, rfl, by rw [h1], h2, q1, .dct e hκ (findIdx_key hκ ko.1 hp e1), fun d'' O2 Z2 r2 => ?_⟩
      exact .dctO e ko (Reps.set hlt e1 q2 q3 r2)
  · rename_i c fs xs
    cases q with
    | «at» k => cases hp
    | fld f =>
    obtain ⟨hs, hp⟩ := go_some (show go _ _ = some j from hp)
    cases r with
    | insO e ko r =>
      obtain ⟨v1, A, B, A', B', O1, Z1, e1, q1, h1, h2, q2, q3⟩ := r.get j d' hk
      refine ⟨_, A, O1, B, A', Z1, B', v1, rfl, by rw [h1], h2, q1, .fld e (findIdx_lookup ko hp e1), fun d'' O2 Z2 r2 => ?_⟩
      exact .insO e ko (Reps.set hlt e1 q2 q3 r2)
theorem getP_cons {p : D × Nat} {q : Rtp} {rs : List Rtp} {u : D × Nat} (h : getP p (q :: rs) = some u) : ∃ k j d', p.2 = k + 1 ∧ posP p.1 q = some j ∧ (kids p.1)[j]? = some d' ∧ getP (d', k) rs = some u := by
  obtain ⟨d, n⟩ := p
  cases n with
  | zero => cases h
  | succ k =>
    rw [getP] at h
    obtain ⟨j, h1, h⟩ := Option.bind_eq_some_iff.mp h
    obtain ⟨d', h2, h⟩ := Option.bind_eq_some_iff.mp h
    exact ⟨k, j, d', rfl, h1, h2, h⟩
theorem putP_cons {q : Rtp} {rs : List Rtp} {j : Nat} (h1 : posP d q = some j) (h2 : (kids d)[j]? = some d') : putP d (q :: rs) x = setK d j (putP d' rs x) := by
  rw [putP, h1]; simp only; rw [h2]
theorem posP_set {q : Rtp} {j k : Nat} (h : posP d q = some k) : posP (setK d j x) q = some k := by
  cases d <;> cases q <;> first | exact h | skip
  rename_i y
  cases y <;> first | exact h | skip
  show ix _ _ = _
  rw [List.length_set]; exact h
theorem kids_set {j : Nat} (h : (kids d)[j]? = some d') : (kids (setK d j x))[j]? = some x := by
  have hlt := (List.getElem?_eq_some_iff.mp h).1
  cases d <;> first | (cases h; done) | skip
  all_goals (show (List.set _ _ _)[j]? = _; exact List.getElem?_set_self hlt)
theorem getP_put {rs : List Rtp} : ∀ {d : D} {n : Nat} {u : D × Nat}, getP (d, n) rs = some u → getP (putP d rs x, n) rs = some (x, u.2) := by
  induction rs with
  | nil => intro d n u h; cases h; rfl
  | cons q rs ih =>
    intro d n u h
    obtain ⟨k, j, d', hn, h1, h2, h3⟩ := getP_cons h
    have hn : n = k + 1 := hn
    subst hn
    rw [putP_cons h1 h2, getP, posP_set h1]
    simp only [Option.bind_some]
    rw [kids_set h2]
    simp only [Option.bind_some]
    exact ih h3
theorem Rep.hole {rs : List Rtp} : ∀ {n : Nat} {d : D} {v : V} {O Z : List Addr} {u : D × Nat}, Rep K CA H n d v O Z → getP (d, n) rs = some u → ∃ v' O' Z' R Y, Rep K CA H n (putP d rs .hol) v R Y ∧ Rep K CA H u.2 u.1 v' O' Z' ∧ VAt H v rs v' ∧ O.Perm (R ++ O') ∧ (∀ a, a ∈ Z ↔ a ∈ Y ∨ a ∈ Z') := by
  induction rs with
  | nil =>
    intro n d v O Z u r h
    cases h
    exact ⟨v, O, Z, [], [], .hol, r, .nil, by simp, by simp⟩
  | cons q rs ih =>
    intro n d v O Z u r h
    obtain ⟨k, j, d', hn, h1, h2, h3⟩ := getP_cons h
    have hn : n = k + 1 := hn
    subst hn
    obtain ⟨a, A, O1, B, A', Z1, B', v1, rfl, rfl, rfl, r1, va, bk⟩ := r.kid h1 h2
    obtain ⟨v', O', Z', R, Y, r2, r3, at', pm, zz⟩ := ih r1 h3
    refine ⟨v', O', Z', a :: (A ++ R ++ B), A' ++ Y ++ B', ?_, r3, .cons va at', ?_, fun c => ?_⟩
    · rw [putP_cons h1 h2]; exact bk _ _ _ r2
    · refine List.Perm.cons a ?_
      have h5 : (A ++ O1 ++ B).Perm (A ++ (R ++ O') ++ B) := (pm.append_left A).append_right B
      refine h5.trans ?_
      have : (O' ++ B).Perm (B ++ O') := List.perm_append_comm
      have := (this.append_left R).append_left A
      simpa [List.append_assoc] using this
    · have := zz c
      simp only [List.mem_append, this]
      constructor
      · rintro ((h | h | h) | h) <;> simp [h]
      · rintro (((h | h) | h) | h) <;> simp [h]
theorem VAt.keepR {rs : List Rtp} : ∀ {n : Nat} {d : D} {v : V} {R Y : List Addr} {u : D × Nat} {w : V} {F : List Addr}, Rep K CA H n d v R Y → getP (d, n) rs = some u → VAt H v rs w → Keep F H H3 → (∀ a ∈ R, a ∉ F) → VAt H3 v rs w := by
  induction rs with
  | nil => intro n d v R Y u w F r h at' k hF; cases at'; exact .nil
  | cons q rs ih =>
    intro n d v R Y u w F r h at' k hF
    obtain ⟨i, j, d', hn, h1, h2, h3⟩ := getP_cons h
    have hn : n = i + 1 := hn
    subst hn
    obtain ⟨a, A, O1, B, A', Z1, B', v1, rfl, rfl, rfl, r1, va, bk⟩ := r.kid h1 h2
    cases at' with
    | cons a1 a2 =>
      have e := va.det a1
      subst e
      exact .cons (va.keep k (hF a (by simp))) (ih r1 h3 a2 k fun b hb => hF b (by simp [hb]))
theorem Rep.fill {rs : List Rtp} {v' : V} {O2 Z2 : List Addr} {m : Nat} : ∀ {n : Nat} {d : D} {v : V} {R Y : List Addr}, Rep K CA H n d v R Y → getP (d, n) rs = some (.hol, m) → VAt H v rs v' → Rep K CA H m x v' O2 Z2 → ∃ O Z, Rep K CA H n (putP d rs x) v O Z ∧ O.Perm (R ++ O2) ∧ (∀ a, a ∈ Z ↔ a ∈ Y ∨ a ∈ Z2) := by
  induction rs with
  | nil =>
    intro n d v R Y r h at' r2
    cases h; cases at'
    cases r
    exact ⟨O2, Z2, r2, by simp, by simp⟩
  | cons q rs ih =>
    intro n d v R Y r h at' r2
    obtain ⟨k, j, d', hn, h1, h2, h3⟩ := getP_cons h
    have hn : n = k + 1 := hn
    subst hn
    obtain ⟨a, A, O1, B, A', Z1, B', v1, rfl, rfl, rfl, r1, va, bk⟩ := r.kid h1 h2
    cases at' with
    | cons a1 a2 =>
      have e := va.det a1
      subst e
      obtain ⟨O, Z, r3, pm, zz⟩ := ih r1 h3 a2 r2
      refine ⟨a :: (A ++ O ++ B), A' ++ Z ++ B', ?_, ?_, fun c => ?_⟩
      · rw [putP_cons h1 h2]; exact bk _ _ _ r3
      · refine List.Perm.cons a ?_
        have h5 : (A ++ O ++ B).Perm (A ++ (O1 ++ O2) ++ B) := (pm.append_left A).append_right B
        refine h5.trans ?_
        have : (O2 ++ B).Perm (B ++ O2) := List.perm_append_comm
        have := (this.append_left O1).append_left A
        simpa [List.append_assoc] using this
      · have := zz c
        simp only [List.mem_append, this]
        constructor
        · rintro ((h | h | h) | h) <;> simp [h]
        · rintro (((h | h) | h) | h) <;> simp [h]
end
end Vy

namespace Vy
open PySem PySem.Spec
open PyProof.Rows hiding St
open L2
section
variable {K : PySem.W.Frag} {CA : Nat → Addr} {H H2 H3 : Hp} {d d' x : D} {v w : V} {O Z : List Addr}
theorem getP_append {rs rs' : List Rtp} : ∀ {p u : D × Nat}, getP p (rs ++ rs') = some u → ∃ q, getP p rs = some q ∧ getP q rs' = some u := by
  induction rs with
  | nil => intro p u h; exact ⟨p, rfl, h⟩
  | cons r rs ih =>
    intro p u h
    obtain ⟨k, j, d', h1, h2, h3, h4⟩ := getP_cons h
    obtain ⟨q, q1, q2⟩ := ih h4
    refine ⟨q, ?_, q2⟩
    obtain ⟨d, n⟩ := p
    have h1 : n = k + 1 := h1
    subst h1
    rw [getP, h2]; simp only [Option.bind_some]; rw [h3]; exact q1
theorem VAt.append {rs rs' : List Rtp} : ∀ {v w u : V}, VAt H v rs w → VAt H w rs' u → VAt H v (rs ++ rs') u := by
  induction rs with
  | nil => intro v w u h k; cases h; exact k
  | cons r rs ih => intro v w u h k; cases h with | cons h1 h2 => exact .cons h1 (ih h2 k)
theorem VA1.same {q : Rtp} (h : VA1 H v q w) (k : Same H H2) : VA1 H2 v q w := by
  cases h with
  | fld h1 h2 => exact .fld (k _ _ h1) h2
  | lst h1 h2 h3 => exact .lst (k _ _ h1) h2 h3
  | dct h1 h2 h3 => exact .dct (k _ _ h1) h2 h3
theorem VAt.same' {rs : List Rtp} (k : Same H H2) : ∀ {v w : V}, VAt H v rs w → VAt H2 v rs w := by
  induction rs with
  | nil => intro v w h; cases h; exact .nil
  | cons r rs ih => intro v w h; cases h with | cons h1 h2 => exact .cons (h1.same k) (ih h2)
theorem VAt.same {rs : List Rtp} {v w : V} (h : VAt H v rs w) (k : Same H H2) : VAt H2 v rs w := VAt.same' k h
theorem getP_level {rs : List Rtp} : ∀ {d : D} {n : Nat} {u : D × Nat}, getP (d, n) rs = some u → n = u.2 + rs.length ∧ ∀ m, getP (d, m + rs.length) rs = some (u.1, m) := by
  induction rs with
  | nil => intro d n u h; cases h; exact ⟨rfl, fun m => rfl⟩
  | cons r rs ih =>
    intro d n u h
    obtain ⟨k, j, d', h1, h2, h3, h4⟩ := getP_cons h
    have h1 : n = k + 1 := h1
    obtain ⟨q1, q2⟩ := ih h4
    refine ⟨by rw [h1, q1, List.length_cons]; omega, fun m => ?_⟩
    rw [List.length_cons, show m + (rs.length + 1) = (m + rs.length) + 1 by omega, getP]
    have h2 : posP d r = some j := h2
    rw [h2]; simp only [Option.bind_some]
    have h3 : (kids d)[j]? = some d' := h3
    rw [h3]; exact q2 m
theorem setK_setK {j : Nat} {y : D} : setK (setK d j y) j x = setK d j x := by
  cases d <;> simp [setK]
theorem putP_putP {rs : List Rtp} {y : D} : ∀ {d : D} {n : Nat} {u : D × Nat}, getP (d, n) rs = some u → putP (putP d rs y) rs x = putP d rs x := by
  induction rs with
  | nil => intro d n u h; rfl
  | cons r rs ih =>
    intro d n u h
    obtain ⟨k, j, d', h1, h2, h3, h4⟩ := getP_cons h
    have h2 : posP d r = some j := h2
    have h3 : (kids d)[j]? = some d' := h3
    rw [putP_cons h2 h3, putP_cons (posP_set h2) (kids_set h3), putP_cons h2 h3, setK_setK, ih h4]
theorem Rep.part {rs : List Rtp} {n : Nat} {u : D × Nat} (r : Rep K CA H n d v O Z) (hg : getP (d, n) rs = some u) (at' : VAt H v rs w) : ∃ O' Z', Rep K CA H u.2 u.1 w O' Z' ∧ (∀ a ∈ O', a ∈ O) ∧ ∀ a ∈ Z', a ∈ Z := by
  obtain ⟨v', O', Z', R, Y, r1, r2, a2, pm, zz⟩ := r.hole hg
  have e := at'.det a2
  subst e
  exact ⟨O', Z', r2, fun a h => pm.symm.subset (List.mem_append_right _ h), fun a h => (zz a).mpr (.inr h)⟩
theorem Rep.at {rs : List Rtp} {n : Nat} {u : D × Nat} (r : Rep K CA H n d v O Z) (hg : getP (d, n) rs = some u) : ∃ w, VAt H v rs w := by
  obtain ⟨v', O', Z', R, Y, r1, r2, a2, pm, zz⟩ := r.hole hg
  exact ⟨v', a2⟩
end
section
variable {K : PySem.W.Frag} {CA : Nat → Addr} {S0 S1 : Slots} {σ : St} {H H2 : Hp} {J L : List Nat}
theorem node_ok {i : Nat} {r : Root} {rs : List Rtp} {u : D × Nat} {a : Addr} (sr : SRep K CA S1 σ H) (f : Fr S1) (st : Step J L S0 H S1 H) (hi : S1[i]? = some (some r)) (hL : i ∉ L) (hg : getP (r.d, r.n) rs = some u) (sm : Same H H2) (at' : VAt H2 r.v rs (.ref a)) :
    ∃ On Zn, Rep K CA H2 u.2 u.1 (.ref a) On Zn ∧ (∀ x ∈ On, x ∈ r.O) ∧ (∀ x ∈ Zn, x ∈ r.Z) ∧ On.Nodup ∧ (∀ x ∈ Zn, x ∉ On) ∧ (∀ x ∈ On, H x ≠ none) ∧ (∀ x ∈ Zn, H x ≠ none) ∧
      ∀ H3 d'' k O'' Z'', Keep [a] H2 H3 → (∀ x, H2 x ≠ none → H3 x ≠ none) → a ∈ On → Rep K CA H3 k d'' (.ref a) O'' Z'' → k ≤ u.2 → O''.Nodup → (∀ z ∈ Z'', z ∉ O'') → (∀ x ∈ O'', x ∈ On ∨ H x = none) → (∀ x ∈ Z'', x ∈ On ∨ x ∈ Zn ∨ H x = none ∨ (¬ Own S1 x ∧ Any S0 x)) →
        ∃ S', SRep K CA S' σ H3 ∧ Fr S' ∧ Step J L S0 H S' H3 ∧ envOf S' = setV (envOf S1) i (putP r.d rs d'', min r.n (k + rs.length)) ∧ (∀ x, Any S' x → Any S1 x ∨ x ∈ O'' ∨ x ∈ Z'') ∧ (∀ j, j ≠ i → S'[j]? = S1[j]?) ∧ (∀ x, x ∈ On → x ∉ O'' → x ∉ Z'' → ¬ Any S' x) := by
  have rr := (sr.rep i r hi).2
  have own0 : ∀ x ∈ r.O, OwnAt S1 i x := fun x hx => ⟨r, hi, hx⟩
  have rr2 := rr.same sm
  obtain ⟨v', On, Zn, R, Y, r1, r2, a2, pm, zz⟩ := rr2.hole hg
  have e := at'.det a2
  subst e
  have hRO : ∀ x ∈ R, x ∈ r.O := fun x h => pm.symm.subset (List.mem_append_left _ h)
  have hOO : ∀ x ∈ On, x ∈ r.O := fun x h => pm.symm.subset (List.mem_append_right _ h)
  have hYZ : ∀ x ∈ Y, x ∈ r.Z := fun x h => (zz x).mpr (.inl h)
  have hZZ : ∀ x ∈ Zn, x ∈ r.Z := fun x h => (zz x).mpr (.inr h)
  have nd0 := pm.nodup_iff.mp (f.nd i r hi)
  obtain ⟨ndR, ndO, dj⟩ := List.nodup_append.mp nd0
  have zo0 : ∀ x ∈ r.Z, x ∉ r.O := fun x hx w => f.zo i x (own0 x w) i r hi hx
  have thO : ∀ x ∈ r.O, H x ≠ none := fun x h => sr.own ⟨i, own0 x h⟩
  have thZ : ∀ x ∈ r.Z, H x ≠ none := fun x h => sr.any ⟨i, r, hi, by simp [h]⟩
  refine ⟨On, Zn, r2, hOO, hZZ, ndO, fun x hx w => zo0 x (hZZ x hx) (hOO x w), fun x h => thO x (hOO x h), fun x h => thZ x (hZZ x h), ?_⟩
  intro H3 d'' k O'' Z'' kp th ha rep hk nd zo ho hz
  have haO := hOO a ha
  have naR : a ∉ R := fun w => dj a w a ha rfl
  have naY : a ∉ Y := fun w => zo0 a (hYZ a w) haO
  have fx2 : Fix [a] H2 := fun y hy => by simp at hy; subst hy; exact r2.own_mut _ ha
  have fx : Fix [a] H := fun y hy => by simp at hy; subst hy; exact rr.own_mut _ haO
  have r3 := r1.keep kp fx2 fun b hb z => by
    simp at z; subst z
    rcases List.mem_append.mp hb with q | q
    · exact naR q
    · exact naY q
  have at3 := at'.keepR (R := R) (Y := Y) r1 (getP_put hg) kp fun b hb z => by simp at z; subst z; exact naR hb
  obtain ⟨e1, lv⟩ := getP_level hg
  have en : min r.n (k + rs.length) = k + rs.length := by omega
  obtain ⟨R', Y', r4, lw⟩ := r3.low (m := k + rs.length) (by omega)
  have g4 : getP (putP r.d rs .hol, k + rs.length) rs = some (.hol, k) := by
    have := (getP_level (getP_put (x := .hol) hg)).2 k
    exact this
  obtain ⟨Of, Zf, r5, pf, zf⟩ := r4.fill g4 at3 rep
  rw [putP_putP hg] at r5
  have hR'R : ∀ x ∈ R', x ∈ R := lw.own
  have hY' : ∀ x ∈ Y', x ∈ R ∨ x ∈ Y := lw.all
  have inOf : ∀ x, x ∈ Of ↔ x ∈ R' ∨ x ∈ O'' := fun x => by rw [pf.mem_iff, List.mem_append]
  have ndf : Of.Nodup := by
    refine pf.nodup_iff.mpr (List.nodup_append.mpr ⟨lw.nd ndR, nd, fun x hx y hy e => ?_⟩)
    subst e
    rcases ho x hy with z | z
    · exact dj x (hR'R x hx) x z rfl
    · exact thO x (hRO x (hR'R x hx)) z
  have zof : ∀ x ∈ Zf, x ∉ Of := fun x hx w => by
    rcases (zf x).mp hx with q | q
    · rcases (inOf x).mp w with w | w
      · exact lw.zo ndR (fun y hy w => zo0 y (hYZ y hy) (hRO y w)) x q w
      · rcases ho x w with z | z
        · rcases hY' x q with q | q
          · exact dj x q x z rfl
          · exact zo0 x (hYZ x q) (hOO x z)
        · rcases hY' x q with q | q
          · exact thO x (hRO x q) z
          · exact thZ x (hYZ x q) z
    · rcases (inOf x).mp w with w | w
      · have wO := hRO x (hR'R x w)
        rcases hz x q with z | z | z | ⟨z, _⟩
        · exact dj x (hR'R x w) x z rfl
        · exact zo0 x (hZZ x z) wO
        · exact thO x wO z
        · exact z ⟨i, own0 x wO⟩
      · exact zo x q w
  obtain ⟨h1, h2, h3, h4⟩ := mut_okR (L := L) (J := J) (S0 := S0) (S1 := S1) (F := [a]) (H3 := H3) (d := putP r.d rs d'') (n := k + rs.length) sr f st hi hL (fun y hy => by simp at hy; subst hy; exact haO) (fun y o e hn => kp y o (sm y o e) hn) fx (fun y hy => th y (same_there sm hy)) r5 ndf zof
    (fun x hx => by
      rcases (inOf x).mp hx with q | q
      · exact .inl (hRO x (hR'R x q))
      · exact (ho x q).imp (hOO x) id)
    (fun x hx => by
      rcases (zf x).mp hx with q | q
      · rcases hY' x q with q | q
        · exact .inl (hRO x q)
        · exact .inr (.inl (hYZ x q))
      · rcases hz x q with z | z | z | z
        · exact .inl (hOO x z)
        · exact .inr (.inl (hZZ x z))
        · exact .inr (.inr (.inl z))
        · exact .inr (.inr (.inr z)))
  refine ⟨_, h1, h2, h3, by rw [h4, en], fun x hx => ?_, fun j hj => ?_, fun x hx n1 n2 ⟨j, r', e, q⟩ => ?_⟩
  · rcases setR_any hx with q | q
    · rcases List.mem_append.mp q with q | q
      · rcases (inOf x).mp q with q | q
        · exact .inl ⟨i, r, hi, by simp [hRO x (hR'R x q)]⟩
        · exact .inr (.inl q)
      · rcases (zf x).mp q with q | q
        · rcases hY' x q with q | q
          · exact .inl ⟨i, r, hi, by simp [hRO x q]⟩
          · exact .inl ⟨i, r, hi, by simp [hYZ x q]⟩
        · exact .inr (.inr q)
    · exact .inl q
  · unfold setR; rw [List.getElem?_set_ne (Ne.symm hj)]
  · rcases setR_some e with ⟨_, e1, e2⟩ | ⟨hj, e1⟩
    · rw [e1, e2] at q
      rcases List.mem_append.mp q with q | q
      · rcases (inOf x).mp q with q | q
        · exact dj x (hR'R x q) x hx rfl
        · exact n1 q
      · rcases (zf x).mp q with q | q
        · rcases hY' x q with q | q
          · exact dj x q x hx rfl
          · exact zo0 x (hYZ x q) (hOO x hx)
        · exact n2 q
    · rcases List.mem_append.mp q with q | q
      · exact hj (f.sep j i x ⟨r', e1, q⟩ (own0 x (hOO x hx)))
      · exact f.zo i x (own0 x (hOO x hx)) j r' e1 q
end
end Vy

namespace Vy
open PySem PySem.Spec
open PyProof.Rows hiding St
open L2
section
variable {X : Cx} {nm : Nm} {G : Glo} {CA : Nat → Addr} {cf : Runs} {W : WX} {L : List Nat}
def DenP (K : PySem.W.Frag) (CA : Nat → Addr) (W : WX) (S : Slots) (i : Nat) (o : Out (List Rtp)) (σ : St) (H : Hp) (Q : VK) : Prop := match o with
  | .ok rs => ∃ (r : Root) (u : D × Nat), S[i]? = some (some r) ∧ getP (r.d, r.n) rs = some u ∧ ∀ v' H', Same H H' → VAt H' r.v rs v' → Q v' H'
  | .exc e => ∀ cls dd H', Same H H' → ExRep K CA e cls dd H' → W cls dd σ H'
  | .bad => False
def tP (X : Cx) (G : Glo) (CA : Nat → Addr) (cf : Runs) (W : WX) (p : Pth) : TE := fun σ H Q => ∃ S, SRep X.K CA S σ H ∧ DenP X.K CA W S p.i (rsv G cf (envOf S) p.st) σ H Q
abbrev ClsC (X : Cx) (CA : Nat → Addr) (fl : List Cs) : Prop := ClsK X.K CA fl
theorem p_var {i : Nat} {x : Str} {pos : Pos} (hN : X.N[i]? = some x) (hv : Vis X.env.scope x) (hd : (x == ("__debug__" : Str)) = false) (hcd : (x == ("__classdict__" : Str)) = false) : PE X (.Name x pos) (tP X G CA cf W ⟨i, []⟩) := by
  refine PE.weak (pe_var hN hv hd hcd) fun σ H Q ⟨S, sr, h⟩ => ?_
  obtain ⟨r, u, h1, h2, h3⟩ := (show DenP X.K CA W S i (.ok []) σ H Q from h)
  exact ⟨r.v, (sr.rep i r h1).1, h3 r.v H (Same.refl H) .nil⟩
theorem rsv_fld {ρ : Env} {f : Cs} : ∀ st : List Ptp, rsv G cf ρ (st ++ [.fld f]) = (rsv G cf ρ st).bind fun rs => .ok (rs ++ [.fld f])
  | [] => rfl
  | .fld g :: r => by
    show (rsv G cf ρ (r ++ [.fld f])).bind _ = ((rsv G cf ρ r).bind _).bind _
    rw [rsv_fld r, obind_assoc, obind_assoc]; rfl
  | .ix e :: r => by
    show ((noX (ev G cf ρ e)).bind fun x => (rsv G cf ρ (r ++ [.fld f])).bind _) = ((noX (ev G cf ρ e)).bind _).bind _
    rw [obind_assoc, rsv_fld r]
    congr 1; funext x
    rw [obind_assoc, obind_assoc]; rfl
theorem rsv_ix {ρ : Env} {c : C} : ∀ st : List Ptp, rsv G cf ρ (st ++ [.ix c]) = (rsv G cf ρ st).bind fun rs => (noX (ev G cf ρ c)).bind fun x => .ok (rs ++ [.at x.1])
  | [] => by
    show (noX (ev G cf ρ c)).bind _ = _
    simp [rsv]
  | .fld g :: r => by
    show (rsv G cf ρ (r ++ [.ix c])).bind _ = ((rsv G cf ρ r).bind _).bind _
    rw [rsv_ix r, obind_assoc, obind_assoc]
    congr 1; funext rs
    simp [obind_assoc]
  | .ix e :: r => by
    show ((noX (ev G cf ρ e)).bind fun x => (rsv G cf ρ (r ++ [.ix c])).bind _) = ((noX (ev G cf ρ e)).bind _).bind _
    rw [obind_assoc, rsv_ix r]
    congr 1; funext x
    rw [obind_assoc, obind_assoc]
    congr 1; funext rs
    simp [obind_assoc]
theorem p_fld {i : Nat} {st : List Ptp} {f : Cs} {fn : Str} {e : Expr} {fl : List Cs} {pos : Pos} (cc : ClsC X CA fl) (hf : f ∈ fl) (hn : fn = mkS f) (he : PE X e (tP X G CA cf W ⟨i, st⟩)) (hb : noSup e = true) : PE X (.Attribute e fn pos) (tP X G CA cf W ⟨i, st ++ [.fld f]⟩) := by
  subst hn
  refine PE.weak (pe_fld he (base_ok hb)) fun σ H Q ⟨S, sr, h⟩ => ?_
  have h : DenP X.K CA W S i (rsv G cf (envOf S) (st ++ [.fld f])) σ H Q := h
  rw [rsv_fld] at h
  refine ⟨S, sr, ?_⟩
  show DenP X.K CA W S i (rsv G cf (envOf S) st) σ H _
  cases e1 : rsv G cf (envOf S) st with
  | exc x => rw [e1] at h; exact h
  | bad => rw [e1] at h; exact h
  | ok rs =>
    rw [e1] at h
    obtain ⟨r, u, h1, h2, h3⟩ := h
    obtain ⟨q, q1, q2⟩ := getP_append h2
    refine ⟨r, q, h1, q1, fun v' H' sm at' => ?_⟩
    obtain ⟨O', Z', rq, _, _⟩ := ((sr.rep i r h1).2.same sm).part q1 at'
    obtain ⟨k, j, d', g1, g2, g3, g4⟩ := getP_cons q2
    obtain ⟨dq, nq⟩ := q
    have g1 : nq = k + 1 := g1
    subst g1
    cases dq <;> first | (cases g3; done) | skip
    · cases g2
    · cases g2
    rename_i c fs vs
    obtain ⟨hc, g2⟩ := go_some (show go _ _ = some j from g2)
    have rq : Rep X.K CA H' (k + 1) (.ins c fs vs) v' O' Z' := rq
    cases rq with
    | @insO _ a _ _ _ dx fvs _ _ e ko r0 =>
      obtain ⟨v1, Z1, y⟩ : ∃ v1 Z1, (fvs.map (·.2))[j]? = some v1 := by
        obtain ⟨v1, A, B, A', B', O1, Z1, y1, _⟩ := r0.get j d' g3
        exact ⟨v1, Z1, y1⟩
      have lk := findIdx_lookup ko g2 y
      exact ⟨a, CA c, dx, fvs, v1, rfl, e, cc.cl c hc, cc.no c hc f hf, lk, h3 v1 H' sm (at'.append (.cons (.fld e lk) .nil))⟩
theorem p_ix {i k : Nat} {st : List Ptp} {c : C} {e b : Expr} {pos : Pos} (hr : Room k X.A) (he : PE X e (tP X G CA cf W ⟨i, st⟩)) (hb : PE X b (tE X G CA cf W c)) (hs : PlainIx b) : PE X (.Subscript e b pos) (tP X G CA cf W ⟨i, st ++ [.ix c]⟩) := by
  refine PE.weak (pe_ix (ix_seq.or (ix_dict hr)) he hb hs) fun σ H Q ⟨S, sr, h⟩ => ?_
  have h : DenP X.K CA W S i (rsv G cf (envOf S) (st ++ [.ix c])) σ H Q := h
  rw [rsv_ix] at h
  refine ⟨S, sr, ?_⟩
  show DenP X.K CA W S i (rsv G cf (envOf S) st) σ H _
  cases e1 : rsv G cf (envOf S) st with
  | exc x => rw [e1] at h; exact h
  | bad => rw [e1] at h; exact h
  | ok rs =>
    rw [e1] at h
    simp only [Out.bind_ok] at h
    cases e2 : ev G cf (envOf S) c with
    | bad => rw [e2] at h; exact h.elim
    | exc x => rw [e2] at h; exact h.elim
    | ok y =>
      rw [e2] at h
      obtain ⟨r, u, h1, h2, h3⟩ := h
      obtain ⟨q, q1, q2⟩ := getP_append h2
      refine ⟨r, q, h1, q1, fun v' H' sm at' => ?_⟩
      refine ⟨S, sr.same sm, ?_⟩
      rw [e2]
      intro w H2 O2 Z2 pw
      obtain ⟨k1, j, d', g1, g2, g3, g4⟩ := getP_cons q2
      obtain ⟨dq, nq⟩ := q
      have g1 : nq = k1 + 1 := g1
      subst g1
      have at2 : VAt H2 r.v rs v' := at'.same pw.same
      obtain ⟨O', Z', rq, _, _⟩ := ((sr.rep i r h1).2.same (sm.trans pw.same)).part q1 at2
      obtain ⟨a, A, O1, B, A', Z1, B', v1, ev1, _, _, _, va, _⟩ := Rep.kid rq g2 g3
      have fin := h3 v1 H2 (sm.trans pw.same) (at2.append (.cons va .nil))
      subst ev1
      obtain ⟨dy, ny⟩ := y
      have va : VA1 H2 (.ref a) (.at dy) v1 := va
      have rw' : Rep X.K CA H2 ny dy w O2 Z2 := pw.rep
      generalize hq : Rtp.at dy = q at va
      cases va with
      | fld h4 h5 => cases hq
      | lst h4 h5 h6 =>
        cases hq
        obtain ⟨rfl, _⟩ := rw'.int_inv
        refine .inl (.inl ⟨a, _, _, v1, rfl, rfl, .of h4, ?_, fin⟩)
        show (ixN _ _).bind _ = _
        rw [← ix_eq, h5]; exact h6
      | dct h4 h5 h6 =>
        cases hq
        obtain ⟨e4, _⟩ := key_of rw' h5
        exact .inr ⟨a, v1, rfl, .inl ⟨_, _, .inl h4, e4, h6.symm⟩, fin⟩
end
end Vy

namespace Vy
open PySem PySem.Spec
open PyProof.Rows hiding St
open L2
structure XVal (K : PySem.W.Frag) (CA : Nat → Addr) (S : Slots) (is : List Nat) (H : Hp) (d : D) (n : Nat) (v : V) (O Z : List Addr) : Prop where
  rep : Rep K CA H n d v O Z
  nd : O.Nodup
  zo : ∀ a ∈ Z, a ∉ O
  no : ∀ a ∈ O, ¬ Any S a
  nz : ∀ a ∈ Z, Nod S is a ∨ ¬ Any S a
def DenX (K : PySem.W.Frag) (CA : Nat → Addr) (W : WX) (J L : List Nat) (S0 : Slots) (H0 : Hp) (is : List Nat) (o : OX) (σ : St) (Q : VK) : Prop := match o with
  | .ok p ρ => ∀ S v H O Z, SRep K CA S σ H → Fr S → Step J L S0 H0 S H → envOf S = ρ → XVal K CA S is H p.1 p.2 v O Z → (∀ a ∈ O, Ou S0 L a ∨ H0 a = none) → (∀ a ∈ Z, Any S0 a ∨ H0 a = none) → Q v H
  | .exc e ρ => ∀ S H cls dd, SRep K CA S σ H → Fr S → Step J L S0 H0 S H → envOf S = ρ → ExRep K CA e cls dd H → W cls dd σ H
  | .bad => False
def tX (X : Cx) (G : Glo) (CA : Nat → Addr) (cf : Runs) (W : WX) (L : List Nat) (x : Xp) : TE := fun σ H Q => ∃ S, SRep X.K CA S σ H ∧ Fr S ∧ DenX X.K CA W cf.io L S H (xnames x) (exX G cf L (envOf S) x) σ Q
section
variable {K : PySem.W.Frag} {CA : Nat → Addr} {W : WX} {S S0 S1 S' : Slots} {σ : St} {H H0 H1 H2 : Hp} {J L is : List Nat} {d : D} {n : Nat} {v : V} {O Z : List Addr} {Q : VK}
theorem Ou.any {a : Addr} (h : Ou S L a) : Any S a := let ⟨i, _, q⟩ := h; q.any
theorem PVal.x (pv : PVal K CA (Nod S is) H H1 d n v O Z) (sr : SRep K CA S σ H) : XVal K CA S is H1 d n v O Z :=
  ⟨pv.rep, pv.nd, pv.zo, fun a h w => sr.any w (pv.fresh a h), fun a h => (pv.zin a h).elim (fun z => .inr fun w => sr.any w z) .inl⟩
theorem DenX.step {o : OX} (s : Step J L S0 H0 S1 H1) (h : DenX K CA W J L S0 H0 is o σ Q) : DenX K CA W J L S1 H1 is o σ Q := by
  cases o with
  | ok p ρ => exact fun S v H O Z a b c d e f g => h S v H O Z a b (s.trans c) d e (fun a' q => (f a' q).elim s.ou fun z => .inr (s.none z)) (fun a' q => (g a' q).elim (s.any a') fun z => .inr (s.none z))
  | exc e ρ => exact fun S H cls dd a b c d => h S H cls dd a b (s.trans c) d
  | bad => exact h
theorem DenX.mono {o : OX} {Q' : VK} (w : ∀ v H, Q v H → Q' v H) (h : DenX K CA W J L S0 H0 is o σ Q) : DenX K CA W J L S0 H0 is o σ Q' := by
  cases o with
  | ok p ρ => exact fun S v H O Z a b c d e f g => w v H (h S v H O Z a b c d e f g)
  | exc e ρ => exact h
  | bad => exact h
theorem bindX_ok {i : Nat} (sr : SRep K CA S σ H) (f : Fr S) (hi : i < S.length) (hJ : i ∉ J) (st : Step J L S0 H0 S H) (xv : XVal K CA S is H d n v O Z) (ho : ∀ a ∈ O, Ou S0 L a ∨ H0 a = none) (hz : ∀ a ∈ Z, Any S0 a ∨ H0 a = none) :
    ∃ S', SRep K CA S' (σ.set i (some v)) H ∧ Fr S' ∧ Step J L S0 H0 S' H ∧ envOf S' = bindV (envOf S) i (d, n) is := by
  have go : ∀ S1, SRep K CA S1 σ H → Fr S1 → S1.length = S.length → (∀ j a, OwnAt S1 j a → OwnAt S j a) → (∀ a, Any S1 a → Any S a) → (∀ a ∈ Z, ¬ Own S1 a) → envOf (setR S1 i d n v O Z) = bindV (envOf S) i (d, n) is → (∀ (j : Nat) (r' : Root), S1[j]? = some (some r') → ∃ r : Root, S[j]? = some (some r) ∧ r.v = r'.v) →
      ∃ S', SRep K CA S' (σ.set i (some v)) H ∧ Fr S' ∧ Step J L S0 H0 S' H ∧ envOf S' = bindV (envOf S) i (d, n) is := fun S1 sr1 f1 l1 ow an hzz he pin => by
    refine ⟨setR S1 i d n v O Z, sr1.setR xv.rep (by rw [l1]; exact hi), f1.setR xv.nd xv.zo (fun a ha j r _ e q => ?_) (fun a ha j _ w => hzz a ha w.own), ⟨st.keep, st.there, fun j a h => ?_, fun a h => ?_, fun j hj r' h => ?_⟩, he⟩
    · exact xv.no a ha (an a ⟨j, r, e, q⟩)
    · rcases setR_own h with ⟨_, z⟩ | ⟨_, z⟩
      · exact .inr (ho a z)
      · exact st.own j a (ow j a z)
    · rcases setR_any h with z | z
      · rcases List.mem_append.mp z with z | z
        · exact (ho a z).imp (fun q => q.any) id
        · exact hz a z
      · exact st.any a (an a z)
    · rcases setR_some h with ⟨e, _⟩ | ⟨_, z⟩
      · subst e; exact absurd hj hJ
      · obtain ⟨r, h1, h2⟩ := pin j r' z
        obtain ⟨r0, h3, h4⟩ := st.pin j hj r h1
        exact ⟨r0, h3, h4.trans h2⟩
  by_cases hf : full (d, n) = true
  · have hz0 : Z = [] := xv.rep.full (by simpa [full] using hf)
    refine go S sr f rfl (fun _ _ h => h) (fun _ h => h) (by rw [hz0]; simp) ?_ fun j r h => ⟨r, h, rfl⟩
    rw [envOf_setR]; unfold bindV; rw [if_pos hf]
  · obtain ⟨S1, sr1, f1, z⟩ := frz_ok is sr f
    refine go S1 sr1 f1 z.len z.own (fun a ⟨j, r, e, q⟩ => let ⟨r0, h1, h2⟩ := z.any j r e; ⟨j, r0, h1, h2 a q⟩) (fun a ha w => ?_) ?_ z.pin
    · rcases xv.nz a ha with q | q
      · exact z.free f q w
      · obtain ⟨j, w⟩ := w
        exact q (z.own j a w).any
    · rw [envOf_setR, z.env]; unfold bindV; rw [if_neg hf]
theorem DenS.onX {o : OX} {f : D × Nat → Env → OS} {D : Ends} (h : DenS K CA W J L S0 H0 (onX o f) D) {Q : VK}
    (q : ∀ p ρ S v H O Z, o = .ok p ρ → SRep K CA S σ H → Fr S → Step J L S0 H0 S H → envOf S = ρ → XVal K CA S is H p.1 p.2 v O Z → (∀ a ∈ O, Ou S0 L a ∨ H0 a = none) → (∀ a ∈ Z, Any S0 a ∨ H0 a = none) → DenS K CA W J L S0 H0 (f p ρ) D → Q v H) : DenX K CA W J L S0 H0 is o σ Q := by
  cases o with
  | ok p ρ => exact fun S v H O Z a b c d e g i => q p ρ S v H O Z rfl a b c d e g i h
  | exc e ρ => exact fun S H cls dd a b c d x => h S σ H cls dd a b c d x
  | bad => exact h
end
section
variable {X : Cx} {nm : Nm} {G : Glo} {CA : Nat → Addr} {cf : Runs} {W : WX} {L : List Nat}
theorem asgX_of {st : Stmt} {i : Nat} {x : Str} {c : Xp} (hi : X.N[i]? = some x) (h : PS X st (tAsg (tX X G CA cf W L c) (gName i))) : PS X st (tS X G CA cf W L (.asgX i c)) := ⟨fun pins s σ H D I ⟨S, sr, fr, hd⟩ => h.run pins s σ H D I (by
  rw [exS] at hd
  refine ⟨S, sr, fr, hd.onX fun p ρ S1 v H1 O Z e sr1 fr1 st1 he xv ho hz hd => ?_⟩
  obtain ⟨hJ, hd⟩ := hd.onJ
  have hil : i < S1.length := by rw [sr1.len, I.len]; exact (List.getElem?_eq_some_iff.mp hi).1
  obtain ⟨S', sr', fr', st', he'⟩ := bindX_ok sr1 fr1 hil (hJ i (by simp)) st1 xv ho hz
  exact hd S' _ H1 sr' fr' st' (by rw [he', he]))⟩
theorem s_asgX {sc : Scope} {i : Nat} {x : Str} {c : Xp} {e : Expr} {p pos : Pos} (sco : ScOk sc X) (hN : X.N.Nodup) (hi : X.N[i]? = some x) (h : sc.names.lookup x = some .local ∨ sc.names.lookup x = some .cell) (he : PE X e (tX X G CA cf W L c)) (hl : noLc e = true) :
    PS X (.Assign [.Name x p] e pos) (tS X G CA cf W L (.asgX i c)) := by
  refine asgX_of hi ?_
  rcases h with h | h
  · exact ps_set hN hi (.inl (sco.loc x h)) he (no_swap hl) (.inr (sco.loc x h))
  · obtain ⟨h1, h2⟩ := sco.cel x h
    exact ps_set hN hi (.inr h1) he (no_swap hl) (.inl h2)
theorem s_expX {c : Xp} {e : Expr} {pos : Pos} (he : PE X e (tX X G CA cf W L c)) (hl : noLc e = true) : PS X (.Expr e pos) (tS X G CA cf W L (.expX c)) := PS.weak (ps_expr he (no_swap hl)) fun D σ H ⟨S, sr, fr, h⟩ => by
  rw [exS] at h
  exact ⟨S, sr, fr, h.onX fun p ρ S1 v H1 O Z e sr1 fr1 st1 he xv ho hz hd => hd S1 σ H1 sr1 fr1 st1 he⟩
def tXT (X : Cx) (G : Glo) (CA : Nat → Addr) (cf : Runs) (W : WX) (L : List Nat) (x : Xp) : TT := fun σ H Q => ∃ S, SRep X.K CA S σ H ∧ Fr S ∧ (match exX G cf L (envOf S) x with
  | .ok p ρ => ∃ b, truth p.1 = some b ∧ ∀ S' H', SRep X.K CA S' σ H' → Fr S' → Step cf.io L S H S' H' → envOf S' = ρ → Q b H'
  | .exc e ρ => ∀ S' H' cls dd, SRep X.K CA S' σ H' → Fr S' → Step cf.io L S H S' H' → envOf S' = ρ → ExRep X.K CA e cls dd H' → W cls dd σ H'
  | .bad => False)
theorem tt_val {c : Xp} {e : Expr} (h : PE X e (tX X G CA cf W L c)) (he : ∀ whole, isTrue e X.env whole = (do let v ← whole; standAt e.pos; holding [v] (truthy v))) : PT X e (tXT X G CA cf W L c) := by
  refine PT.weak (pt_truth h he) fun σ H Q ⟨S, sr, fr, hd⟩ => ⟨S, sr, fr, ?_⟩
  cases e1 : exX G cf L (envOf S) c with
  | ok p ρ =>
    rw [e1] at hd
    obtain ⟨b, hb, hd⟩ := hd
    exact fun S' v H' O Z a b' c' d xv _ _ => ⟨b, tru_of xv.rep hb, hd S' H' a b' c' d⟩
  | exc x ρ => rw [e1] at hd; exact hd
  | bad => rw [e1] at hd; exact hd
theorem s_ifX {c : Xp} {e : Expr} {a b : List Stmt} {sa sb : List S} {pos : Pos} (hc : PT X e (tXT X G CA cf W L c)) (ha : PSs X a (tB X G CA cf W L sa)) (hb : PSs X b (tB X G CA cf W L sb)) : PS X (.If e a b pos) (tS X G CA cf W L (.ifX c sa sb)) := PS.weak (ps_if hc ha hb) fun D σ H ⟨S, sr, fr, h⟩ => by
  rw [exS] at h
  refine ⟨S, sr, fr, ?_⟩
  cases e1 : exX G cf L (envOf S) c with
  | ok p ρ =>
    rw [e1] at h
    simp only [onX_ok] at h
    cases e2 : truth p.1 with
    | none => rw [e2] at h; exact h.elim
    | some t =>
      rw [e2] at h
      refine ⟨t, e2, fun S' H' sr' fr' st' he => ?_⟩
      subst he
      cases t with
      | true => exact ⟨S', sr', fr', DenS.step st' h⟩
      | false => exact ⟨S', sr', fr', DenS.step st' h⟩
  | exc x ρ => rw [e1] at h; exact fun S' H' cls dd a b c d x => h S' σ H' cls dd a b c d x
  | bad => rw [e1] at h; exact h
end
end Vy

namespace Vy
open PySem PySem.Spec
open PyProof.Rows hiding St
open L2
theorem nodeP_some {S : Slots} {i : Nat} {rs : List Rtp} {q : D × Nat} (h : nodeP (envOf S) i rs = some q) : ∃ r : Root, S[i]? = some (some r) ∧ getP (r.d, r.n) rs = some q := by
  unfold nodeP at h
  obtain ⟨p, hp, h⟩ := Option.bind_eq_some_iff.mp h
  obtain ⟨r, hr, e⟩ := slot_get hp
  exact ⟨r, hr, by rw [e]; exact h⟩
section
variable {K : PySem.W.Frag} {CA : Nat → Addr} {W : WX} {S : Slots} {σ : St} {H H2 : Hp} {J L ns is : List Nat} {Q : VK}
theorem PVs.zfull {M : Addr → Prop} {ps : List (D × Nat)} {vs : List V} {O Z : List Addr} (pv : PVs K CA M H H2 ps vs O Z) (h : ps.all full = true) : Z = [] := by
  induction pv with
  | nil => rfl
  | cons q _ _ _ ih =>
    rw [List.all_cons, Bool.and_eq_true] at h
    rw [q.rep.full (by simpa [full] using h.1), ih h.2]; rfl
theorem mop_core {i : Nat} {rs : List Rtp} {r : Root} {q : D × Nat} {u : (D × Nat) × (D × Nat)} {f : D × Nat → Option ((D × Nat) × (D × Nat))} {ps : List (D × Nat)} {vs : List V} {O Z : List Addr} {a : Addr} (sr : SRep K CA S σ H) (fr : Fr S) (hi : S[i]? = some (some r)) (hg : getP (r.d, r.n) rs = some q)
    (pv : PVs K CA (Nod S ns) H H2 ps vs O Z) (sm : Same H H2) (at' : VAt H2 r.v rs (.ref a)) (hu : f q = some u) (hlev : u.1.2 ≤ q.2) (h : DenX K CA W J L S H is (mopX L (envOf S) i rs ns ps f) σ Q) :
    ∃ On Zn, Rep K CA H2 q.2 q.1 (.ref a) On Zn ∧ On.Nodup ∧ (∀ x ∈ Zn, x ∉ On) ∧ (∀ x ∈ On, x ∉ O) ∧ (∀ x ∈ Zn, x ∉ O) ∧ (∀ x ∈ On, x ∉ Z) ∧
      ∀ H3 O'' Z'' v Ov, Keep [a] H2 H3 → (∀ x, H2 x ≠ none → H3 x ≠ none) → a ∈ On → Rep K CA H3 u.1.2 u.1.1 (.ref a) O'' Z'' → O''.Nodup → (∀ z ∈ Z'', z ∉ O'') → (∀ x ∈ O'', x ∈ On ∨ x ∈ O) → (∀ x ∈ Z'', x ∈ On ∨ x ∈ Zn ∨ x ∈ O ∨ x ∈ Z) →
        Rep K CA H3 u.2.2 u.2.1 v Ov [] → Ov.Nodup → (∀ x ∈ Ov, x ∈ On ∧ x ∉ O'' ∧ x ∉ Z'') → Q v H3 := by
  unfold mopX at h
  by_cases hL : i ∈ L
  · rw [if_pos hL] at h; exact h.elim
  rw [if_neg hL, envOf_get, hi] at h
  simp only [Option.bind_some, id_eq, Option.map_some, hg, hu] at h
  have go : ∀ S1, SRep K CA S1 σ H → Fr S1 → Step J L S H S1 H → S1[i]? = some (some r) → (∀ x ∈ Z, ¬ Own S1 x ∧ Any S x ∨ H x = none) → (∀ x ∈ r.O, x ∉ Z) → DenX K CA W J L S H is (OX.of ((chgP (envOf S1) i rs u.1).map fun ρ' => OX.ok u.2 ρ')) σ Q →
      ∃ On Zn, Rep K CA H2 q.2 q.1 (.ref a) On Zn ∧ On.Nodup ∧ (∀ x ∈ Zn, x ∉ On) ∧ (∀ x ∈ On, x ∉ O) ∧ (∀ x ∈ Zn, x ∉ O) ∧ (∀ x ∈ On, x ∉ Z) ∧
      ∀ H3 O'' Z'' v Ov, Keep [a] H2 H3 → (∀ x, H2 x ≠ none → H3 x ≠ none) → a ∈ On → Rep K CA H3 u.1.2 u.1.1 (.ref a) O'' Z'' → O''.Nodup → (∀ z ∈ Z'', z ∉ O'') → (∀ x ∈ O'', x ∈ On ∨ x ∈ O) → (∀ x ∈ Z'', x ∈ On ∨ x ∈ Zn ∨ x ∈ O ∨ x ∈ Z) →
        Rep K CA H3 u.2.2 u.2.1 v Ov [] → Ov.Nodup → (∀ x ∈ Ov, x ∈ On ∧ x ∉ O'' ∧ x ∉ Z'') → Q v H3 := by
    intro S1 sr1 f1 st1 hi1 hz hrz h
    obtain ⟨On, Zn, r1, h1, h2, h3, h4, h5, h6, h7⟩ := node_ok (L := L) (J := J) (S0 := S) sr1 f1 st1 hi1 hL hg sm at'
    have chg : chgP (envOf S1) i rs u.1 = some (setV (envOf S1) i (putP r.d rs u.1.1, min r.n (u.1.2 + rs.length))) := by
      unfold chgP
      rw [envOf_get, hi1]
      simp [hg]
    rw [chg] at h
    refine ⟨On, Zn, r1, h3, h4, fun x hx w => h5 x hx (pv.fresh x w), fun x hx w => h6 x hx (pv.fresh x w), fun x hx => hrz x (h1 x hx), fun H3 O'' Z'' v Ov k th ha rep nd zo ho hz' rv ndv hov => ?_⟩
    obtain ⟨S', g1, g2, g3, g4, g5, g6, g7⟩ := h7 H3 u.1.1 u.1.2 O'' Z'' k th ha rep hlev nd zo (fun x hx => (ho x hx).imp id (pv.fresh x)) (fun x hx => by
      rcases hz' x hx with z | z | z | z
      · exact .inl z
      · exact .inr (.inl z)
      · exact .inr (.inr (.inl (pv.fresh x z)))
      · rcases hz x z with y | y
        · exact .inr (.inr (.inr y))
        · exact .inr (.inr (.inl y)))
    refine h S' v H3 Ov [] g1 g2 g3 g4 ⟨rv, ndv, by simp, fun x hx => g7 x (hov x hx).1 (hov x hx).2.1 (hov x hx).2.2, by simp⟩ (fun x hx => .inl ?_) (by simp)
    have := h1 x (hov x hx).1
    have ow : OwnAt S1 i x := ⟨r, hi1, this⟩
    exact ⟨i, hL, r, hi, this⟩
  by_cases hf : ps.all full = true
  · rw [if_pos hf] at h
    have hz := pv.zfull hf
    subst hz
    exact go S sr fr Step.refl hi (by simp) (by simp) h
  · rw [if_neg hf] at h
    by_cases hin : i ∈ ns
    · rw [if_pos hin] at h; exact h.elim
    rw [if_neg hin] at h
    obtain ⟨S1, sr1, f1, z⟩ := frz_ok ns sr fr
    rw [← z.env] at h
    refine go S1 sr1 f1 z.step (by rw [z.oth i hin]; exact hi) (fun x hx => ?_) (fun x hx w => ?_) h
    · rcases pv.zin x hx with y | y
      · exact .inr y
      · exact .inl ⟨z.free fr y, y.any⟩
    · rcases pv.zin x w with y | ⟨j, hj, r', e, y⟩
      · exact sr.own ⟨i, r, hi, hx⟩ y
      · rcases List.mem_append.mp y with y | y
        · have := fr.sep i j x ⟨r, hi, hx⟩ ⟨r', e, y⟩
          exact hin (this ▸ hj)
        · exact fr.zo i x ⟨r, hi, hx⟩ j r' e y
end
section
variable {X : Cx} {nm : Nm} {G : Glo} {CA : Nat → Addr} {cf : Runs} {W : WX} {L : List Nat}
def MopR (X : Cx) (CA : Nat → Addr) (m : MO) (T : V → Hp → Prop) (R : V → List V → Hp → VK → Prop) : Prop :=
  (∀ {q : D × Nat} {v : V} {O Z : List Addr} {H : Hp}, mTy m q = true → Rep X.K CA H q.2 q.1 v O Z → (∃ a, v = .ref a) ∧ T v H) ∧
  ∀ {q : D × Nat} {ps : List (D × Nat)} {u : (D × Nat) × (D × Nat)} {M : Addr → Prop} {H H2 : Hp} {vs : List V} {a : Addr} {On Zn O Z : List Addr} {Q : VK}, nodeOp m q ps = some u → mTy m q = true → Same H H2 → PVs X.K CA M H H2 ps vs O Z → Rep X.K CA H2 q.2 q.1 (.ref a) On Zn → On.Nodup → (∀ x ∈ Zn, x ∉ On) → (∀ x ∈ On, x ∉ O) → (∀ x ∈ Zn, x ∉ O) → (∀ x ∈ On, x ∉ Z) →
    (∀ H3 O'' Z'' v Ov, Keep [a] H2 H3 → (∀ x, H2 x ≠ none → H3 x ≠ none) → a ∈ On → Rep X.K CA H3 u.1.2 u.1.1 (.ref a) O'' Z'' → O''.Nodup → (∀ z ∈ Z'', z ∉ O'') → (∀ x ∈ O'', x ∈ On ∨ x ∈ O) → (∀ x ∈ Z'', x ∈ On ∨ x ∈ Zn ∨ x ∈ O ∨ x ∈ Z) →
        Rep X.K CA H3 u.2.2 u.2.1 v Ov [] → Ov.Nodup → (∀ x ∈ Ov, x ∈ On ∧ x ∉ O'' ∧ x ∉ Z'') → Q v H3) → R (.ref a) vs H2 Q
theorem lvIn_le {n : Nat} {p : D × Nat} : lvIn n p ≤ n := by unfold lvIn; split <;> omega
theorem nodeOp_lev {m : MO} {q : D × Nat} {ps : List (D × Nat)} {u : (D × Nat) × (D × Nat)} (h : nodeOp m q ps = some u) : u.1.2 ≤ q.2 := by
  cases m with
  | app =>
    replace h : opApp q ps = some u := h
    unfold opApp at h; split at h
    · obtain ⟨_, h⟩ := go_some h; cases h; exact lvIn_le
    · cases h
  | pop =>
    replace h : opPop q ps = some u := h
    unfold opPop at h; split at h
    · obtain ⟨x, _, h⟩ := Option.bind_eq_some_iff.mp h; obtain ⟨_, h⟩ := go_some h; cases h; exact Nat.le_refl _
    · cases h
  | popi =>
    replace h : opPopi q ps = some u := h
    unfold opPopi at h; split at h
    · obtain ⟨_, h⟩ := go_some h; obtain ⟨j, _, h⟩ := Option.bind_eq_some_iff.mp h; obtain ⟨x, _, h⟩ := Option.bind_eq_some_iff.mp h; obtain ⟨_, h⟩ := go_some h; cases h; exact Nat.le_refl _
    · cases h
  | popk =>
    replace h : opPopk q ps = some u := h
    unfold opPopk at h; split at h
    · obtain ⟨_, h⟩ := go_some h; obtain ⟨j, _, h⟩ := Option.bind_eq_some_iff.mp h; obtain ⟨x, _, h⟩ := Option.bind_eq_some_iff.mp h; cases h; exact Nat.le_refl _
    · cases h
  | clr =>
    replace h : opClr q ps = some u := h
    unfold opClr at h; split at h
    · cases h; exact Nat.le_refl _
    · cases h
  | clrk =>
    replace h : opClrk q ps = some u := h
    unfold opClrk at h; split at h
    · cases h; exact Nat.le_refl _
    · cases h
  | ins =>
    replace h : opIns q ps = some u := h
    unfold opIns at h; split at h
    · obtain ⟨_, h⟩ := go_some h; cases h; exact lvIn_le
    · cases h
  | rem =>
    replace h : opRem q ps = some u := h
    unfold opRem at h; split at h
    · obtain ⟨ss, _, h⟩ := Option.bind_eq_some_iff.mp h; obtain ⟨_, h⟩ := go_some h; cases h; exact Nat.le_refl _
    · cases h
  | rvr =>
    replace h : opRvr q ps = some u := h
    unfold opRvr at h; split at h
    · cases h; exact Nat.le_refl _
    · cases h
  | sda =>
    replace h : opSda q ps = some u := h
    unfold opSda at h; split at h
    · obtain ⟨_, h⟩ := go_some h
      split at h
      · obtain ⟨v, _, h⟩ := Option.bind_eq_some_iff.mp h
        split at h
        · obtain ⟨_, h⟩ := go_some h; cases h; exact Nat.le_refl _
        · cases h
      · cases h; exact Nat.le_refl _
    · cases h
theorem mop_read {p : Pth} {m : MO} {es : List C} {T : V → Hp → Prop} {R : V → List V → Hp → VK → Prop} (hr : MopR X CA m T R) {σ : St} {H : Hp} {Q : VK} (h : tX X G CA cf W L (.mop p m es) σ H Q) : tP X G CA cf W p σ H fun x H1 => T x H1 ∧ tL X G CA cf W es σ H1 fun vs H2 => R x vs H2 Q := by
  obtain ⟨S, sr, fr, h⟩ := h
  rw [exX] at h
  refine ⟨S, sr, ?_⟩
  cases e1 : rsv G cf (envOf S) p.st with
  | exc x => rw [e1] at h; exact fun cls dd H' s r => h S H' cls dd (sr.same s) fr (Step.same s) rfl r
  | bad => rw [e1] at h; exact h
  | ok rs =>
    rw [e1] at h
    simp only [onO_ok] at h
    cases e2 : nodeP (envOf S) p.i rs with
    | none => rw [e2] at h; exact h.elim
    | some q =>
      rw [e2] at h
      simp only [Option.map_some, OX.of_some] at h
      by_cases hm : mTy m q = true
      rotate_left
      · rw [if_neg hm] at h; exact h.elim
      rw [if_pos hm] at h
      obtain ⟨r, hi, hg⟩ := nodeP_some e2
      refine ⟨r, q, hi, hg, fun x H1 s1 at1 => ?_⟩
      obtain ⟨O1, Z1, r1, _, _⟩ := ((sr.rep _ r hi).2.same s1).part hg at1
      obtain ⟨⟨a, rfl⟩, ht⟩ := hr.1 hm r1
      refine ⟨ht, S, sr.same s1, ?_⟩
      cases e3 : evs G cf (envOf S) es with
      | exc x => rw [e3] at h; exact fun cls dd H' s r => h S H' cls dd (sr.same (s1.trans s)) fr (Step.same (s1.trans s)) rfl r
      | bad => rw [e3] at h; exact h.elim
      | ok ps =>
        rw [e3] at h
        intro vs H2 O Z s2 pv
        have sm := s1.trans s2
        cases e4 : nodeOp m q ps with
        | none =>
          simp only [onO_ok, mopX] at h
          by_cases hL : p.i ∈ L
          · rw [if_pos hL] at h; exact h.elim
          rw [if_neg hL, envOf_get, hi] at h
          simp only [Option.bind_some, id_eq, Option.map_some, hg, e4, Option.bind_none, OX.of_none] at h
          exact h.elim
        | some u =>
          obtain ⟨On, Zn, k1, k2, k3, k4, k5, k6, k7⟩ := mop_core sr fr hi hg (pv.ahead s1) sm (at1.same s2) e4 (nodeOp_lev e4) h
          exact hr.2 e4 hm sm (pv.ahead s1) k1 k2 k3 k4 k5 k6 k7
end
end Vy

namespace Vy
open PySem PySem.Spec
open PyProof.Rows hiding St
open L2
section
variable {K : PySem.W.Frag} {CA : Nat → Addr} {H H2 : Hp} {a : Addr} {k n : Nat} {ds : List D} {vs ws : List V} {O Z : List Addr} {o : HO}
theorem keepU : Keep [a] H2 (upd H2 a o) := fun y u e hn => by rw [upd_ne (by simpa using hn)]; exact e
theorem thereU : ∀ x, H2 x ≠ none → upd H2 a o x ≠ none := fun x h => by
  by_cases e : x = a
  · subst e; rw [upd_same]; simp
  · rw [upd_ne e]; exact h
theorem fixU (h : Mut (H2 a)) : Fix [a] H2 := fun y hy => by simp at hy; subst hy; exact h
theorem Reps.updU (r : Reps K CA H2 k ds vs O Z) (m : Mut (H2 a)) (n : a ∉ O ++ Z) : Reps K CA (upd H2 a o) k ds vs O Z := r.keep keepU (fixU m) fun b hb z => by simp at z; subst z; exact n hb
theorem Rep.updU {d : D} {v : V} (r : Rep K CA H2 k d v O Z) (m : Mut (H2 a)) (n : a ∉ O ++ Z) : Rep K CA (upd H2 a o) k d v O Z := r.keep keepU (fixU m) fun b hb z => by simp at z; subst z; exact n hb
theorem lst_own {m : Nat} {xs : List D} (r : Rep K CA H2 m (.lst xs) (.ref a) O Z) (h : 1 ≤ m) : ∃ k vs O', m = k + 1 ∧ H2 a = some (.lst vs) ∧ Reps K CA H2 k xs vs O' Z ∧ O = a :: O' := by
  obtain ⟨k, a', vs, O', e1, e2, e3, e4, e5⟩ := r.lst_own h
  cases e2
  exact ⟨k, vs, O', e1, e3, e4, e5⟩
theorem dct_own {m : Nat} {ks xs : List D} (r : Rep K CA H2 m (.dct ks xs) (.ref a) O Z) (h : 1 ≤ m) : ∃ k kvs O', m = k + 1 ∧ H2 a = some (.dK kvs) ∧ KeyOk ks kvs ∧ Reps K CA H2 k xs (kvs.map (·.2)) O' Z ∧ O = a :: O' := by
  cases r with
  | dctO e ko r => exact ⟨_, _, _, rfl, e, ko, r, rfl⟩
  | dctZ e ko r => omega
end
section
variable {X : Cx} {nm : Nm} {G : Glo} {CA : Nat → Addr} {cf : Runs} {W : WX} {L : List Nat}
def TL' (X : Cx) (v : V) (H : Hp) : Prop := tyV X.K "list" v H
theorem ty_lst {q : D × Nat} {v : V} {O Z : List Addr} {H : Hp} {xs : List D} (e : q.1 = .lst xs) (r : Rep X.K CA H q.2 q.1 v O Z) : (∃ a, v = .ref a) ∧ TL' X v H := by
  rw [e] at r
  obtain ⟨a, vs, O', Z', m, rfl, h, _⟩ := r.lst_inv
  exact ⟨⟨a, rfl⟩, .inl ⟨rfl, vs, .of h⟩⟩
theorem ty_of {m : MO} (hm : m ≠ .popk ∧ m ≠ .sda ∧ m ≠ .clrk) {q : D × Nat} {v : V} {O Z : List Addr} {H : Hp} (h : mTy m q = true) (r : Rep X.K CA H q.2 q.1 v O Z) : (∃ a, v = .ref a) ∧ TL' X v H := by
  obtain ⟨d, n⟩ := q
  cases d with
  | lst xs => exact ty_lst rfl r
  | _ => exfalso; unfold mTy at h; cases m <;> simp_all
theorem m_app : MopR X CA .app (TL' X) rAppend := by
  refine ⟨fun h r => ty_of (by simp) h r, fun {q ps u M H H2 vs a On Zn O Z Q} hu hm sm pv r nd zo d1 d2 d3 k => ?_⟩
  replace hu : opApp q ps = some u := hu
  unfold opApp at hu
  split at hu <;> first | (cases hu; done) | skip
  case h_1 q1 q2 xs n p =>
    obtain ⟨hz, hu⟩ := go_some hu
    cases hu
    obtain ⟨k1, ws, O1, e1, h1, rs, rfl⟩ := lst_own r (by simp)
    have e1 : n = k1 := by simpa using e1
    subst e1
    obtain ⟨v, rfl, pv1⟩ := pv.one_inv
    have na := (List.nodup_cons.mp nd)
    have aO : a ∉ O := d1 a (by simp)
    have aZ : a ∉ Z := d3 a (by simp)
    have aZn : a ∉ Zn := fun w => zo a w (by simp)
    have mu : Mut (H2 a) := by rw [h1]; trivial
    refine ⟨a, ws, v, rfl, rfl, h1, by rw [SZ_eq, ← rs.length]; omega, ?_⟩
    have fin : ∀ (k0 : Nat) (Op Zp : List Addr), k0 ≤ n → Rep X.K CA H2 k0 p.1 v Op Zp → (∀ y ∈ Op, y ∈ O) → Op.Nodup → (∀ y ∈ Zp, y ∉ Op) → (∀ y ∈ Zp, y ∈ O ∨ y ∈ Z) → lvIn (n + 1) p = k0 + 1 → Q .non (upd H2 a (.lst (ws ++ [v]))) := by
      intro k0 Op Zp hk rp hOp ndp zop hZp hl
      obtain ⟨O2, Z2, r2, lw⟩ := rs.low hk
      have z2 : ∀ y ∈ Z2, y ≠ a ∧ y ∉ O := fun y hy => by
        rcases lw.all y hy with z | z
        · exact ⟨fun e => na.1 (e ▸ z), d1 y (by simp [z])⟩
        · exact ⟨fun e => aZn (e ▸ z), d2 y z⟩
      have rr : Reps X.K CA (upd H2 a (.lst (ws ++ [v]))) k0 (xs ++ [p.1]) (ws ++ [v]) (O2 ++ Op) (Z2 ++ Zp) := by
        have r2' := r2.updU (o := .lst (ws ++ [v])) mu fun w => by
          rcases List.mem_append.mp w with w | w
          · exact na.1 (lw.own a w)
          · exact (z2 a w).1 rfl
        have rp' := rp.updU (o := .lst (ws ++ [v])) mu fun w => by
          rcases List.mem_append.mp w with w | w
          · exact aO (hOp a w)
          · rcases hZp a w with w | w
            · exact aO w
            · exact aZ w
        have := r2'.append (.cons rp' .nil)
        simpa using this
      refine k _ (a :: (O2 ++ Op)) (Z2 ++ Zp) .non [] keepU thereU (by simp) (by rw [hl]; exact .lstO upd_same rr) ?_ ?_ ?_ ?_ .non (by simp) (by simp)
      · refine List.nodup_cons.mpr ⟨fun z => ?_, List.nodup_append.mpr ⟨lw.nd na.2, ndp, fun y hy w hw e => ?_⟩⟩
        · rcases List.mem_append.mp z with z | z
          · exact na.1 (lw.own a z)
          · exact aO (hOp a z)
        · subst e; exact d1 y (by simp [lw.own y hy]) (hOp y hw)
      · intro y hy z
        rcases List.mem_append.mp hy with q | q
        · rcases List.mem_cons.mp z with z | z
          · exact (z2 y q).1 z
          · rcases List.mem_append.mp z with z | z
            · exact lw.zo na.2 (fun y hy w => zo y hy (by simp [w])) y q z
            · exact (z2 y q).2 (hOp y z)
        · rcases List.mem_cons.mp z with z | z
          · subst z
            rcases hZp y q with w | w
            · exact aO w
            · exact aZ w
          · rcases List.mem_append.mp z with z | z
            · have := lw.own y z
              rcases hZp y q with w | w
              · exact d1 y (by simp [this]) w
              · exact d3 y (by simp [this]) w
            · exact zop y q z
      · intro y hy
        rcases List.mem_cons.mp hy with q | q
        · exact .inl (by simp [q])
        · rcases List.mem_append.mp q with q | q
          · exact .inl (by simp [lw.own y q])
          · exact .inr (hOp y q)
      · intro y hy
        rcases List.mem_append.mp hy with q | q
        · rcases lw.all y q with q | q
          · exact .inl (by simp [q])
          · exact .inr (.inl q)
        · exact (hZp y q).elim (fun z => .inr (.inr (.inl z))) fun z => .inr (.inr (.inr z))
    by_cases h0 : p.1.mdep = 0
    · obtain ⟨_, _, rp⟩ := pv1.rep.imm (m := n) h0
      exact fin n [] [] (Nat.le_refl _) rp (by simp) (by simp) (by simp) (by simp) (by unfold lvIn; rw [if_pos h0])
    · obtain ⟨Op, Zp, rp, lp⟩ := pv1.rep.low (Nat.min_le_right n p.2)
      exact fin _ Op Zp (Nat.min_le_left _ _) rp lp.own (lp.nd pv1.nd) (lp.zo pv1.nd pv1.zo) lp.all (by unfold lvIn; rw [if_neg h0]; omega)
theorem take_out {H2 : Hp} {a : Addr} {n j : Nat} {xs : List D} {x : D} {ws : List V} {O1 Zn : List Addr} (h1 : H2 a = some (.lst ws)) (rs : Reps X.K CA H2 n xs ws O1 Zn) (nd : (a :: O1).Nodup) (zo : ∀ y ∈ Zn, y ∉ a :: O1) (hx : xs[j]? = some x) (hm : x.mdep ≤ n) :
    ∃ v Ov Or Zr, ws[j]? = some v ∧ Rep X.K CA (upd H2 a (.lst (ws.eraseIdx j))) n x v Ov [] ∧ Rep X.K CA (upd H2 a (.lst (ws.eraseIdx j))) (n + 1) (.lst (xs.eraseIdx j)) (.ref a) (a :: Or) Zr ∧ (a :: Or).Nodup ∧ (∀ z ∈ Zr, z ∉ a :: Or) ∧ (∀ y ∈ a :: Or, y ∈ a :: O1) ∧ (∀ y ∈ Zr, y ∈ Zn) ∧ Ov.Nodup ∧ ∀ y ∈ Ov, y ∈ a :: O1 ∧ y ∉ a :: Or ∧ y ∉ Zr := by
  obtain ⟨v, A, B, A', B', Ov, Zv, e1, rv, rfl, rfl, ra, rb⟩ := rs.get j x hx
  have := rv.full hm
  subst this
  have na := List.nodup_cons.mp nd
  obtain ⟨n1, n2, n3⟩ := List.nodup_append.mp na.2
  obtain ⟨n4, n5, n6⟩ := List.nodup_append.mp n1
  have mu : Mut (H2 a) := by rw [h1]; trivial
  have aZ : ∀ {y}, y ∈ A' ++ B' → y ∈ A' ++ [] ++ B' := fun h => by simpa using h
  have rr := (ra.append rb).updU (o := .lst (ws.eraseIdx j)) (a := a) mu fun w => by
    rcases List.mem_append.mp w with w | w
    · exact na.1 (by rcases List.mem_append.mp w with w | w <;> simp [w])
    · exact zo a (aZ w) (by simp)
  rw [← List.eraseIdx_eq_take_drop_succ, ← List.eraseIdx_eq_take_drop_succ] at rr
  refine ⟨v, Ov, A ++ B, A' ++ B', e1, rv.updU mu fun w => na.1 (by simp at w; simp [w]), .lstO upd_same rr, ?_, ?_, ?_, fun y hy => aZ hy, n5, ?_⟩
  · refine List.nodup_cons.mpr ⟨fun w => na.1 (by rcases List.mem_append.mp w with w | w <;> simp [w]), List.nodup_append.mpr ⟨n4, n2, fun y hy z hz e => n3 y (by simp [hy]) z hz e⟩⟩
  · intro z hz w
    refine zo z (aZ hz) ?_
    rcases List.mem_cons.mp w with w | w
    · simp [w]
    · rcases List.mem_append.mp w with w | w <;> simp [w]
  · intro y hy
    rcases List.mem_cons.mp hy with w | w
    · simp [w]
    · rcases List.mem_append.mp w with w | w <;> simp [w]
  · intro y hy
    refine ⟨by simp [hy], fun w => ?_, fun w => zo y (aZ w) (by simp [hy])⟩
    rcases List.mem_cons.mp w with w | w
    · subst w; exact na.1 (by simp [hy])
    · rcases List.mem_append.mp w with w | w
      · exact n6 y w y hy rfl
      · exact n3 y (by simp [hy]) y w rfl
theorem m_popi : MopR X CA .popi (TL' X) rPopAt := by
  refine ⟨fun h r => ty_of (by simp) h r, fun {q ps u M H H2 vs a On Zn O Z Q} hu hm sm pv r nd zo d1 d2 d3 k => ?_⟩
  replace hu : opPopi q ps = some u := hu
  unfold opPopi at hu
  split at hu <;> first | (cases hu; done) | skip
  case h_1 q1 q2 xs n i m =>
    obtain ⟨hb, hu⟩ := go_some hu
    obtain ⟨j, hj, hu⟩ := Option.bind_eq_some_iff.mp hu
    obtain ⟨x, hx, hu⟩ := Option.bind_eq_some_iff.mp hu
    obtain ⟨hz, hu⟩ := go_some hu
    cases hu
    obtain ⟨k1, ws, O1, e1, h1, rs, rfl⟩ := lst_own r (by simp)
    have e1 : n = k1 := by simpa using e1
    subst e1
    obtain ⟨w, rfl, pv1⟩ := pv.one_inv
    obtain ⟨rfl, _⟩ := pv1.rep.int_inv
    obtain ⟨v, Ov, Or, Zr, g1, g2, g3, g4, g5, g6, g7, g8, g9⟩ := take_out h1 rs nd zo hx hz
    refine ⟨a, ws, i, j, v, rfl, rfl, h1, by omega, by omega, by rw [← rs.length]; exact (ixN_seq (by rw [← ix_eq]; exact hj)).1, g1, ?_⟩
    exact k _ (a :: Or) Zr v Ov keepU thereU (by simp) g3 g4 g5 (fun y hy => .inl (g6 y hy)) (fun y hy => .inr (.inl (g7 y hy))) g2 g8 g9
end
section
theorem key_eq {g k : D} {x κ : L2.Key} (hg : vKey g = some x) (hk : vKey k = some κ) : pyEq g k = decide (x = κ) := by
  rw [Bool.eq_iff_iff, decide_eq_true_eq]
  cases g <;> first | (cases hg; done) | skip
  all_goals (cases k <;> first | (cases hk; done) | skip)
  all_goals (cases hg; cases hk; simp [pyEq])
  constructor
  · intro e; rw [e]
  · exact mkS_inj
theorem key_at {k : D} {κ : L2.Key} (hk : vKey k = some κ) : ∀ {ks : List D} {kvs : List (L2.Key × V)} {j : Nat}, ks.map vKey = kvs.map (fun p => some p.1) → (kvs.map (·.1)).Nodup → ks.findIdx? (fun x => pyEq x k) = some j →
    ∃ v0, kvs[j]? = some (κ, v0) ∧ valV kvs κ = some v0 ∧ dropK kvs κ = kvs.eraseIdx j ∧ ∀ v, putK kvs κ v = kvs.set j (κ, v)
  | [], [], j, _, _, h => by simp at h
  | g :: ks, (x, w) :: kvs, j, hm, nd, h => by
    simp only [List.map_cons, List.cons.injEq] at hm
    obtain ⟨h1, h2⟩ := hm
    rw [List.map_cons, List.nodup_cons] at nd
    have eq := key_eq h1 hk
    rw [List.findIdx?_cons] at h
    by_cases e : x = κ
    · subst e
      rw [eq] at h; simp at h; subst h
      have nf : ∀ p ∈ kvs, ¬ p.1 = x := fun p hp z => nd.1 (List.mem_map.mpr ⟨p, hp, z⟩)
      refine ⟨w, rfl, by simp [valV], ?_, fun v => ?_⟩
      · unfold dropK
        rw [List.filter_cons_of_neg (by simp)]
        exact List.filter_eq_self.mpr fun p hp => by simpa using nf p hp
      · unfold putK
        rw [if_pos (by simp)]
        rw [List.map_cons]
        simp only [if_true, List.set_cons_zero, List.cons.injEq, true_and]
        conv => rhs; rw [← List.map_id kvs]
        exact List.map_congr_left fun p hp => by rw [if_neg (nf p hp)]; rfl
    · rw [eq, decide_eq_false e] at h
      simp at h
      obtain ⟨i, hi, rfl⟩ := h
      obtain ⟨v0, q1, q2, q3, q4⟩ := key_at hk h2 nd.2 hi
      refine ⟨v0, by simpa using q1, ?_, ?_, fun v => ?_⟩
      · rw [valV_neg e]; exact q2
      · unfold dropK
        rw [List.filter_cons_of_pos (by simpa using e)]
        rw [List.eraseIdx_cons_succ]
        congr 1
      · have := q4 v
        have ha : (kvs.any fun kv => decide (kv.1 = κ)) = true := by rw [valV_any]; rw [q2]; rfl
        unfold putK at this ⊢
        rw [if_pos ha] at this
        rw [if_pos (by rw [List.any_cons, ha]; simp), List.map_cons, if_neg e, this, List.set_cons_succ]
  | [], _ :: _, _, hm, _, _ => by simp at hm
  | _ :: _, [], _, hm, _, _ => by simp at hm
theorem key_no {k : D} {κ : L2.Key} (hk : vKey k = some κ) : ∀ {ks : List D} {kvs : List (L2.Key × V)}, ks.map vKey = kvs.map (fun p => some p.1) → ks.findIdx? (fun x => pyEq x k) = none →
    valV kvs κ = none ∧ κ ∉ kvs.map (·.1) ∧ ∀ v, putK kvs κ v = kvs ++ [(κ, v)] := by
  intro ks kvs hm h
  have hn : κ ∉ kvs.map (·.1) := fun w => by
    obtain ⟨p, hp, e⟩ := List.mem_map.mp w
    have : some κ ∈ ks.map vKey := by rw [hm]; exact List.mem_map.mpr ⟨p, hp, by rw [e]⟩
    obtain ⟨g, hg, e2⟩ := List.mem_map.mp this
    have := List.findIdx?_eq_none_iff.mp h g hg
    rw [key_eq e2 hk] at this
    simp at this
  have hv : valV kvs κ = none := by
    unfold valV
    rw [Option.map_eq_none_iff, List.find?_eq_none]
    intro p hp e
    exact hn (List.mem_map.mpr ⟨p, hp, by simpa using e⟩)
  exact ⟨hv, hn, fun v => putK_new v hv⟩
theorem map_eraseIdx {α β : Type} (f : α → β) : ∀ (l : List α) (j : Nat), (l.eraseIdx j).map f = (l.map f).eraseIdx j
  | [], _ => rfl
  | _ :: _, 0 => rfl
  | a :: l, j + 1 => by simp [map_eraseIdx f l j]
theorem findIdx_ex {α : Type} {p : α → Bool} : ∀ {l : List α} {j : Nat}, l.findIdx? p = some j → ∃ x, l[j]? = some x ∧ p x = true
  | [], j, h => by simp at h
  | a :: l, j, h => by
    rw [List.findIdx?_cons] at h
    by_cases e : p a = true
    · rw [if_pos e] at h; cases h; exact ⟨a, rfl, e⟩
    · rw [if_neg e] at h
      simp at h
      obtain ⟨i, hi, rfl⟩ := h
      obtain ⟨x, h1, h2⟩ := findIdx_ex hi
      exact ⟨x, by simpa using h1, h2⟩
end
section
variable {X : Cx} {nm : Nm} {G : Glo} {CA : Nat → Addr} {cf : Runs} {W : WX} {L : List Nat}
end
end Vy

namespace Vy
open PySem PySem.Spec
open PyProof.Rows hiding St
open L2
section
variable {K : PySem.W.Frag} {CA : Nat → Addr} {M : Addr → Prop} {H H2 : Hp} {a : Addr} {n : Nat} {l r : List D} {wl wr : List V} {A A' B B' O Z : List Addr} {p : D × Nat} {v : V}
theorem put_mid {o : HO} (ra : Reps K CA H2 n l wl A A') (rb : Reps K CA H2 n r wr B B') (nd : (a :: (A ++ B)).Nodup) (zo : ∀ y ∈ A' ++ B', y ∉ a :: (A ++ B)) (mu : Mut (H2 a)) (pv : PVal K CA M H H2 p.1 p.2 v O Z) (aO : a ∉ O) (aZ : a ∉ Z) (d1 : ∀ x ∈ A ++ B, x ∉ O) (d2 : ∀ x ∈ A' ++ B', x ∉ O) (d3 : ∀ x ∈ A ++ B, x ∉ Z) :
    ∃ k0 O'' Z'', k0 ≤ n ∧ lvIn (n + 1) p = k0 + 1 ∧ Reps K CA (upd H2 a o) k0 (l ++ [p.1] ++ r) (wl ++ [v] ++ wr) O'' Z'' ∧ (a :: O'').Nodup ∧ (∀ z ∈ Z'', z ∉ a :: O'') ∧ (∀ y ∈ O'', y ∈ A ++ B ∨ y ∈ O) ∧ (∀ y ∈ Z'', y ∈ A ++ B ∨ y ∈ A' ++ B' ∨ y ∈ O ∨ y ∈ Z) := by
  have na := List.nodup_cons.mp nd
  have fin : ∀ (k0 : Nat) (Op Zp : List Addr), k0 ≤ n → Rep K CA H2 k0 p.1 v Op Zp → (∀ y ∈ Op, y ∈ O) → Op.Nodup → (∀ y ∈ Zp, y ∉ Op) → (∀ y ∈ Zp, y ∈ O ∨ y ∈ Z) → lvIn (n + 1) p = k0 + 1 → ∃ k0 O'' Z'', k0 ≤ n ∧ lvIn (n + 1) p = k0 + 1 ∧ Reps K CA (upd H2 a o) k0 (l ++ [p.1] ++ r) (wl ++ [v] ++ wr) O'' Z'' ∧ (a :: O'').Nodup ∧ (∀ z ∈ Z'', z ∉ a :: O'') ∧ (∀ y ∈ O'', y ∈ A ++ B ∨ y ∈ O) ∧ (∀ y ∈ Z'', y ∈ A ++ B ∨ y ∈ A' ++ B' ∨ y ∈ O ∨ y ∈ Z) := by
    intro k0 Op Zp hk rp hOp ndp zop hZp hl
    obtain ⟨Oc, Zc, rc, lw⟩ := (ra.append rb).low hk
    -- the two parts, lowered together
    obtain ⟨A2, A2', ra2, la⟩ := ra.low hk
    obtain ⟨B2, B2', rb2, lb⟩ := rb.low hk
    have lab := la.append lb
    have ab : ∀ y ∈ A2 ++ B2, y ∈ A ++ B := lab.own
    have abz : ∀ y ∈ A2' ++ B2', y ∈ A ++ B ∨ y ∈ A' ++ B' := lab.all
    have ndab := lab.nd na.2
    have zab : ∀ y ∈ A2' ++ B2', y ∉ A2 ++ B2 := lab.zo na.2 fun y hy w => zo y hy (by simp only [List.mem_cons]; exact .inr w)
    have ra3 := ra2.updU (o := o) (a := a) mu fun w => by
      rcases List.mem_append.mp w with w | w
      · exact na.1 (ab a (by simp [w]))
      · rcases abz a (by simp [w]) with w | w
        · exact na.1 w
        · exact zo a w (by simp)
    have rb3 := rb2.updU (o := o) (a := a) mu fun w => by
      rcases List.mem_append.mp w with w | w
      · exact na.1 (ab a (by simp [w]))
      · rcases abz a (by simp [w]) with w | w
        · exact na.1 w
        · exact zo a w (by simp)
    have rp3 := rp.updU (o := o) (a := a) mu fun w => by
      rcases List.mem_append.mp w with w | w
      · exact aO (hOp a w)
      · rcases hZp a w with w | w
        · exact aO w
        · exact aZ w
    obtain ⟨nA, nB, nAB⟩ := List.nodup_append.mp ndab
    refine ⟨k0, A2 ++ Op ++ B2, A2' ++ Zp ++ B2', hk, hl, ?_, ?_, ?_, ?_, ?_⟩
    · have := (ra3.append (.cons rp3 .nil)).append rb3
      simpa using this
    · refine List.nodup_cons.mpr ⟨fun w => ?_, List.nodup_append.mpr ⟨List.nodup_append.mpr ⟨nA, ndp, fun y hy z hz e => ?_⟩, nB, fun y hy z hz e => ?_⟩⟩
      · simp only [List.mem_append] at w
        rcases w with (w | w) | w
        · exact na.1 (ab a (by simp [w]))
        · exact aO (hOp a w)
        · exact na.1 (ab a (by simp [w]))
      · subst e; exact d1 y (ab y (by simp [hy])) (hOp y hz)
      · subst e
        rcases List.mem_append.mp hy with hy | hy
        · exact nAB y hy y hz rfl
        · exact d1 y (ab y (by simp [hz])) (hOp y hy)
    · intro z hz w
      have hz' : z ∈ A2' ++ B2' ∨ z ∈ Zp := by simp only [List.mem_append] at hz ⊢; rcases hz with (h | h) | h <;> simp [h]
      rcases List.mem_cons.mp w with w | w
      · subst w
        rcases hz' with h | h
        · rcases abz z h with h | h
          · exact na.1 h
          · exact zo z h (by simp)
        · rcases hZp z h with h | h
          · exact aO h
          · exact aZ h
      · have w' : z ∈ A2 ++ B2 ∨ z ∈ Op := by simp only [List.mem_append] at w ⊢; rcases w with (h | h) | h <;> simp [h]
        rcases hz' with h | h <;> rcases w' with w | w
        · exact zab z h w
        · rcases abz z h with h | h
          · exact d1 z h (hOp z w)
          · exact d2 z h (hOp z w)
        · rcases hZp z h with h | h
          · exact d1 z (ab z w) h
          · exact d3 z (ab z w) h
        · exact zop z h w
    · intro y hy
      simp only [List.mem_append] at hy
      rcases hy with (h | h) | h
      · exact .inl (ab y (by simp [h]))
      · exact .inr (hOp y h)
      · exact .inl (ab y (by simp [h]))
    · intro y hy
      simp only [List.mem_append] at hy
      rcases hy with (h | h) | h
      · exact (abz y (by simp [h])).imp id .inl
      · exact .inr (.inr (hZp y h))
      · exact (abz y (by simp [h])).imp id .inl
  by_cases h0 : p.1.mdep = 0
  · obtain ⟨_, _, rp⟩ := pv.rep.imm (m := n) h0
    exact fin n [] [] (Nat.le_refl _) rp (by simp) (by simp) (by simp) (by simp) (by unfold lvIn; rw [if_pos h0])
  · obtain ⟨Op, Zp, rp, lp⟩ := pv.rep.low (Nat.min_le_right n p.2)
    exact fin _ Op Zp (Nat.min_le_left _ _) rp lp.own (lp.nd pv.nd) (lp.zo pv.nd pv.zo) lp.all (by unfold lvIn; rw [if_neg h0]; omega)
theorem Reps.cut : ∀ (t : Nat) {n : Nat} {xs : List D} {ws : List V} {O1 Z1 : List Addr}, Reps K CA H2 n xs ws O1 Z1 → ∃ A A' B B', O1 = A ++ B ∧ Z1 = A' ++ B' ∧ Reps K CA H2 n (xs.take t) (ws.take t) A A' ∧ Reps K CA H2 n (xs.drop t) (ws.drop t) B B'
  | 0, n, xs, ws, O1, Z1, r => ⟨[], [], O1, Z1, rfl, rfl, .nil, r⟩
  | t + 1, n, _, _, _, _, .nil => ⟨[], [], [], [], rfl, rfl, .nil, .nil⟩
  | t + 1, n, _, _, _, _, .cons (O := Oa) (Z := Za) h r => by
    obtain ⟨A, A', B, B', rfl, rfl, g1, g2⟩ := Reps.cut t r
    exact ⟨Oa ++ A, Za ++ A', B, B', by simp, by simp, .cons h g1, g2⟩
theorem put_at {o : HO} {xs : List D} {ws : List V} {O1 Zn : List Addr} {j : Nat} (rs : Reps K CA H2 n xs ws O1 Zn) (hj : j < xs.length) (nd : (a :: O1).Nodup) (zo : ∀ y ∈ Zn, y ∉ a :: O1) (mu : Mut (H2 a)) (pv : PVal K CA M H H2 p.1 p.2 v O Z) (aO : a ∉ O) (aZ : a ∉ Z) (d1 : ∀ x ∈ O1, x ∉ O) (d2 : ∀ x ∈ Zn, x ∉ O) (d3 : ∀ x ∈ O1, x ∉ Z) :
    ∃ k0 O'' Z'', k0 ≤ n ∧ lvIn (n + 1) p = k0 + 1 ∧ Reps K CA (upd H2 a o) k0 (xs.set j p.1) (ws.set j v) O'' Z'' ∧ (a :: O'').Nodup ∧ (∀ z ∈ Z'', z ∉ a :: O'') ∧ (∀ y ∈ O'', y ∈ O1 ∨ y ∈ O) ∧ (∀ y ∈ Z'', y ∈ O1 ∨ y ∈ Zn ∨ y ∈ O ∨ y ∈ Z) := by
  obtain ⟨v0, A, B, A', B', Ov, Zv, e1, rv, rfl, rfl, ra, rb⟩ := rs.get j xs[j] (List.getElem?_eq_getElem hj)
  have sub : ∀ y ∈ A ++ B, y ∈ A ++ Ov ++ B := fun y h => by rcases List.mem_append.mp h with h | h <;> simp [h]
  have subz : ∀ y ∈ A' ++ B', y ∈ A' ++ Zv ++ B' := fun y h => by rcases List.mem_append.mp h with h | h <;> simp [h]
  have na := List.nodup_cons.mp nd
  have nd' : (a :: (A ++ B)).Nodup := by
    obtain ⟨n1, n2, n3⟩ := List.nodup_append.mp na.2
    obtain ⟨n4, n5, n6⟩ := List.nodup_append.mp n1
    exact List.nodup_cons.mpr ⟨fun w => na.1 (sub a w), List.nodup_append.mpr ⟨n4, n2, fun y hy z hz e => n3 y (by simp [hy]) z hz e⟩⟩
  obtain ⟨k0, O'', Z'', h1, h2, h3, h4, h5, h6, h7⟩ := put_mid (o := o) ra rb nd' (fun y hy w => zo y (subz y hy) ((List.mem_cons.mp w).elim (fun w => by simp [w]) fun w => List.mem_cons_of_mem _ (sub y w))) mu pv aO aZ (fun x hx => d1 x (sub x hx)) (fun x hx => d2 x (subz x hx)) (fun x hx => d3 x (sub x hx))
  have hw : j < ws.length := by rw [← rs.length]; exact hj
  refine ⟨k0, O'', Z'', h1, h2, ?_, h4, h5, fun y hy => (h6 y hy).imp (sub y) id, fun y hy => (h7 y hy).imp (sub y) (Or.imp (subz y) id)⟩
  have e2 : xs.set j p.1 = xs.take j ++ [p.1] ++ xs.drop (j + 1) := by rw [List.set_eq_take_append_cons_drop, if_pos hj]; simp
  have e3 : ws.set j v = ws.take j ++ [v] ++ ws.drop (j + 1) := by rw [List.set_eq_take_append_cons_drop, if_pos hw]; simp
  rw [e2, e3]; exact h3
end
section
variable {X : Cx} {nm : Nm} {G : Glo} {CA : Nat → Addr} {cf : Runs} {W : WX} {L : List Nat}
theorem x_mapp {p : Pth} {c : C} {o e : Expr} {apos cpos : Pos} (ho : PE X o (tP X G CA cf W p)) (he : PE X e (tE X G CA cf W c)) (hb : noSup o = true) (hs : noStar e = true) (hl : (apos.endLine == cpos.line) = true) : PE X (.Call (.Attribute o "append" apos) [e] [] cpos) (tX X G CA cf W L (.mop p .app [c])) := by
  have hs1 : [e].all noStar = true := by simp [hs]
  exact PE.weak (pe_bm F.plainAttrs_list F.slot_list_append F.type_list_append mt_append ho (a_cons he a_nil (star_cons hs)) (base_ok hb) (back_few hs1 (by simp)) hl (star_cons hs) rfl) fun σ H Q h => mop_read m_app h
theorem x_mpopi {p : Pth} {c : C} {o e : Expr} {apos cpos : Pos} (ho : PE X o (tP X G CA cf W p)) (he : PE X e (tE X G CA cf W c)) (hb : noSup o = true) (hs : noStar e = true) (hl : (apos.endLine == cpos.line) = true) : PE X (.Call (.Attribute o "pop" apos) [e] [] cpos) (tX X G CA cf W L (.mop p .popi [c])) := by
  have hs1 : [e].all noStar = true := by simp [hs]
  exact PE.weak (pe_bm F.plainAttrs_list F.slot_list_pop F.type_list_pop mt_popAt ho (a_cons he a_nil (star_cons hs)) (base_ok hb) (back_few hs1 (by simp)) hl (star_cons hs) rfl) fun σ H Q h => mop_read m_popi h
end
end Vy

namespace Vy
open PySem PySem.Spec
open PyProof.Rows hiding St
open L2
section
variable {X : Cx} {nm : Nm} {G : Glo} {CA : Nat → Addr} {cf : Runs} {W : WX} {L : List Nat}
def rSetD : V → V → V → Hp → (Hp → Prop) → Prop := fun o i v H Q => ∃ a H', o = .ref a ∧ DPut H a i v H' ∧ Q H'
theorem set_any {k : Nat} (hr : Room k X.A) : PSet X (fun o i v H Q => rSetL o i v H Q ∨ rSetD o i v H Q) := by
  intro pins s σ H o i v ov iv u Q I ro ri rv h
  rcases h with h | ⟨a, H', rfl, g, q⟩
  · exact set_list pins s σ H o i v ov iv u Q I ro ri rv h
  · obtain rfl : ov = Value.ref a := ro
    exact d_setItem (hu_of hr) I g ri rv fun s' I' => ⟨H', I', q⟩
theorem mopX_some {S : Slots} {i : Nat} {rs : List Rtp} {ns : List Nat} {ps : List (D × Nat)} {f : D × Nat → Option ((D × Nat) × (D × Nat))} (h : mopX L (envOf S) i rs ns ps f ≠ .bad) : ∃ (r : Root) (q : D × Nat) (u : (D × Nat) × (D × Nat)), S[i]? = some (some r) ∧ getP (r.d, r.n) rs = some q ∧ f q = some u := by
  unfold mopX at h
  by_cases hL : i ∈ L
  · rw [if_pos hL] at h; exact absurd rfl h
  rw [if_neg hL] at h
  cases e : ((envOf S)[i]?).bind id with
  | none => rw [e] at h; exact absurd rfl h
  | some p =>
    obtain ⟨r, hr, rfl⟩ := slot_get e
    rw [e] at h
    simp only [Option.bind_some] at h
    cases e2 : getP (r.d, r.n) rs with
    | none => rw [e2] at h; exact absurd rfl h
    | some q =>
      rw [e2] at h
      simp only [Option.bind_some] at h
      cases e3 : f q with
      | none => rw [e3] at h; exact absurd rfl h
      | some u => exact ⟨r, q, u, hr, e2, e3⟩
theorem stOp_lev {q y p r : D × Nat} (h : stOp q y p = some r) : r.2 ≤ q.2 := by
  unfold stOp at h
  split at h
  · obtain ⟨j, _, e⟩ := Option.map_eq_some_iff.mp h; cases e; exact lvIn_le
  · obtain ⟨_, h⟩ := go_some h; cases h; exact lvIn_le
  · cases h
theorem st_node {M M2 : Addr → Prop} {H H0 H2 : Hp} {q y p u : D × Nat} {v w : V} {a : Addr} {On Zn O Z Ok Zk : List Addr} {Q : Hp → Prop} (hu : stOp q y p = some u) (pv : PVal X.K CA M H H2 p.1 p.2 v O Z) (pk : PVal X.K CA M2 H0 H2 y.1 y.2 w Ok Zk) (r : Rep X.K CA H2 q.2 q.1 (.ref a) On Zn) (nd : On.Nodup) (zo : ∀ x ∈ Zn, x ∉ On) (d1 : ∀ x ∈ On, x ∉ O) (d2 : ∀ x ∈ Zn, x ∉ O) (d3 : ∀ x ∈ On, x ∉ Z)
    (k : ∀ H3 O'' Z'', Keep [a] H2 H3 → (∀ x, H2 x ≠ none → H3 x ≠ none) → a ∈ On → Rep X.K CA H3 u.2 u.1 (.ref a) O'' Z'' → O''.Nodup → (∀ z ∈ Z'', z ∉ O'') → (∀ x ∈ O'', x ∈ On ∨ x ∈ O) → (∀ x ∈ Z'', x ∈ On ∨ x ∈ Zn ∨ x ∈ O ∨ x ∈ Z) → Q H3) :
    rSetL (.ref a) w v H2 Q ∨ rSetD (.ref a) w v H2 Q := by
  unfold stOp at hu
  split at hu <;> first | (cases hu; done) | skip
  case h_1 q1 q2 q3 xs n i m =>
    obtain ⟨j, hj, e⟩ := Option.map_eq_some_iff.mp hu
    cases e
    obtain ⟨k1, ws, O1, e1, h1, rs, rfl⟩ := lst_own r (by simp)
    have e1 : n = k1 := by simpa using e1
    subst e1
    obtain ⟨rfl, _⟩ := pk.rep.int_inv
    have hjl : j < xs.length := by
      have := (ixN_seq (by rw [← ix_eq]; exact hj : ixN xs.length i = some j)).2.1
      exact this
    have mu : Mut (H2 a) := by rw [h1]; trivial
    obtain ⟨k0, O'', Z'', g1, g2, g3, g4, g5, g6, g7⟩ := put_at (o := .lst (ws.set j v)) rs hjl nd zo mu pv (d1 a (by simp)) (d3 a (by simp)) (fun x hx => d1 x (List.mem_cons_of_mem _ hx)) d2 (fun x hx => d3 x (List.mem_cons_of_mem _ hx))
    refine .inl ⟨a, ws, i, j, rfl, rfl, h1, by rw [← ix_eq, ← rs.length]; exact hj, ?_⟩
    refine k _ (a :: O'') Z'' keepU thereU (by simp) (by rw [g2]; exact .lstO upd_same g3) g4 g5 (fun y hy => ?_) fun y hy => ?_
    · rcases List.mem_cons.mp hy with h | h
      · exact .inl (by simp [h])
      · exact (g6 y h).imp (List.mem_cons_of_mem _) id
    · exact (g7 y hy).imp (List.mem_cons_of_mem _) id
  case h_2 q1 q2 q3 ks xs n kd km =>
    obtain ⟨⟨hs, hz⟩, hu⟩ := go_some hu
    cases hu
    obtain ⟨κ, hκ⟩ := Option.isSome_iff_exists.mp hs
    obtain ⟨k1, kvs, O1, e1, h1, ko, rs, rfl⟩ := dct_own r (by simp)
    have e1 : n = k1 := by simpa using e1
    subst e1
    obtain ⟨ew, _, _, hbd⟩ := key_of pk.rep hκ
    have hl : kvs.length < sizeLine := by
      have := rs.length
      have e2 := congrArg List.length ko.1
      simp at this e2
      rw [SZ_eq]; omega
    have mu : Mut (H2 a) := by rw [h1]; trivial
    have D1 : ∀ x ∈ O1, x ∉ O := fun x hx => d1 x (List.mem_cons_of_mem _ hx)
    have D3 : ∀ x ∈ O1, x ∉ Z := fun x hx => d3 x (List.mem_cons_of_mem _ hx)
    refine .inr ⟨a, _, rfl, by rw [ew]; exact DPut.k h1 hl, ?_⟩
    cases hj : ks.findIdx? (fun x => pyEq x kd) with
    | some j =>
      obtain ⟨v0, g1, g2, _, g4⟩ := key_at hκ ko.1 ko.2.1 hj
      have hkv : j < kvs.length := (List.getElem?_eq_some_iff.mp g1).1
      have hjl : j < xs.length := by have := rs.length; simp at this; omega
      obtain ⟨k0, O'', Z'', g1', g2', g3, g4', g5, g6, g7⟩ := put_at (o := .dK (kvs.set j (κ, v))) rs hjl nd zo mu pv (d1 a (by simp)) (d3 a (by simp)) D1 d2 D3
      have hmap : (kvs.map (·.2)).set j v = (kvs.set j (κ, v)).map (·.2) := by rw [List.map_set]
      have hkey : (kvs.set j (κ, v)).map (·.1) = kvs.map (·.1) := by
        rw [List.map_set]
        refine List.ext_getElem? fun i => ?_
        by_cases e : j = i
        · subst e; rw [List.getElem?_set_self (by simpa using hkv), List.getElem?_map, g1]; rfl
        · rw [List.getElem?_set_ne e]
      rw [hmap] at g3
      rw [g4]
      have key : KeyOk ks (kvs.set j (κ, v)) := by
        refine ⟨?_, by rw [hkey]; exact ko.2.1, ko.2.2⟩
        have e3 : ∀ l : List (L2.Key × V), l.map (fun p => some p.1) = (l.map (·.1)).map some := fun l => by rw [List.map_map]; rfl
        rw [ko.1, e3, e3, hkey]
      refine k _ (a :: O'') Z'' keepU thereU (by simp) ?_ g4' g5 (fun y hy => ?_) fun y hy => ?_
      · show Rep X.K CA _ (lvIn (n + 1) p) (.dct (putKD ks xs kd p.1).1 (putKD ks xs kd p.1).2) _ _ _
        rw [g2']
        have : putKD ks xs kd p.1 = (ks, xs.set j p.1) := by unfold putKD; rw [hj]
        rw [this]
        exact .dctO upd_same key g3
      · rcases List.mem_cons.mp hy with h | h
        · exact .inl (by simp [h])
        · exact (g6 y h).imp (List.mem_cons_of_mem _) id
      · exact (g7 y hy).imp (List.mem_cons_of_mem _) id
    | none =>
      obtain ⟨g1, g2, g4⟩ := key_no hκ ko.1 hj
      obtain ⟨k0, O'', Z'', g1', g2', g3, g4', g5, g6, g7⟩ := put_mid (o := .dK (kvs ++ [(κ, v)])) (A := O1) (A' := Zn) (B := []) (B' := []) rs .nil (by simpa using nd) (by simpa using zo) mu pv (d1 a (by simp)) (d3 a (by simp)) (by simpa using D1) (by simpa using d2) (by simpa using D3)
      rw [g4]
      have hmap : kvs.map (·.2) ++ [v] ++ [] = (kvs ++ [(κ, v)]).map (·.2) := by simp
      rw [hmap] at g3
      have key : KeyOk (ks ++ [kd]) (kvs ++ [(κ, v)]) := by
        refine ⟨by rw [List.map_append, List.map_append, ko.1]; simp [hκ], ?_, fun s hs => ?_⟩
        · rw [List.map_append]
          exact List.nodup_append.mpr ⟨ko.2.1, by simp, fun x hx y hy e => by simp at hy; subst hy; subst e; exact g2 hx⟩
        · rcases List.mem_append.mp hs with z | z
          · exact ko.2.2 s z
          · simp at z; exact hbd s z.symm
      refine k _ (a :: O'') Z'' keepU thereU (by simp) ?_ g4' g5 (fun y hy => ?_) fun y hy => ?_
      · show Rep X.K CA _ (lvIn (n + 1) p) (.dct (putKD ks xs kd p.1).1 (putKD ks xs kd p.1).2) _ _ _
        rw [g2']
        have : putKD ks xs kd p.1 = (ks ++ [kd], xs ++ [p.1]) := by unfold putKD; rw [hj]
        rw [this]
        exact .dctO upd_same key (by simpa using g3)
      · rcases List.mem_cons.mp hy with h | h
        · exact .inl (by simp [h])
        · have := g6 y h
          simp only [List.append_nil] at this
          exact this.imp (List.mem_cons_of_mem _) id
      · have := g7 y hy
        simp only [List.append_nil] at this
        exact this.imp (List.mem_cons_of_mem _) id
theorem PVal.one {M : Addr → Prop} {H H2 : Hp} {p : D × Nat} {v : V} {O Z : List Addr} (pv : PVal X.K CA M H H2 p.1 p.2 v O Z) : PVs X.K CA M H H2 [p] [v] O Z := by
  have := PVs.cons pv .nil (by simp) (by simp)
  simpa using this
theorem st_read {p : Pth} {ck c : C} {D : Ends} {σ : St} {H : Hp} (h : tS X G CA cf W L (.st p ck c) D σ H) : tAsg (tE X G CA cf W c) (gSub (tP X G CA cf W p) (tE X G CA cf W ck) (fun o i v H Q => rSetL o i v H Q ∨ rSetD o i v H Q)) D σ H := by
  obtain ⟨S, sr, fr, h⟩ := h
  rw [exS] at h
  refine ⟨S, sr, h.onE sr fr fun q v H1 O Z e1 pv hd => ?_⟩
  refine ⟨S, sr.same pv.same, ?_⟩
  cases e2 : rsv G cf (envOf S) p.st with
  | exc x => rw [e2] at hd; exact fun cls dd H' s r => hd S σ H' cls dd (sr.same (pv.same.trans s)) fr (Step.same (pv.same.trans s)) rfl r
  | bad => rw [e2] at hd; exact hd.elim
  | ok rs =>
    rw [e2] at hd
    simp only [onE_ok] at hd
    cases e3 : ev G cf (envOf S) ck with
    | exc x => rw [e3] at hd; exact hd.elim
    | bad => rw [e3] at hd; exact hd.elim
    | ok y =>
      rw [e3] at hd
      simp only [noX_ok, onE_ok] at hd
      obtain ⟨r, q', u, hi, hg, hu⟩ := mopX_some (L := L) (fun z => by rw [z] at hd; exact hd.elim)
      refine ⟨r, q', hi, hg, fun x H2 s2 at2 => ⟨S, sr.same (pv.same.trans s2), ?_⟩⟩
      rw [e3]
      intro w H3 Ok Zk pk
      have sm := (pv.same.trans s2).trans pk.same
      have dx : DenX X.K CA W cf.io L S H [] (mopX L (envOf S) p.i rs (names c) [q] fun u => (stOp u y q).map (·, (.non, 9))) σ fun _ H4 => D.nx σ H4 := hd.onX fun p' ρ' S1 v1 H4 O1 Z1 e4 sr1 fr1 st1 he1 xv ho hz hd => hd S1 σ H4 sr1 fr1 st1 he1
      obtain ⟨st', hst, rfl⟩ := Option.map_eq_some_iff.mp hu
      have hx : ∃ a, x = .ref a := by
        obtain ⟨O1, Z1, r1, _, _⟩ := ((sr.rep _ r hi).2.same (pv.same.trans s2)).part hg at2
        refine r1.ref ?_
        unfold stOp at hst
        split at hst
        · simp [Vy.D.mdep]
        · simp [Vy.D.mdep]
        · cases hst
      obtain ⟨a, rfl⟩ := hx
      obtain ⟨On, Zn, k1, k2, k3, k4, k5, k6, k7⟩ := mop_core sr fr hi hg ((pv.later (s2.trans pk.same)).one) sm (at2.same pk.same) hu (stOp_lev hst) dx
      exact st_node hst (pv.later (s2.trans pk.same)) pk k1 k2 k3 k4 k5 k6 fun H4 O'' Z'' a1 a2 a3 a4 a5 a6 a7 a8 => k7 H4 O'' Z'' .non [] a1 a2 a3 a4 a5 a6 a7 a8 .non (by simp) (by simp)
theorem s_st {k : Nat} {p : Pth} {ck c : C} {o ek e : Expr} {spos pos : Pos} (hr : Room k X.A) (ho : PE X o (tP X G CA cf W p)) (hk : PE X ek (tE X G CA cf W ck)) (he : PE X e (tE X G CA cf W c)) (hl : noLc e = true)
    (ha : ∀ v, assign (.Subscript o ek spos) X.env v = (do
      let ov ← holding [v] (eval o X.env)
      let iv ← holding [v, ov] (eval ek X.env)
      standAt spos
      holding [v, ov, iv] (setItem ov iv v)
      release [v, ov, iv] [])) (hs : swapsWithSole [.Subscript o ek spos] e pos.line X.env = pure false) :
    PS X (.Assign [.Subscript o ek spos] e pos) (tS X G CA cf W L (.st p ck c)) := PS.weak (ps_asg he (pg_sub ho hk (set_any hr) ha) hs rfl rfl) fun D σ H h => st_read h
theorem putF_at {f : Cs} {v : V} : ∀ {fs : List Cs} {fvs : List (Str × V)} {j : Nat}, fs.map mkS = fvs.map (·.1) → fs.findIdx? (· == f) = some j → putF (mkS f) v fvs = fvs.set j (mkS f, v)
  | [], [], j, _, h => by simp at h
  | g :: fs, (x, w) :: fvs, j, hm, h => by
    simp only [List.map_cons, List.cons.injEq] at hm
    obtain ⟨h1, h2⟩ := hm
    rw [List.findIdx?_cons] at h
    by_cases e : g = f
    · subst e
      simp at h; subst h
      rw [putF, if_pos h1.symm]; simp [h1]
    · have e' : (g == f) = false := by simpa using e
      rw [e'] at h
      simp at h
      obtain ⟨k, hk, rfl⟩ := h
      have ne : ¬ x = mkS f := fun z => e (mkS_inj (h1.trans z))
      rw [putF, if_neg ne, putF_at h2 hk]; rfl
  | [], _ :: _, j, hm, h => by simp at hm
  | _ :: _, [], j, hm, h => by simp at hm
theorem putF_no {f : Cs} {v : V} : ∀ {fs : List Cs} {fvs : List (Str × V)}, fs.map mkS = fvs.map (·.1) → fs.findIdx? (· == f) = none → putF (mkS f) v fvs = fvs ++ [(mkS f, v)]
  | [], [], _, _ => rfl
  | g :: fs, (x, w) :: fvs, hm, h => by
    simp only [List.map_cons, List.cons.injEq] at hm
    obtain ⟨h1, h2⟩ := hm
    have hall := List.findIdx?_eq_none_iff.mp h
    have e : ¬ g = f := by simpa using hall g (by simp)
    have ne : ¬ x = mkS f := fun z => e (mkS_inj (h1.trans z))
    rw [putF, if_neg ne, putF_no h2 (List.findIdx?_eq_none_iff.mpr fun y hy => hall y (by simp [hy]))]; rfl
  | [], _ :: _, hm, h => by simp at hm
  | _ :: _, [], hm, h => by simp at hm
theorem stfOp_lev {q p r : D × Nat} {f : Cs} (h : stfOp q f p = some r) : r.2 ≤ q.2 := by
  unfold stfOp at h
  split at h
  · obtain ⟨_, h⟩ := go_some h
    split at h <;> (cases h; exact lvIn_le)
  · cases h
theorem s_stf {p : Pth} {f : Cs} {fn : Str} {c : C} {o e : Expr} {fl : List Cs} {apos pos : Pos} (cc : ClsC X CA fl) (hf : f ∈ fl) (hn : fn = mkS f) (ho : PE X o (tP X G CA cf W p)) (he : PE X e (tE X G CA cf W c)) (hl : noLc e = true) :
    PS X (.Assign [.Attribute o fn apos] e pos) (tS X G CA cf W L (.stf p f c)) := by
  subst hn
  refine PS.weak (ps_fld ho he (no_swap hl)) fun D σ H ⟨S, sr, fr, h⟩ => ?_
  rw [exS] at h
  refine ⟨S, sr, h.onE sr fr fun q v H1 O Z e1 pv hd => ?_⟩
  refine ⟨S, sr.same pv.same, ?_⟩
  cases e2 : rsv G cf (envOf S) p.st with
  | exc x => rw [e2] at hd; exact fun cls dd H' s r => hd S σ H' cls dd (sr.same (pv.same.trans s)) fr (Step.same (pv.same.trans s)) rfl r
  | bad => rw [e2] at hd; exact hd.elim
  | ok rs =>
    rw [e2] at hd
    simp only [onE_ok] at hd
    obtain ⟨r, q', u, hi, hg, hu⟩ := mopX_some (L := L) (fun z => by rw [z] at hd; exact hd.elim)
    refine ⟨r, q', hi, hg, fun x H2 s2 at2 => ?_⟩
    have sm := pv.same.trans s2
    have dx : DenX X.K CA W cf.io L S H [] (mopX L (envOf S) p.i rs (names c) [q] fun u => (stfOp u f q).map (·, (.non, 9))) σ fun _ H4 => D.nx σ H4 := hd.onX fun p' ρ' S1 v1 H4 O1 Z1 e4 sr1 fr1 st1 he1 xv ho hz hd => hd S1 σ H4 sr1 fr1 st1 he1
    obtain ⟨st', hst, rfl⟩ := Option.map_eq_some_iff.mp hu
    obtain ⟨O1, Z1, r1, _, _⟩ := ((sr.rep _ r hi).2.same sm).part hg at2
    have hst0 := hst
    unfold stfOp at hst
    split at hst <;> first | (cases hst; done) | skip
    rename_i q1 q2 q3 c0 fs vs n
    obtain ⟨⟨hc, hlen⟩, hst⟩ := go_some hst
    obtain ⟨a, rfl⟩ := r1.ref (by simp [Vy.D.mdep])
    obtain ⟨On, Zn, k1, k2, k3, k4, k5, k6, k7⟩ := mop_core sr fr hi hg ((pv.later s2).one) sm at2 hu (stfOp_lev hst0) dx
    have k1 : Rep X.K CA H2 (n + 1) (.ins c0 fs vs) (.ref a) On Zn := k1
    cases k1 with
    | @insO _ _ _ _ _ dx0 fvs O2 _ e3 ko rs2 =>
    have mu : Mut (H2 a) := by rw [e3]; trivial
    have hfl : fvs.length < 1000 := by have := congrArg List.length ko; simp at this; omega
    have D1 : ∀ x ∈ O2, x ∉ O := fun x hx => k4 x (List.mem_cons_of_mem _ hx)
    have D3 : ∀ x ∈ O2, x ∉ Z := fun x hx => k6 x (List.mem_cons_of_mem _ hx)
    refine ⟨a, CA c0, dx0, fvs, rfl, e3, cc.cl c0 hc, cc.no c0 hc _ hf, hfl, ?_⟩
    cases hj : fs.findIdx? (· == f) with
    | some j =>
      rw [hj] at hst
      cases hst
      obtain ⟨xf, hx1, hx2⟩ := findIdx_ex hj
      have hxf : xf = f := by simpa using hx2
      have hjf : j < fvs.length := by
        have := (List.getElem?_eq_some_iff.mp hx1).1
        have e4 := congrArg List.length ko
        simp at e4; omega
      have hjl : j < vs.length := by have := rs2.length; simp at this; omega
      obtain ⟨k0, O'', Z'', g1, g2, g3, g4, g5, g6, g7⟩ := put_at (o := .ins (CA c0) dx0 (fvs.set j (mkS f, v))) rs2 hjl k2 k3 mu (pv.later s2) (k4 a (by simp)) (k6 a (by simp)) D1 k5 D3
      rw [putF_at ko hj]
      refine k7 _ (a :: O'') Z'' .non [] keepU thereU (by simp) ?_ g4 g5 (fun y hy => ?_) (fun y hy => ?_) .non (by simp) (by simp)
      · show Rep X.K CA _ (lvIn (n + 1) q) _ _ _ _
        rw [g2]
        refine .insO upd_same ?_ (by rw [List.map_set]; exact g3)
        rw [List.map_set, ko]
        refine List.ext_getElem? fun i => ?_
        by_cases e : j = i
        · subst e
          rw [List.getElem?_set_self (by simpa using hjf), ← ko, List.getElem?_map, hx1, hxf]; rfl
        · rw [List.getElem?_set_ne e]
      · rcases List.mem_cons.mp hy with h | h
        · exact .inl (by simp [h])
        · exact (g6 y h).imp (List.mem_cons_of_mem _) id
      · exact (g7 y hy).imp (List.mem_cons_of_mem _) id
    | none =>
      rw [hj] at hst
      cases hst
      obtain ⟨k0, O'', Z'', g1, g2, g3, g4, g5, g6, g7⟩ := put_mid (o := .ins (CA c0) dx0 (fvs ++ [(mkS f, v)])) (A := O2) (A' := Zn) (B := []) (B' := []) rs2 .nil (by simpa using k2) (by simpa using k3) mu (pv.later s2) (k4 a (by simp)) (k6 a (by simp)) (by simpa using D1) (by simpa using k5) (by simpa using D3)
      rw [putF_no ko hj]
      refine k7 _ (a :: O'') Z'' .non [] keepU thereU (by simp) ?_ g4 g5 (fun y hy => ?_) (fun y hy => ?_) .non (by simp) (by simp)
      · show Rep X.K CA _ (lvIn (n + 1) q) _ _ _ _
        rw [g2]
        exact .insO upd_same (by simp [ko]) (by simpa using g3)
      · rcases List.mem_cons.mp hy with h | h
        · exact .inl (by simp [h])
        · have := g6 y h
          simp only [List.append_nil] at this
          exact this.imp (List.mem_cons_of_mem _) id
      · have := g7 y hy
        simp only [List.append_nil] at this
        exact this.imp (List.mem_cons_of_mem _) id
end
end Vy

namespace Vy
open PySem PySem.Spec
open PyProof.Rows hiding St
open L2
section
variable {X : Cx}
end
end Vy

namespace L2
open PySem PySem.Spec PyProof.Rows
section
variable {X : Cx} {CX : CXT} {k : Nat} {f C : Addr} {fd : FuncData} {ps : List Str} {sp : Sp} {E : St → XK} {x m : Str} {p pos apos : Pos} {e o : Expr} {es : List Expr} {ta : TE} {t : TA}
theorem run_makeS {pins : List (Addr × Obj)} {σ : St} {H : Hp} {s : Shared} {Q : VK} {us : List Value} {vs : List V} (M : Mk X.K C f) (F : FnOk X.prog X.w X.K X.mg X.base CX k f fd ps sp) (hr : Room (k + 1) X.A) (hb : Binds X.K fd ps []) (hx : PassesAt CX X σ (E σ)) (I : Inv X pins σ H s) (r : Vals vs us)
    (h : ∀ x dx, H x = none → H dx = none → dx ≠ x → sp (.ref x :: vs) (upd (upd H dx (.own x)) x (.ins C dx [])) (fun v H2 => v = .non ∧ Q (.ref x) H2) (E σ)) :
    wpAny (model X.prog X.w) X.A (call (.ref C) us) (EP X pins σ Q) X.xe s := by
  have hq := h (s.heap.objs.size + 1) s.heap.objs.size (I.hok.fresh (Nat.le_succ _)) (I.hok.fresh (Nat.le_refl _)) (Nat.ne_of_lt (Nat.lt_succ_self _))
  have I2 := Inv.made (C := C) I
  have r2 : Vals (V.ref (s.heap.objs.size + 1) :: vs) (Value.ref (s.heap.objs.size + 1) :: us) := .cons rfl r
  have hl : (Value.ref (s.heap.objs.size + 1) :: us).length = ps.length := by
    have e := r2.length
    rw [F.len _ _ _ _ hq] at e
    exact e.symm
  have b := hb _ (Value.ref (s.heap.objs.size + 1) :: us) I2.kIn (by rw [List.append_nil]; exact hl)
  rw [List.append_nil] at b
  refine wpAny_call (make_map (f := f) I.kIn M.makes M.init (beq_iff_eq.mp M.fn) (codeAny_mono (F.run _ X.stack _ _ ⟨Value.ref (s.heap.objs.size + 1) :: us, []⟩ (Value.ref (s.heap.objs.size + 1) :: us) _ _ (E σ) (hr.make C us [])
    (I2.env0.make C us []) b r2 hq) fun r s' hq' => ?_))
  cases r with
  | error e => exact hx pins _ _ e s' I2 hq'
  | ok fl =>
    cases fl with
    | ret u =>
      obtain ⟨v, H', I3, rv, ev, q3⟩ := I2.after hq'
      subst ev
      exact ⟨rv, ⟨V.ref (s.heap.objs.size + 1), H', I3, rfl, q3⟩⟩
    | next => exact False.elim hq'
    | brk => exact False.elim hq'
    | cont => exact False.elim hq'
def tMakeW (C : Addr) (sp : Sp) (E : St → XK) (t : TA) : TE := fun σ H Q => t σ H fun vs H1 => ∀ x dx, H1 x = none → H1 dx = none → dx ≠ x → sp (.ref x :: vs) (upd (upd H1 dx (.own x)) x (.ins C dx [])) (fun v H2 => v = .non ∧ Q (.ref x) H2) (E σ)
theorem pe_makeW (M : Mk X.K C f) (F : FnOk X.prog X.w X.K X.mg X.base CX k f fd ps sp) (hr : Room (k + 1) X.A) (hg : Gl X x) (hm : X.mg x = some (.ref C)) (hb : Binds X.K fd ps []) (hx : ∀ σ, PassesAt CX X σ (E σ))
    (ha : PA X (e :: es) t) (hdb : (x == ("__debug__" : Str)) = false) (he : starEach (e :: es) X.env = (false, eval e X.env) :: starEach es X.env) (hpl : (backTo pos (starEach es X.env)).any (·.1) = false) :
    PE X (.Call (.Name x p) (e :: es) [] pos) (tMakeW C sp E t) := by
  refine ⟨fun pins s σ H Q I h => ?_⟩
  refine wpAny_Call_Name_kw (ld_glob I hg hm ?_ hdb)
  refine PySem.W.callWith_K (h₀ := X.base) I.ok.mod.kin M.kp (thn (ha.run pos pins s σ H _ I h) fun us s1 ⟨vs, H1, I1, r, q⟩ => ⟨I1.kIn, ?_⟩) he hpl
  exact run_makeS M F hr hb (hx σ) I1 r q
def tMeW (C : Addr) (m : Str) (sp : Sp) (E : St → XK) (ta : TE) (t : TA) : TE := fun σ H Q => ta σ H fun x H1 => ∃ a dx fs, x = .ref a ∧ H1 a = some (.ins C dx fs) ∧ fs.lookup m = none ∧ t σ H1 fun vs H2 => sp (x :: vs) H2 Q (E σ)
theorem pe_meW {pl : Sem Bool} (he : PE X o ta) (c : Cls X.K C) (hm : Meth X.K C m f) (F : FnOk X.prog X.w X.K X.mg X.base CX k f fd ps sp) (hr : Room k X.A) (hb : Binds X.K fd ps []) (hx : ∀ σ, PassesAt CX X σ (E σ)) (ha : PA X (e :: es) t)
    (hst : starEach (e :: es) X.env = (false, eval e X.env) :: starEach es X.env) (hpl : (backTo pos (starEach es X.env)).any (·.1) = false)
    (ht : eval (.Call (.Attribute o m apos) (e :: es) [] pos) X.env = (do
      let ov ← eval o X.env
      standAt apos.atName
      let (f, first) ← holding [ov] (getMethod ov m pl)
      callWith pos f first (backTo pos (starEach (e :: es) X.env)) (backToKw pos (keywordEach [] X.env)))) :
    PE X (.Call (.Attribute o m apos) (e :: es) [] pos) (tMeW C m sp E ta t) := by
  refine ⟨fun pins s σ H Q I h => ?_⟩
  refine PySem.W.methodCall_KW (pl := pl) (thn (he.run pins s σ H _ I h) fun u s1 ⟨x, H1, I1, rx, a, dx, fs, ex, ea, l, q⟩ => ?_) ht
  subst ex
  obtain rfl : u = Value.ref a := rx
  refine getmeth_ok I1 ea c hm l ?_
  refine PySem.W.callWith_K (first := [.ref a]) (h₀ := X.base) I.ok.mod.kin hm.kp (thn (ha.run pos pins s1 σ H1 _ I1 q) fun us s2 ⟨vs, H2, I2, r, q2⟩ => ⟨I2.kIn, ?_⟩) hst hpl
  exact run_fnS (us := .ref a :: us) (vs := .ref a :: vs) F hr hb (hx σ) I2 (.cons rfl r) q2
theorem pe_meW0 {pl : Sem Bool} (he : PE X o ta) (c : Cls X.K C) (hm : Meth X.K C m f) (F : FnOk X.prog X.w X.K X.mg X.base CX k f fd ps sp) (hr : Room k X.A) (hb : Binds X.K fd ps []) (hx : ∀ σ, PassesAt CX X σ (E σ))
    (ht : eval (.Call (.Attribute o m apos) [] [] pos) X.env = (do
      let ov ← eval o X.env
      standAt apos.atName
      let (f, first) ← holding [ov] (getMethod ov m pl)
      callWith pos f first (backTo pos (starEach [] X.env)) (backToKw pos (keywordEach [] X.env)))) :
    PE X (.Call (.Attribute o m apos) [] [] pos) (tMeW C m sp E ta tNil) := by
  refine ⟨fun pins s σ H Q I h => ?_⟩
  refine PySem.W.methodCall_KW (pl := pl) (thn (he.run pins s σ H _ I h) fun u s1 ⟨x, H1, I1, rx, a, dx, fs, ex, ea, l, q⟩ => ?_) ht
  subst ex
  obtain rfl : u = Value.ref a := rx
  refine getmeth_ok I1 ea c hm l ?_
  exact PySem.W.callWith_K0 (first := [.ref a]) I1.kIn hm.kp (run_fnS (us := [.ref a]) (vs := [.ref a]) F hr hb (hx σ) I1 (.cons rfl .nil) q)
end
end L2
namespace Vy
open PySem PySem.Spec
open PyProof.Rows hiding St
open L2
theorem lookup_no {m : Str} : ∀ {fvs : List (Str × V)}, m ∉ fvs.map (·.1) → fvs.lookup m = none
  | [], _ => rfl
  | (k, v) :: r, h => by
    simp only [List.map_cons, List.mem_cons, not_or] at h
    rw [List.lookup_cons, beq_eq_false_iff_ne.mpr h.1]
    exact lookup_no h.2
theorem mkS_nin {m : Cs} {fs : List Cs} (h : m ∉ fs) : mkS m ∉ fs.map mkS := fun z => by
  obtain ⟨f, hf, e⟩ := List.mem_map.mp z
  exact h (by rw [← mkS_inj e]; exact hf)
section
variable {sc : Scope} {X : Cx} {nm : Nm} {G : Glo} {CA : Nat → Addr} {cf : Runs} {np : Nat → Option Nat} {nio : Nat → Option (Nat × List Nat)} {bl : List Str} {W : WX} {L : List Nat}
theorem tl_mono {cs : List C} {σ : St} {H : Hp} {Q Q' : List V → Hp → Prop} (w : ∀ vs H, Q vs H → Q' vs H) (h : tL X G CA cf W cs σ H Q) : tL X G CA cf W cs σ H Q' := by
  obtain ⟨S, sr, h⟩ := h
  refine ⟨S, sr, ?_⟩
  cases e : evs G cf (envOf S) cs with
  | ok ps => rw [e] at h; exact fun vs H' O Z s pv => w _ _ (h vs H' O Z s pv)
  | exc x => rw [e] at h; exact h
  | bad => rw [e] at h; exact h
theorem x_mk (B : En sc X nm G CA cf np bl W) (f n c fi : Nat) {x : Str} {cs : List C} {e : Expr} {es : List Expr} {p pos : Pos} (hf : np f = some n) (hx : x = nm.fn f) (hmt : nm.mt f = .mk c fi) (hn : cs.length = n) (h : gloB sc x = true) (hd : dbg x = true) (hs : (e :: es).all noStar = true)
    (ha : PA X (e :: es) (tL X G CA cf W cs)) : PE X (.Call (.Name x p) (e :: es) [] pos) (tE X G CA cf W (.cal f cs)) := by
  obtain ⟨k, hr, hF, h2k, _⟩ := B.cx.lev
  obtain ⟨a, fd, ps, h1, h2, h3, h4, h5⟩ := (hF f n hf).ex
  rw [hmt] at h1 h5
  obtain ⟨h1, M⟩ := h1
  rw [← hx] at h1
  rw [List.all_cons, Bool.and_eq_true] at hs
  have h5 : FnOk X.prog X.w X.K X.mg X.base (CXm nm.m X.prog X.w) (k - 1) a fd ps (spK X.K CA cf n f c) := h5
  refine PE.weak (pe_makeW M h5 (by rw [show k - 1 + 1 = k by omega]; exact hr) (B.gl h) h1 h3 (fun σ => B.tk.pass σ) ha (dbg_ok hd).1 (star_cons hs.1) (back_any hs.2)) fun σ H Q ⟨S, sr, h⟩ => ?_
  exact tl_mono (fun vs H1 q x dx a b c => ⟨x, dx, vs, H1, Q, rfl, a, b, c, rfl, q, fun H2 r => ⟨rfl, r⟩⟩) (spF_of sr hn h)
theorem x_me0 (B : En sc X nm G CA cf np bl W) (f c : Nat) (m : Cs) {mn : Str} {co : C} {eo : Expr} {pl : Sem Bool} {apos pos : Pos} (hf : np f = some 1) (hmt : nm.mt f = .me c m) (hm : mn = mkS m) (ho : PE X eo (tE X G CA cf W co))
    (ht : eval (.Call (.Attribute eo (mkS m) apos) [] [] pos) X.env = (do
      let ov ← eval eo X.env
      standAt apos.atName
      let (f, first) ← holding [ov] (getMethod ov (mkS m) pl)
      callWith pos f first (backTo pos (starEach [] X.env)) (backToKw pos (keywordEach [] X.env)))) :
    PE X (.Call (.Attribute eo mn apos) [] [] pos) (tE X G CA cf W (.cal f [co])) := by
  subst hm
  obtain ⟨k, hr, hF, h2k, _⟩ := B.cx.lev
  obtain ⟨⟨a, fd, ps, h1, h2, h3, h4, h5⟩, hgd⟩ := hF f 1 hf
  rw [hmt] at h1 h5
  obtain ⟨h1, hC⟩ := h1
  have h5 : FnOk X.prog X.w X.K X.mg X.base (CXm nm.m X.prog X.w) k a fd ps (spF X.K CA cf 1 f) := h5
  refine PE.weak (pe_meW0 ho hC h1 h5 hr h3 (fun σ => B.tk.pass σ) ht) fun σ H Q ⟨S, sr, h⟩ => ?_
  rw [ev, evs, evs] at h
  refine ⟨S, sr, ?_⟩
  cases e1 : ev G cf (envOf S) co with
  | exc x => rw [e1] at h; exact h
  | bad => rw [e1] at h; exact h
  | ok q =>
    rw [e1] at h
    have h : Den X.K CA W (Nod S (names (.cal f [co]))) (cf.pl f [q.1]) σ H Q := h
    intro v H1 O Z pv
    obtain ⟨Z', p0⟩ := pv.at0
    have hnb : cf.pl f [q.1] ≠ .bad := fun z => by rw [z] at h; exact h
    obtain ⟨fs, us, r, e2, hmf⟩ := hgd c m hmt [q.1] hnb
    have e3 : q.1 = .ins c fs us := by
      simp only [List.cons.injEq] at e2
      exact e2.1
    have sp : spF X.K CA cf 1 f [v] H1 Q (WE W σ) := by
      refine ⟨rfl, [q.1], Z', by simpa using Reps.cons p0.rep .nil, ?_⟩
      cases e4 : cf.pl f [q.1] with
      | bad => exact absurd e4 hnb
      | exc x => rw [e4] at h; exact fun cls dd H' s r => h cls dd H' (p0.same.trans s) r
      | ok y =>
        rw [e4] at h
        intro v2 H2 O2 Z2 pw
        refine h v2 H2 O2 Z2 ⟨p0.same.trans pw.same, pw.rep, fun a q => same_none p0.same (pw.fresh a q), pw.nd, fun a q => ?_, pw.zo⟩
        rcases pw.zin a q with z | z
        · exact .inl (same_none p0.same z)
        · exact (p0.zin a z).imp id fun w => Nod.mono (fun i hi => by simpa [names, namesL] using hi) w
    have rq := p0.rep
    rw [e3] at rq
    cases rq with
    | @insZ b _ _ _ dx fvs _ _ e ko r0 =>
      refine ⟨b, dx, fvs, rfl, e, lookup_no (by rw [← ko]; exact mkS_nin hmf), ?_⟩
      exact sp
theorem lookD_idx {f : Cs} {d' : D} : ∀ {fs : List Cs} {us : List D}, lookD f fs us = some d' → ∃ j, fs.findIdx? (· == f) = some j ∧ us[j]? = some d'
  | [], _, h => by simp [lookD] at h
  | g :: fs, [], h => by simp [lookD] at h
  | g :: fs, u :: us, h => by
    rw [lookD] at h
    split at h
    · rename_i hg
      cases h
      exact ⟨0, by rw [List.findIdx?_cons, hg]; rfl, rfl⟩
    · rename_i hg
      obtain ⟨j, h1, h2⟩ := lookD_idx h
      exact ⟨j + 1, by rw [List.findIdx?_cons]; simp [hg, h1], h2⟩
theorem x_fld (B : En sc X nm G CA cf np bl W) {fl : List Cs} (cc : ClsC X CA fl) (f : Cs) {fn : Str} {c : C} {e : Expr} {pos : Pos} (hf : f ∈ fl) (hn : fn = mkS f) (he : PE X e (tE X G CA cf W c)) (hb : noSup e = true) : PE X (.Attribute e fn pos) (tE X G CA cf W (.fld c f)) := by
  subst hn
  refine PE.weak (pe_fld he (base_ok hb)) fun σ H Q ⟨S, sr, h⟩ => ?_
  rw [ev] at h
  refine ⟨S, sr, ?_⟩
  cases e1 : ev G cf (envOf S) c with
  | exc x => rw [e1] at h; exact h
  | bad => rw [e1] at h; exact h
  | ok q =>
    rw [e1] at h
    simp only [Out.bind_ok] at h
    intro v H1 O Z pv
    obtain ⟨Z', p0⟩ := pv.at0
    obtain ⟨d, n⟩ := q
    cases d <;> first | (exact h.elim) | skip
    rename_i c1 fs us
    obtain ⟨hc, h⟩ := Den.gd h
    cases e2 : lookD f fs us with
    | none => rw [e2] at h; exact h.elim
    | some d' =>
      rw [e2] at h
      have rq := p0.rep
      cases rq with
      | @insZ b _ _ _ dx fvs _ _ e ko r0 =>
        obtain ⟨j, hj, hk⟩ := lookD_idx e2
        obtain ⟨v1, A, B2, A', B', O1, Z1, y1, r1, eO, eZ, _, _⟩ := r0.get j d' hk
        have lk := findIdx_lookup ko hj y1
        have hO : O1 = [] := by
          have := List.append_eq_nil_iff.mp eO.symm
          exact (List.append_eq_nil_iff.mp this.1).2
        subst hO
        refine ⟨b, CA c1, dx, fvs, v1, rfl, e, cc.cl c1 hc, cc.no c1 hc f hf, lk, h v1 H1 [] Z1 ⟨p0.same, r1, by simp, by simp, fun a ha => ?_, by simp⟩⟩
        refine p0.zin a ?_
        rw [eZ]
        simp [ha]
end
section
variable {P : Program} {w : World} {K : PySem.W.Frag} {mg : Str → Option Value} {T : Tb} {G : Glo} {CA : Nat → Addr} {Pr : Nat → Option Def} {nio : Nat → Option (Nat × List Nat)}
theorem spI_of_spK {k n f c fi nl : Nat} {b : List S} {io : List Nat} (hPr : Pr f = some ⟨n, nl, b, io, .mk c fi⟩) {vs' : List V} {H' : Hp} {Q' : VK} {E : XK}
    (h : spK K CA ⟨fun g ds => plainO (runI G Pr (k + 1) g (ds.map fun x => (x, 0))), runI G Pr (k + 1), []⟩ n f c vs' H' Q' E) : spI K CA (runI G Pr k) (n + 1) [0] fi vs' H' Q' E := by
  obtain ⟨x, dx, vs, H, Q, rfl, hx, hdx, hne, rfl, ⟨hl, ds, Z, r, hd⟩, hQ⟩ := h
  have hdl : ds.length = n := by rw [r.length]; exact hl
  have hd : Den K CA (fun cls dd _ H' => E cls dd H') (fun a => a ∈ Z) (plainO (runI G Pr (k + 1) f (ds.map fun x => (x, 0)))) [] H Q := hd
  rw [runI_mk G Pr k f _ _ c fi hPr (by simpa using hdl) rfl] at hd
  obtain ⟨rs, h1, h2, h3⟩ := roots_of r
  have sm : Same H (upd (upd H dx (.own x)) x (.ins (CA c) dx [])) := fun a o e => by
    have n1 : a ≠ x := fun z => by rw [z, hx] at e; cases e
    have n2 : a ≠ dx := fun z => by rw [z, hdx] at e; cases e
    rw [upd_ne n1, upd_ne n2]
    exact e
  generalize hH1 : upd (upd H dx (.own x)) x (.ins (CA c) dx []) = H1 at sm ⊢
  have rx : Rep K CA H1 9 (.ins c [] []) (.ref x) [x] [] := .insO (n := 8) (dx := dx) (fvs := []) (by rw [← hH1]; exact upd_same) rfl .nil
  have get0 : ∀ {i : Nat} {q : Root}, (((⟨.ins c [] [], 9, .ref x, [x], []⟩ : Root) :: rs).map some)[i]? = some (some q) → (i = 0 ∧ q = ⟨.ins c [] [], 9, .ref x, [x], []⟩) ∨ q ∈ rs := fun {i q} e => by
    cases i with
    | zero => simp at e; exact .inl ⟨rfl, e.symm⟩
    | succ i => exact .inr (List.mem_of_getElem? (get_some (by simpa using e)))
  have own0 : ∀ {i : Nat} {a : Addr}, OwnAt (((⟨.ins c [] [], 9, .ref x, [x], []⟩ : Root) :: rs).map some) i a → i = 0 ∧ a = x := fun {i a} ⟨q, e, w⟩ => by
    rcases get0 e with ⟨h, rfl⟩ | h
    · exact ⟨h, by simpa using w⟩
    · rw [(h3 q h).2.1] at w; simp at w
  have any0 : ∀ {a : Addr}, Any (((⟨.ins c [] [], 9, .ref x, [x], []⟩ : Root) :: rs).map some) a → a = x ∨ a ∈ Z := fun {a} ⟨i, q, e, w⟩ => by
    rcases get0 e with ⟨h, rfl⟩ | h
    · exact .inl (by simpa using w)
    · obtain ⟨_, e1, e2⟩ := h3 q h
      rw [e1] at w
      exact .inr (e2 a (by simpa using w))
  refine ⟨by simp [hl], ⟨.ins c [] [], 9, .ref x, [x], []⟩ :: rs, ⟨by simp [← h2], fun i q e => ?_⟩, ⟨fun i q e => ?_, fun i j a p q => (own0 p).1.trans (own0 q).1.symm, fun i a p j q e => ?_⟩, ?_⟩
  · cases i with
    | zero => simp at e; subst e; exact ⟨by simp, rx⟩
    | succ i =>
      have e : (rs.map some)[i]? = some (some q) := by simpa using e
      have g := get_some e
      refine ⟨?_, (h3 q (List.mem_of_getElem? g)).1.same sm⟩
      rw [List.map_cons, List.getElem?_cons_succ, ← h2, List.map_map, List.getElem?_map, g]; rfl
  · rcases get0 e with ⟨_, rfl⟩ | h
    · simp
    · rw [(h3 q h).2.1]; simp
  · obtain ⟨_, rfl⟩ := own0 p
    rcases get0 e with ⟨_, rfl⟩ | h
    · simp
    · exact fun z => (h3 q h).1.there a (by simp [z]) hx
  · rw [show (((⟨.ins c [] [], 9, .ref x, [x], []⟩ : Root) :: rs).map fun r => (r.d, r.n)) = (.ins c [] [], 9) :: ds.map (fun d => (d, 0)) from by rw [List.map_cons, h1]]
    have smS : ∀ {A' H'}, Step [0] [] (((⟨.ins c [] [], 9, .ref x, [x], []⟩ : Root) :: rs).map some) H1 A' H' → Same H H' := fun {A' H'} s a o e => s.keep a o (sm a o e) fun ⟨i, _, q⟩ => by
      obtain ⟨_, rfl⟩ := own0 q
      rw [hx] at e; cases e
    have one : ∀ {A' : Slots} {ios : List (D × Nat)}, iosOf [0] (envOf A') = some ios → ∃ r0 : Root, A'[0]? = some (some r0) ∧ ios = [(r0.d, r0.n)] := fun {A' ios} hi => by
      obtain ⟨p, hp, hi⟩ := Option.bind_eq_some_iff.mp (show (((envOf A')[0]?).bind id).bind _ = some ios from hi)
      rw [envOf_get] at hp
      obtain ⟨r0, hr, rfl⟩ := Option.map_eq_some_iff.mp hp
      have : ios = [(r0.d, r0.n)] := by
        have hi : some [(r0.d, r0.n)] = some ios := hi
        exact (Option.some.inj hi).symm
      refine ⟨r0, ?_, this⟩
      cases e : A'[0]? with
      | none => rw [e] at hr; cases hr
      | some o => rw [e] at hr; cases o with
        | none => cases hr
        | some y => cases hr; rfl
    cases e : runI G Pr k fi ((.ins c [] [], 9) :: ds.map fun d => (d, 0)) with
    | bad => rw [e] at hd; exact hd.elim
    | exc y ios =>
      rw [e] at hd
      intro A' H' cls dd sr' fr' st' hm hi ex
      obtain ⟨r0, _, rfl⟩ := one hi
      exact hd cls dd H' (smS st') ex
    | ok p ios =>
      rw [e] at hd
      intro A' v H' O Z' sr' fr' st' hm hi rp ho1 ho2 hnd hz hzo _
      obtain ⟨r0, hA, rfl⟩ := one hi
      obtain ⟨d, l⟩ := p
      cases d <;> first | (exact hd.elim) | skip
      have hv : v = .non := by cases rp; rfl
      subst hv
      refine hQ H' ?_
      obtain ⟨g1, g2⟩ := sr'.rep 0 r0 hA
      have g1 : r0.v = .ref x := by
        have : some (some (V.ref x)) = some (some r0.v) := by simpa using g1
        exact (Option.some.inj (Option.some.inj this)).symm
      rw [g1] at g2
      refine hd (.ref x) H' r0.O r0.Z ⟨smS st', g2, fun a ha => ?_, fr'.nd 0 r0 hA, fun a ha => ?_, fun a ha hb => fr'.zo 0 a ⟨r0, hA, hb⟩ 0 r0 hA ha⟩
      · rcases st'.own 0 a ⟨r0, hA, ha⟩ with z | ⟨j, _, z⟩ | z
        · rw [(own0 z).2]; exact hx
        · rw [(own0 z).2]; exact hx
        · exact same_none sm z
      · rcases st'.any a ⟨0, r0, hA, by simp [ha]⟩ with z | z
        · rcases any0 z with z | z
          · rw [z]; exact .inl hx
          · exact .inr z
        · exact .inl (same_none sm z)
theorem def_okK {f fi n c nl : Nat} {b : List S} {fI : Addr} {fd : FuncData} {ps : List Str} {m0 : Cs} (hg : mg (T.fn f) = some (.ref (CA c))) (hmk : Mk K (CA c) fI) (hT : T.mt f = .mk c fi) (hPr : Pr f = some ⟨n, nl, b, [], .mk c fi⟩) (hio : nio fi = some (n + 1, [0])) (hTi : T.mt fi = .me c m0) (hm0 : mkS m0 = ("__init__" : Str))
    (hk : PySem.W.keepIn K (.ref fI) = true) (hB : Binds K fd ps []) (hps : ps.length = n + 1) (hc : T.cold f = true → T.cold fi = true) : DefOk P w K mg T G CA Pr nio f n [] := by
  refine ⟨fI, by rw [hT]; exact ⟨hg, hmk⟩, hk, ⟨fd, ps, hB, by rw [hT]; exact hps⟩, fun base k ih => ⟨gd_run hT hPr, ?_⟩⟩
  obtain ⟨a', fd', ps', r, kp, B', l', g', F'⟩ := ih fi (n + 1) [0] hio
  rw [hTi] at r F' l'
  have ha : a' = fI := by
    have e1 := r.1.at_
    rw [hm0, hmk.init] at e1
    have e1 := Option.some.inj (Option.some.inj e1)
    exact (Value.ref.inj e1).symm
  subst ha
  refine ⟨fd', ps', B', by rw [hT]; exact l', fun m hm => ?_⟩
  rw [hT]
  exact (F' m fun z => hc (hm z)).imp fun vs H Q E h => spI_of_spK hPr h
end
end Vy

namespace Vy
@[simp] theorem putT3 (ρ : Env) (i j l : Nat) (a b c : Cs) : Tg.put ρ (.tup [i, j, l]) (.tup [.str a, .str b, .str c]) = .ok (((ρ.set i (some (.str a, 9))).set j (some (.str b, 9))).set l (some (.str c, 9))) := by
  simp [Tg.put, gd, setV]
@[simp] theorem fullT3 (a b c : Cs) (n : Nat) : full (.tup [.str a, .str b, .str c], n) = true := by simp [full, D.mdep, mdepL]
theorem mdepL_zero {xs : List D} (h : ∀ d ∈ xs, d.mdep = 0) : mdepL xs = 0 := Nat.le_zero.mp (mdepL_le fun d hd => Nat.le_of_eq (h d hd))
theorem norm_im {d : D} (h : d.mdep = 0) (n : Nat) : norm (d, n) = (d, 9) := by simp [norm, h]
theorem put_any (ρ : Env) (i : Nat) (d : D) : Tg.put ρ (.one i) d = .ok (setV ρ i (d, 0)) := id rfl
@[simp] theorem putT2 (ρ : Env) (i j : Nat) (a b : Int) : Tg.put ρ (.tup [i, j]) (.tup [.int a, .int b]) = .ok ((ρ.set i (some (.int a, 9))).set j (some (.int b, 9))) := by
  simp [Tg.put, gd, setV]
theorem flat_rep {α : Type} (x : α) (n : Nat) : (List.replicate n [x]).flatten = List.replicate n x := by
  induction n with
  | zero => rfl
  | succ n ih => rw [List.replicate_succ, List.flatten_cons, ih, List.replicate_succ]; rfl
theorem joinC (t : Cs) (m n : Nat) (h : t.length ≤ 60) : methD .join (.str [], m) [(.lst (t.map fun c => D.str [c]), n)] = some (.str t, 9) := by
  have := join1 (fun c : Nat => c) t m n (by omega)
  simpa using this
end Vy

namespace Vy
def letters : Cs := [97, 98, 99, 100, 101, 102, 103, 104, 105, 106, 107, 108, 109, 110, 111, 112, 113, 114, 115, 116, 117, 118, 119, 120, 121, 122]
def keptL : List Cs := [[111, 102], [105, 102], [105, 115], [116, 104, 101, 110], [101, 108, 115, 101], [101, 97, 99, 104], [100, 111], [105, 116], [98, 97, 99, 107], [102, 105, 114, 115, 116], [114, 101, 115, 116], [99, 111, 117, 110, 116], [115, 111, 114, 116, 101, 100], [102, 97, 105, 108], [108, 105, 110, 101], [109, 111, 114, 101]]
def pl (s : Cs) : Bool := decide (1 ≤ s.length) && decide (s.length ≤ 8) && !keptL.contains s && s.all fun c => letters.contains c
def nmB (s : Cs) : Bool := match TL.par [46] [] s with
  | some (a, b) => pl a && pl b
  | none => pl s
def sg (c : Nat) : Bool := c == 10 || (decide (32 ≤ c) && decide (c ≤ 126) && !(((c : Nat) : Int) == 37))
def tx (s : Cs) : Bool := decide (s.length ≤ 900) && s.all sg
abbrev wText : Cs := [116, 101, 120, 116]
abbrev wThing : Cs := [116, 104, 105, 110, 103]
abbrev wKin : Cs := [107, 105, 110]
abbrev wLine : Cs := [108, 105, 110, 101]
abbrev wIt : Cs := [105, 116]
abbrev wStem : Cs := [115, 116, 101, 109]
abbrev wJoin : Cs := [106, 111, 105, 110]
abbrev wIf : Cs := [105, 102]
abbrev wEach : Cs := [101, 97, 99, 104]
inductive T where
  | q (w s : Cs)
  | n (w : Cs) (ps : List T)
def bare : List Cs := [wLine, wIt, wStem]
def ones : List Cs := [[111, 102], [98, 97, 99, 107], [102, 105, 114, 115, 116], [114, 101, 115, 116], [99, 111, 117, 110, 116], [115, 111, 114, 116, 101, 100], [102, 97, 105, 108]]
mutual
def T.d : T → D
  | .q w s => .tup [.str w, .str s]
  | .n w ps => .tup (.str w :: T.ds ps)
def T.ds : List T → List D
  | [] => []
  | p :: r => p.d :: T.ds r
end
mutual
def T.ht : T → Nat
  | .q _ _ => 1
  | .n _ ps => 1 + T.hts ps
def T.hts : List T → Nat
  | [] => 0
  | p :: r => max p.ht (T.hts r)
end
mutual
def T.sz : T → Nat
  | .q _ _ => 1
  | .n _ ps => 1 + T.szs ps
def T.szs : List T → Nat
  | [] => 0
  | p :: r => p.sz + T.szs r
end
mutual
def T.fr : T → Bool
  | .q _ _ => false
  | .n w ps => w == wIt || T.frs (w == wEach) ps
def T.frs (one : Bool) : List T → Bool
  | [] => false
  | p :: r => p.fr || (!one && T.frs one r)
end
mutual
def T.sk : T → Bool
  | .q w _ => w == wKin
  | .n w ps => w == wStem || T.sks ps
def T.sks : List T → Bool
  | [] => false
  | p :: r => p.sk || T.sks r
end
def arB (w : Cs) (n : Nat) : Bool := (bare.contains w && n == 0) || (ones.contains w && n == 1) || (w == wJoin && decide (2 ≤ n) && decide (n ≤ 1000)) || (w == wIf && n == 4) || (w == wEach && n == 2)
def qOk (w s : Cs) : Bool := (w == wText && tx s && !s.contains 34 && !s.contains 10) || (w == wThing && nmB s) || (w == wKin && pl s)
mutual
def T.ok : T → Bool
  | .q w s => qOk w s
  | .n w ps => arB w ps.length && T.oks ps
def T.oks : List T → Bool
  | [] => true
  | p :: r => p.ok && T.oks r
end
theorem T.ds_eq : ∀ ps : List T, T.ds ps = ps.map T.d
  | [] => rfl
  | p :: r => by rw [T.ds, T.ds_eq r]; rfl
theorem T.d_n (w : Cs) (ps : List T) : (T.n w ps).d = .tup (.str w :: ps.map T.d) := by rw [T.d, T.ds_eq]
theorem T.d_q (w s : Cs) : (T.q w s).d = .tup [.str w, .str s] := by rw [T.d]
theorem T.ind {P : T → Prop} (h1 : ∀ w s, P (.q w s)) (h2 : ∀ w ps, (∀ p ∈ ps, P p) → P (.n w ps)) : ∀ t, P t
  | .q w s => h1 w s
  | .n w ps => h2 w ps (go ps)
where go : ∀ ps : List T, ∀ p ∈ ps, P p
  | [], _, h => nomatch h
  | a :: r, p, h => by
    rcases List.mem_cons.mp h with e | h
    · rw [e]; exact T.ind h1 h2 a
    · exact go r p h
theorem T.imm (t : T) : t.d.mdep = 0 := by
  induction t using T.ind with
  | h1 w s => rw [T.d_q]; simp
  | h2 w ps ih =>
    rw [T.d_n]
    simp only [mdep_tup, mdepL_cons, mdep_str]
    have := mdepL_zero (xs := ps.map T.d) fun d hd => by
      obtain ⟨p, hp, rfl⟩ := List.mem_map.mp hd
      exact ih p hp
    rw [this]; rfl
end Vy

namespace Vy
open PySem PySem.Spec
open PyProof.Rows hiding St
open L2
section
variable {sc : Scope} {X : Cx} {nm : Nm} {G : Glo} {CA : Nat → Addr} {cf : Runs} {np : Nat → Option Nat} {bl : List Str} {W : WX} {L : List Nat}
theorem q_var (B : En sc X nm G CA cf np bl W) (i : Nat) {x : Str} {pos : Pos} (hN : nm.N[i]? = some x) (h : visB sc x = true) (hd : dbg x = true) : PE X (.Name x pos) (tP X G CA cf W ⟨i, []⟩) :=
  p_var (by rw [B.cx.N]; exact hN) (B.vis h) (dbg_ok hd).1 (dbg_ok hd).2.1
theorem q_ix (B : En sc X nm G CA cf np bl W) {i : Nat} (st : List Ptp) {c : C} {e b : Expr} {pos : Pos} (he : PE X e (tP X G CA cf W ⟨i, st⟩)) (hb : PE X b (tE X G CA cf W c)) (hs : PlainIx b) : PE X (.Subscript e b pos) (tP X G CA cf W ⟨i, st ++ [.ix c]⟩) :=
  let ⟨_, hr, _⟩ := B.cx.lev; p_ix hr he hb hs
theorem z_st (B : En sc X nm G CA cf np bl W) {p : Pth} {ck c : C} {o ek e : Expr} {spos pos : Pos} (ho : PE X o (tP X G CA cf W p)) (hk : PE X ek (tE X G CA cf W ck)) (he : PE X e (tE X G CA cf W c)) (hl : noLc e = true)
    (ha : ∀ v, assign (.Subscript o ek spos) X.env v = (do
      let ov ← holding [v] (eval o X.env)
      let iv ← holding [v, ov] (eval ek X.env)
      standAt spos
      holding [v, ov, iv] (setItem ov iv v)
      release [v, ov, iv] [])) : PS X (.Assign [.Subscript o ek spos] e pos) (tS X G CA cf W L (.st p ck c)) :=
  let ⟨_, hr, _⟩ := B.cx.lev; s_st hr ho hk he hl ha (no_swap (t := some (.Subscript o ek spos)) (l := pos.line) (env := X.env) hl)
theorem z_asgX (B : En sc X nm G CA cf np bl W) (i : Nat) {x : Str} {c : Xp} {e : Expr} {p pos : Pos} (hx : nm.N[i]? = some x) (hl : locB sc x = true) (hc : noLc e = true) (he : PE X e (tX X G CA cf W L c)) : PS X (.Assign [.Name x p] e pos) (tS X G CA cf W L (.asgX i c)) :=
  s_asgX B.so B.cx.nd (by rw [B.cx.N]; exact hx) (loc_or hl) he hc
end
section
variable (G : Glo) (cf : Runs) (L : List Nat) (ρ : Env)
@[simp] theorem exS_st (p : Pth) (k e : C) : exS G cf L ρ (.st p k e) = onE (ev G cf ρ e) ρ fun q => onE (rsv G cf ρ p.st) ρ fun rs => onE (noX (ev G cf ρ k)) ρ fun y => onX (mopX L ρ p.i rs (names e) [q] fun u => (stOp u y q).map (·, (.non, 9))) fun _ ρ2 => .nx ρ2 := by rw [exS]
@[simp] theorem exS_asgX (i : Nat) (x : Xp) : exS G cf L ρ (.asgX i x) = onX (exX G cf L ρ x) fun p ρ1 => onJ cf.io [i] (.nx (bindV ρ1 i p (xnames x))) := by rw [exS]
@[simp] theorem exS_expX (x : Xp) : exS G cf L ρ (.expX x) = onX (exX G cf L ρ x) fun _ ρ1 => .nx ρ1 := by rw [exS]
@[simp] theorem exS_retX (x : Xp) : exS G cf L ρ (.retX x) = onX (exX G cf L ρ x) fun p ρ1 => .rt p ρ1 := by rw [exS]
@[simp] theorem exX_mop (p : Pth) (m : MO) (es : List C) : exX G cf L ρ (.mop p m es) = onO (rsv G cf ρ p.st) ρ fun rs => OX.of ((nodeP ρ p.i rs).map fun q => if mTy m q = true then onO (evs G cf ρ es) ρ fun ps => mopX L ρ p.i rs (namesL es) ps fun q => nodeOp m q ps else .bad) := by rw [exX]
@[simp] theorem exX_pu (c : C) : exX G cf L ρ (.pu c) = onO (ev G cf ρ c) ρ fun p => .ok p ρ := by rw [exX]
@[simp] theorem rsv_nil : rsv G cf ρ [] = .ok [] := by rw [rsv]
@[simp] theorem rsv_at (e : C) (r : List Ptp) : rsv G cf ρ (.ix e :: r) = (noX (ev G cf ρ e)).bind fun x => (rsv G cf ρ r).bind fun rs => .ok (.at x.1 :: rs) := by rw [rsv]
end
end Vy

namespace Vy
open PySem PySem.Spec
open PyProof.Rows hiding St
open L2
section
variable {X : Cx}
variable {CA : Nat → Addr} {W : WX}
end
section
variable {X : Cx} {nm : Nm} {G : Glo} {CA : Nat → Addr} {cf : Runs} {W : WX} {sc : Scope} {np : Nat → Option Nat} {bl : List Str}
end
end Vy

namespace Vy
def LS (l : List Cs) : D := .lst (l.map D.str)
theorem LS_eq (l : List Cs) : LS l = .lst (l.map D.str) := rfl
@[simp] theorem mdep_LS (l : List Cs) : (LS l).mdep = 1 := by
  rw [LS_eq, mdep_lst, mdepL_zero fun d hd => by obtain ⟨s, _, rfl⟩ := List.mem_map.mp hd; simp]
@[simp] theorem norm_LS (l : List Cs) (n : Nat) : norm (LS l, n) = (LS l, n) := by simp [norm]
@[simp] theorem full_LS (l : List Cs) (n : Nat) : full (LS l, n) = decide (1 ≤ n) := by simp [full]
theorem bind_LS {ρ : Env} {i n : Nat} {l : List Cs} {ns : List Nat} (h : 1 ≤ n) : bindV ρ i (LS l, n) ns = ρ.set i (some (LS l, n)) := by
  rw [bind_full (by simp [h])]; simp [setV]
@[simp] theorem bind_LS9 {ρ : Env} {i : Nat} {l : List Cs} {ns : List Nat} : bindV ρ i (LS l, 9) ns = ρ.set i (some (LS l, 9)) := bind_LS (by omega)
@[simp] theorem len_LS (l : List Cs) (n : Nat) : bifD .len [(LS l, n)] = some (.int l.length, 9) := by
  rw [LS_eq, len_lst, List.length_map]
@[simp] theorem truth_LS (l : List Cs) : truth (LS l) = some (!l.isEmpty) := by
  rw [LS_eq, truth_lst, List.isEmpty_map]
@[simp] theorem items_LS (l : List Cs) : itemsOf (LS l) = some (l.map D.str) := id rfl
@[simp] theorem isiOk_LS (l : List Cs) (k : IK) (h : ikOk k = true) : isiOk (LS l) k = true := isiOk_lst _ _ h
@[simp] theorem isa_LS (cm : Nat → List Nat) (l : List Cs) : isaD cm (LS l) .list = true := id rfl
@[simp] theorem isa_LS_str (cm : Nat → List Nat) (l : List Cs) : isaD cm (LS l) .str = false := id rfl
@[simp] theorem isa_LS_tup (cm : Nat → List Nat) (l : List Cs) : isaD cm (LS l) .tuple = false := id rfl
@[simp] theorem in_LS (s : Cs) (l : List Cs) : cmpD .isin (.str s) (LS l) = some (l.contains s) := in_strs s l
@[simp] theorem notin_LS (s : Cs) (l : List Cs) : cmpD .notin (.str s) (LS l) = some (!l.contains s) := by
  have := in_LS s l
  simp only [cmpD] at this ⊢
  rw [this]; rfl
theorem pyEqL_strs : ∀ l k : List Cs, pyEqL (l.map D.str) (k.map D.str) = (l == k)
  | [], [] => rfl
  | [], _ :: _ => rfl
  | _ :: _, [] => rfl
  | a :: l, b :: k => by
    rw [List.map_cons, List.map_cons, pyEqL, pyEqL_strs l k]
    rfl
theorem depL_strs (l : List Cs) : depL (l.map D.str) = 0 := by
  induction l with
  | nil => rfl
  | cons a l ih => rw [List.map_cons, depL, ih]; rfl
@[simp] theorem eq_LS (l k : List Cs) : cmpD .eq (LS l) (LS k) = some (l == k) := by
  show go _ (some (pyEqL _ _)) = _
  rw [go_pos ⟨eqOkL_strs l, eqOkL_strs k, by
    show min (depL _ + 1) (depL _ + 1) ≤ 60
    rw [depL_strs, depL_strs]; omega⟩, pyEqL_strs]
@[simp] theorem ne_LS (l k : List Cs) : cmpD .ne (LS l) (LS k) = some (!(l == k)) := by
  show go _ (some (!pyEqL _ _)) = _
  rw [go_pos ⟨eqOkL_strs l, eqOkL_strs k, by
    show min (depL _ + 1) (depL _ + 1) ≤ 60
    rw [depL_strs, depL_strs]; omega⟩, pyEqL_strs]
@[simp] theorem lsq_LS (l : List Cs) : lsqOf (LS l) = some (l.map D.str) := id rfl
@[simp] theorem list_LS (l : List Cs) (n : Nat) : bifD .list [(LS l, n)] = some (LS l, 9) := by
  show some (D.lst (l.map D.str), lv1 (l.map D.str)) = _
  rw [lv1_strs]; rfl
@[simp] theorem recv_LS_index (l : List Cs) : recvOk .index (LS l) = true := id rfl
@[simp] theorem recv_LS_count (l : List Cs) : recvOk .count (LS l) = true := id rfl
theorem cut_len {α : Type} (l : List α) (lo hi : Option Int) : (cut l lo hi).length ≤ l.length := by
  unfold cut
  rw [List.length_take, List.length_drop]
  omega
theorem mul_str {c n m : Nat} {i : Int} (h0 : 0 ≤ i) (h : i ≤ 1000) : binD .mul (.str [c], m) (.int i, n) = some (.str (List.replicate i.toNat c), 9) := by
  show go _ _ = _
  rw [go_pos ⟨by omega, by omega, by rw [List.length_singleton, Nat.one_mul]; exact Nat.le_trans (show i.toNat ≤ 1000 by omega) (by decide)⟩, flat_rep]
def fst1 (o : Out (D × Nat)) : Option D := match o with | .ok p => some p.1 | _ => none
@[simp] theorem fst1_ok (p : D × Nat) : fst1 (.ok p) = some p.1 := id rfl
theorem full_rng (n : Nat) (f : Nat → Int) : full (.lst ((List.range n).map fun (j : Nat) => D.int (f j)), 9) = true := by
  have : mdepL ((List.range n).map fun (j : Nat) => D.int (f j)) = 0 := mdepL_map _ _ fun _ => by simp
  simp [full, this]
end Vy

namespace Vy
open PySem PySem.Spec
open PyProof.Rows hiding St
open L2
section
variable {X : Cx}
end
section
variable {K : PySem.W.Frag} {CA : Nat → Addr} {H H' : Hp} {a : Addr}
structure Swp (H H' : Hp) (a : Addr) : Prop where
  ne : ∀ b, b ≠ a → H' b = H b
  lst : ∀ vs, H a ≠ some (.lst vs)
  tup : ∀ vs, H a ≠ some (.tup vs)
  ins : ∀ c dx fs, H a ≠ some (.ins c dx fs)
  flst : ∀ o vs, H a ≠ some (.frz o (.lst vs))
  ftup : ∀ o vs, H a ≠ some (.frz o (.tup vs))
  xd : ∀ fs, H a ≠ some (.xd fs)
  rd : ∀ kvs, Rd H a (.dK kvs) → Rd H' a (.dK kvs)
  th : H' a ≠ none
theorem Swp.at (w : Swp H H' a) {b : Addr} {o : HO} (h : H b = some o) (n : H a ≠ some o) : H' b = some o := by
  rw [w.ne b (fun z => n (z ▸ h))]; exact h
theorem Swp.lock {kvs : List (L2.Key × V)} (od : Obj) (h : H a = some (.dK kvs)) : Swp H (upd H a (.frz od (.dK kvs))) a where
  ne := fun b n => upd_ne n
  lst := fun _ z => by rw [h] at z; cases z
  tup := fun _ z => by rw [h] at z; cases z
  ins := fun _ _ _ z => by rw [h] at z; cases z
  flst := fun _ _ z => by rw [h] at z; cases z
  ftup := fun _ _ z => by rw [h] at z; cases z
  xd := fun _ z => by rw [h] at z; cases z
  rd := fun k z => by
    rcases z with z | ⟨o, z⟩
    · rw [h] at z; cases z; exact .inr ⟨od, upd_same⟩
    · rw [h] at z; cases z
  th := by rw [upd_same]; simp
def PDict (K : PySem.W.Frag) (CA : Nat → Addr) (a : Addr) (o : Obj) (kvs : List (L2.Key × V)) (vs : List D) (Ns : List Addr) (H : Hp) : Prop :=
  H a = some (.frz o (.dK kvs)) ∧ ∃ Z, Reps K CA H 0 vs (kvs.map (·.2)) [] Z ∧ (∀ b ∈ Z, b ∈ Ns) ∧ ∀ b ∈ Ns, H b ≠ none
theorem PDict.keep {o : Obj} {kvs : List (L2.Key × V)} {vs : List D} {Ns : List Addr} (ha : a ∈ Ns) (F : List Addr) (H H' : Hp) (p : PDict K CA a o kvs vs Ns H) (k : Keep F H H') (f : Fix F H) (hn : ∀ b ∈ Ns, b ∉ F) : PDict K CA a o kvs vs Ns H' := by
  obtain ⟨h1, Z, r, hz, ht⟩ := p
  exact ⟨k _ _ h1 (hn a ha), Z, r.keep k f (fun b hb => hn b (hz b (by simpa using hb))), hz, fun b hb => by
    cases e : H b with
    | none => exact absurd e (ht b hb)
    | some o => rw [k b o e (hn b hb)]; simp⟩
end
end Vy

namespace Vy
open PySem PySem.Spec
open PyProof.Rows hiding St
open L2
section
variable {X : Cx} {nm : Nm} {G : Glo} {CA : Nat → Addr} {cf : Runs} {W : WX} {L : List Nat}
section
variable {J : List Nat} {S0 : Slots} {H H1 : Hp} {a : Addr} {kvs : List (L2.Key × V)} {od : Obj}
end
end
end Vy

namespace Vy
open PySem PySem.Spec
open PyProof.Rows hiding St
open L2
section
variable {X : Cx}
end
section
variable {X : Cx} {nm : Nm} {G : Glo} {CA : Nat → Addr} {cf : Runs} {W : WX} {sc : Scope} {np : Nat → Option Nat} {bl : List Str} {L : List Nat}
theorem En.w (B : En sc X nm G CA cf np bl W) {W' : WX} (tk : TkM nm.m X W') : En sc X nm G CA cf np bl W' := ⟨B.cx, B.so, tk⟩
end
section
variable (G : Glo) (cf : Runs) (ρ : Env)
@[simp] theorem ev_itm (e : C) : ev G cf ρ (.itm e) = (ev G cf ρ e).bind fun x => match x.1 with | .dct ks vs => .ok (.lst (zipD ks vs), if x.1.mdep ≤ x.2 then 9 else 0) | _ => .bad := by rw [ev] <;> rfl
@[simp] theorem ev_kys (e : C) : ev G cf ρ (.kys e) = (ev G cf ρ e).bind fun x => match x.1 with | .dct ks vs => .ok (.lst ks, if x.1.mdep ≤ x.2 then 9 else 0) | _ => .bad := by rw [ev] <;> rfl
variable (L : List Nat)
end
end Vy

namespace Vy
def DT (m : List (Cs × D)) : D := .dct (m.map fun p => .str p.1) (m.map (·.2))
theorem DT_eq (m : List (Cs × D)) : DT m = .dct (m.map fun p => .str p.1) (m.map (·.2)) := rfl
def getT : List (Cs × D) → Cs → Option D
  | [], _ => none
  | (a, b) :: r, k => if a == k then some b else getT r k
def hasT (m : List (Cs × D)) (k : Cs) : Bool := (getT m k).isSome
theorem hasT_mem {m : List (Cs × D)} {k : Cs} : hasT m k = true ↔ k ∈ m.map (·.1) := by
  induction m with
  | nil => simp [hasT, getT]
  | cons p r ih =>
    obtain ⟨a, b⟩ := p
    unfold hasT at ih ⊢
    rw [getT]
    by_cases h : a = k
    · simp [h]
    · have h' : (a == k) = false := by simpa using h
      simp only [h', Bool.false_eq_true, if_false, ih, List.map_cons, List.mem_cons]
      exact ⟨.inr, fun z => z.resolve_left fun z => h z.symm⟩
theorem mdep_DT (m : List (Cs × D)) : (DT m).mdep = mdepL (m.map (·.2)) + 1 := by rw [DT_eq, mdep_dct]
@[simp] theorem norm_DT (m : List (Cs × D)) (n : Nat) : norm (DT m, n) = (DT m, n) := by simp [norm, mdep_DT]
@[simp] theorem len_DT (m : List (Cs × D)) (n : Nat) : bifD .len [(DT m, n)] = some (.int m.length, 9) := by
  show some (D.int ((m.map fun p => D.str p.1).length : Nat), 9) = _
  rw [List.length_map]
theorem any_keys (m : List (Cs × D)) (k : Cs) : ((m.map fun p => D.str p.1).any fun j => pyEq j (.str k)) = hasT m k := by
  induction m with
  | nil => rfl
  | cons p r ih =>
    obtain ⟨a, b⟩ := p
    unfold hasT at ih ⊢
    rw [List.map_cons, List.any_cons, ih, getT]
    show (a == k || _) = _
    cases h : a == k <;> simp
@[simp] theorem in_DT (k : Cs) (m : List (Cs × D)) : cmpD .isin (.str k) (DT m) = some (hasT m k) := by
  show go ((vKey (D.str k)).isSome = true) (some ((m.map fun p => D.str p.1).any fun j => pyEq j (.str k))) = _
  rw [go_pos (show (vKey (D.str k)).isSome = true from rfl), any_keys]
@[simp] theorem notin_DT (k : Cs) (m : List (Cs × D)) : cmpD .notin (.str k) (DT m) = some (!hasT m k) := by
  have := in_DT k m
  simp only [cmpD] at this ⊢
  rw [this]; rfl
@[simp] theorem recv_DT (m : List (Cs × D)) : recvOk .get (DT m) = true := id rfl
@[simp] theorem list_DT (m : List (Cs × D)) (n : Nat) : bifD .list [(DT m, n)] = some (LS (m.map (·.1)), 9) := by
  show some (D.lst (m.map fun p => D.str p.1), lv1 (m.map fun p => D.str p.1)) = _
  have : (m.map fun p => D.str p.1) = (m.map (·.1)).map D.str := by rw [List.map_map]; rfl
  rw [this, lv1_strs]; rfl
@[simp] theorem isiOk_DT (m : List (Cs × D)) (k : IK) (h : ikOk k = true) : isiOk (DT m) k = true := isiOk_dct _ _ _ h
end Vy

namespace Vy
structure Post where
  nx : Env → Prop
  rt : D × Nat → Env → Prop
  ex : Exn → Env → Prop
def Sat (o : OS) (Q : Post) : Prop := match o with
  | .nx ρ => Q.nx ρ
  | .rt p ρ => Q.rt p ρ
  | .exc e ρ => Q.ex e ρ
  | .bad => False
@[simp] theorem Sat_nx (ρ : Env) (Q : Post) : Sat (.nx ρ) Q = Q.nx ρ := id rfl
@[simp] theorem Sat_rt (p : D × Nat) (ρ : Env) (Q : Post) : Sat (.rt p ρ) Q = Q.rt p ρ := id rfl
@[simp] theorem Sat_exc (e : Exn) (ρ : Env) (Q : Post) : Sat (.exc e ρ) Q = Q.ex e ρ := id rfl
@[simp] theorem Sat_bad (Q : Post) : Sat .bad Q = False := id rfl
theorem Sat.mono {o : OS} {Q Q' : Post} (h : Sat o Q) (h1 : ∀ ρ, Q.nx ρ → Q'.nx ρ) (h2 : ∀ p ρ, Q.rt p ρ → Q'.rt p ρ) (h3 : ∀ e ρ, Q.ex e ρ → Q'.ex e ρ) : Sat o Q' := by
  cases o with
  | nx ρ => exact h1 ρ h
  | rt p ρ => exact h2 p ρ h
  | exc e ρ => exact h3 e ρ h
  | bad => exact h
def Gives (R : D × Nat → Prop) : Post := ⟨fun _ => R (.non, 9), fun p _ => R p, fun _ _ => False⟩
@[simp] theorem Gives_nx (R : D × Nat → Prop) (ρ : Env) : (Gives R).nx ρ = R (.non, 9) := id rfl
@[simp] theorem Gives_rt (R : D × Nat → Prop) (p : D × Nat) (ρ : Env) : (Gives R).rt p ρ = R p := id rfl
@[simp] theorem Gives_ex (R : D × Nat → Prop) (e : Exn) (ρ : Env) : (Gives R).ex e ρ = False := id rfl
theorem Sat.some {o : OS} {R : D × Nat → Prop} (h : Sat o (Gives R)) : ∃ p, outS o = .ok p ∧ R p := by
  cases o with
  | nx ρ => exact ⟨_, rfl, h⟩
  | rt p ρ => exact ⟨_, rfl, h⟩
  | exc e ρ => exact h.elim
  | bad => exact h.elim
theorem Sat.eq {o : OS} {q : D × Nat} (h : Sat o (Gives fun p => p = q)) : outS o = .ok q := by
  obtain ⟨p, e, h⟩ := h.some
  rw [e, h]
def Goes (I : Env → Prop) : Post := ⟨I, fun _ _ => False, fun _ _ => False⟩
@[simp] theorem Goes_nx (R : Env → Prop) (ρ : Env) : (Goes R).nx ρ = R ρ := id rfl
@[simp] theorem Goes_rt (R : Env → Prop) (p : D × Nat) (ρ : Env) : (Goes R).rt p ρ = False := id rfl
@[simp] theorem Goes_ex (R : Env → Prop) (e : Exn) (ρ : Env) : (Goes R).ex e ρ = False := id rfl
section
variable (G : Glo) (cf : Runs) (L : List Nat) (ρ : Env)
def thenR (o : OS) (r : List S) : OS := match o with
  | .nx ρ => exB G cf L ρ r
  | o => o
@[simp] theorem thenR_nx (r : List S) : thenR G cf L (.nx ρ) r = exB G cf L ρ r := id rfl
@[simp] theorem thenR_rt (p : D × Nat) (r : List S) : thenR G cf L (.rt p ρ) r = .rt p ρ := id rfl
@[simp] theorem thenR_exc (e : Exn) (r : List S) : thenR G cf L (.exc e ρ) r = .exc e ρ := id rfl
@[simp] theorem thenR_bad (r : List S) : thenR G cf L .bad r = .bad := id rfl
theorem exB_R (s : S) (r : List S) : exB G cf L ρ (s :: r) = thenR G cf L (exS G cf L ρ s) r := by rw [exB] <;> rfl
theorem thenR_exB (a r : List S) : thenR G cf L (exB G cf L ρ a) r = exB G cf L ρ (a ++ r) := by
  rw [exB_app]
  cases exB G cf L ρ a <;> rfl
@[simp] theorem thenR_R (o : OS) (a r : List S) : thenR G cf L (thenR G cf L o a) r = thenR G cf L o (a ++ r) := by
  cases o with
  | nx ρ => rw [thenR_nx, thenR_nx, thenR_exB]
  | _ => rfl
def ifR (c : Out Bool) (a b : List S) : OS := onE c ρ fun c => if c = true then exB G cf L ρ a else exB G cf L ρ b
theorem exS_ifR (t : C) (a b : List S) : exS G cf L ρ (.ife t a b) = ifR G cf L ρ (evB G cf ρ t) a b := by rw [exS] <;> rfl
@[simp] theorem ifR_t (a b : List S) : ifR G cf L ρ (.ok true) a b = exB G cf L ρ a := id rfl
@[simp] theorem ifR_f (a b : List S) : ifR G cf L ρ (.ok false) a b = exB G cf L ρ b := id rfl
@[simp] theorem ifR_exc (e : Exn) (a b : List S) : ifR G cf L ρ (.exc e) a b = .exc e ρ := id rfl
def whlR (n : Nat) (t : C) (b : List S) : OS := whileL (fun ρ => evB G cf ρ t) (fun ρ => exB G cf L ρ b) n ρ
theorem exS_whlR (n : Nat) (t : C) (b : List S) : exS G cf L ρ (.whl n t b) = whlR G cf L ρ n t b := by rw [exS] <;> rfl
def orO (x y : Out (D × Nat)) : Out (D × Nat) := x.bind fun p => (Out.of (truth p.1)).bind fun r => if r = true then .ok p else y
def andO (x y : Out (D × Nat)) : Out (D × Nat) := x.bind fun p => (Out.of (truth p.1)).bind fun r => if r = true then y else .ok p
theorem ev_orO (a b : C) : ev G cf ρ (.or a b) = orO (ev G cf ρ a) (ev G cf ρ b) := by rw [ev] <;> rfl
theorem ev_andO (a b : C) : ev G cf ρ (.and a b) = andO (ev G cf ρ a) (ev G cf ρ b) := by rw [ev] <;> rfl
end
@[simp] theorem orO_t (n : Nat) (y : Out (D × Nat)) : orO (.ok (.bl true, n)) y = .ok (.bl true, n) := id rfl
@[simp] theorem orO_f (n : Nat) (y : Out (D × Nat)) : orO (.ok (.bl false, n)) y = y := id rfl
@[simp] theorem andO_t (n : Nat) (y : Out (D × Nat)) : andO (.ok (.bl true, n)) y = y := id rfl
@[simp] theorem andO_f (n : Nat) (y : Out (D × Nat)) : andO (.ok (.bl false, n)) y = .ok (.bl false, n) := id rfl
@[simp] theorem orO_b (p q : Bool) (n : Nat) : orO (.ok (.bl p, n)) (.ok (.bl q, n)) = .ok (.bl (p || q), n) := by cases p <;> rfl
@[simp] theorem andO_b (p q : Bool) (n : Nat) : andO (.ok (.bl p, n)) (.ok (.bl q, n)) = .ok (.bl (p && q), n) := by cases p <;> rfl
section
variable {G : Glo} {cf : Runs} {L : List Nat} {ρ : Env} {Q : Post}
theorem w_if {c : Bool} {a b r : List S} (h1 : c = true → Sat (exB G cf L ρ (a ++ r)) Q) (h2 : c = false → Sat (exB G cf L ρ (b ++ r)) Q) : Sat (thenR G cf L (ifR G cf L ρ (.ok c) a b) r) Q := by
  cases c with
  | true => rw [ifR_t, thenR_exB]; exact h1 rfl
  | false => rw [ifR_f, thenR_exB]; exact h2 rfl
theorem sat_forL {f : Env → D → OS} : ∀ {xs : List D} {I : Nat → Env → Prop}, (∀ i x ρ, xs[i]? = some x → I i ρ → Sat (f ρ x) ⟨I (i + 1), Q.rt, Q.ex⟩) → ∀ ρ, I 0 ρ → Sat (forL f xs ρ) ⟨I xs.length, Q.rt, Q.ex⟩
  | [], I, _, ρ, h => h
  | x :: xs, I, hf, ρ, h => by
    have h1 := hf 0 x ρ rfl h
    rw [forL]
    cases e : f ρ x with
    | nx ρ1 =>
      rw [e] at h1
      exact sat_forL (xs := xs) (I := fun i => I (i + 1)) (fun i y ρ hy hi => hf (i + 1) y ρ (by simpa using hy) hi) ρ1 h1
    | rt p ρ1 => rw [e] at h1; exact h1
    | exc p ρ1 => rw [e] at h1; exact h1
    | bad => rw [e] at h1; exact h1
theorem sat_thenR {o : OS} {r : List S} {I : Env → Prop} (h : Sat o ⟨I, Q.rt, Q.ex⟩) (k : ∀ ρ, I ρ → Sat (exB G cf L ρ r) Q) : Sat (thenR G cf L o r) Q := by
  cases o with
  | nx ρ => exact k ρ h
  | rt p ρ => exact h
  | exc e ρ => exact h
  | bad => exact h
variable {tg : Tg} {it : C} {b r : List S} {p : D × Nat} {xs : List D}
theorem w_for (I : Nat → Env → Prop) (hx : itemsOf p.1 = some xs) (hf : full p = true) (hio : okJ cf.io tg.is = true) (h0 : I 0 ρ) (hs : ∀ i x ρ, xs[i]? = some x → I i ρ → Sat (putS ρ tg x fun ρ => exB G cf L ρ b) ⟨I (i + 1), Q.rt, Q.ex⟩) (hk : ∀ ρ, I xs.length ρ → Sat (exB G cf L ρ r) Q) : Sat (thenR G cf L (forS G cf ρ L tg it b p) r) Q := by
  refine sat_thenR ?_ hk
  unfold forS
  rw [hx]
  simp only
  rw [onJ, if_pos hio, if_pos hf]
  exact sat_forL hs ρ h0
theorem w_forZ (I : Nat → Env → Prop) (hx : itemsOf p.1 = some xs) (hf : full p = false) (hz : mdepL xs = 0) (hio : okJ cf.io tg.is = true) (h0 : I 0 ρ) (hs : ∀ i x ρ, xs[i]? = some x → I i ρ → Sat (putS ρ tg x fun ρ => exB G cf (names it ++ L) ρ b) ⟨I (i + 1), Q.rt, Q.ex⟩) (hk : ∀ ρ, I xs.length ρ → Sat (exB G cf L ρ r) Q) : Sat (thenR G cf L (forS G cf ρ L tg it b p) r) Q := by
  refine sat_thenR ?_ hk
  unfold forS
  rw [hx]
  simp only
  rw [onJ, if_pos hio, hf, if_neg (by simp), if_pos hz]
  exact sat_forL hs ρ h0
theorem w_rng {n : Nat} (I : Nat → Env → Prop) (i : Nat) (hio : okJ cf.io [i] = true) (h0 : I 0 ρ) (hs : ∀ j ρ, j < n → I j ρ → Sat (exB G cf L (ρ.set i (some (.int (j : Int), 9))) b) ⟨I (j + 1), Q.rt, Q.ex⟩) (hk : ∀ ρ, I n ρ → Sat (exB G cf L ρ r) Q) :
    Sat (thenR G cf L (forS G cf ρ L (.one i) it b (.lst ((List.range n).map fun (j : Nat) => D.int (j : Int)), 9)) r) Q := by
  refine w_for I (xs := (List.range n).map fun (j : Nat) => D.int (j : Int)) rfl (full_rng n _) hio h0 (fun j x ρ hx hi => ?_) (by simpa using hk)
  rw [List.getElem?_map] at hx
  obtain ⟨j', hj', rfl⟩ := Option.map_eq_some_iff.mp hx
  obtain ⟨hj, rfl⟩ := List.getElem?_eq_some_iff.mp hj'
  rw [List.length_range] at hj
  simp only [putS, put_int, List.getElem_range]
  exact hs j ρ hj hi
theorem w_whl (P : Nat → Env → Prop) {t : C} {fuel : Nat} (n : Nat) (hn : n < fuel) (h0 : P n ρ) (hs : ∀ n ρ, P n ρ → (evB G cf ρ t = .ok false ∧ Sat (exB G cf L ρ r) Q) ∨ (evB G cf ρ t = .ok true ∧ Sat (exB G cf L ρ b) ⟨fun ρ' => ∃ n', n' < n ∧ P n' ρ', Q.rt, Q.ex⟩)) : Sat (thenR G cf L (whlR G cf L ρ fuel t b) r) Q := by
  unfold whlR
  induction fuel generalizing n ρ with
  | zero => exact absurd hn (Nat.not_lt_zero _)
  | succ fuel ih =>
    rcases hs n ρ h0 with ⟨h1, h2⟩ | ⟨h1, h2⟩
    · rw [whileL, h1]; exact h2
    · rw [whileL, h1]
      simp only
      cases e : exB G cf L ρ b with
      | nx ρ1 =>
        rw [e] at h2
        obtain ⟨n', h3, h4⟩ := h2
        exact ih n' (by omega) h4
      | rt p ρ1 => rw [e] at h2; exact h2
      | exc p ρ1 => rw [e] at h2; exact h2
      | bad => rw [e] at h2; exact h2
end
theorem putS_one (ρ : Env) (i : Nat) (d : D) (f : Env → OS) : putS ρ (.one i) d f = f (ρ.set i (some (norm (d, 0)))) := by simp [putS, Tg.put, setV]
theorem beqd {α : Type} [BEq α] [LawfulBEq α] [DecidableEq α] (a b : α) : (a == b) = decide (a = b) := by rw [Bool.eq_iff_iff]; simp
namespace W
section
variable (G : Glo) (cf : Runs) (L : List Nat) (ρ : Env)
@[scoped simp high] theorem R_exB (s : S) (r : List S) : exB G cf L ρ (s :: r) = thenR G cf L (exS G cf L ρ s) r := exB_R G cf L ρ s r
@[scoped simp high] theorem R_if (t : C) (a b : List S) : exS G cf L ρ (.ife t a b) = ifR G cf L ρ (evB G cf ρ t) a b := exS_ifR G cf L ρ t a b
@[scoped simp high] theorem R_for (tg : Tg) (it : C) (b : List S) : exS G cf L ρ (.for_ tg it b) = onE (ev G cf ρ it) ρ (forS G cf ρ L tg it b) := exS_for G cf ρ L tg it b
@[scoped simp high] theorem R_whl (n : Nat) (t : C) (b : List S) : exS G cf L ρ (.whl n t b) = whlR G cf L ρ n t b := exS_whlR G cf L ρ n t b
@[scoped simp high] theorem R_or (a b : C) : ev G cf ρ (.or a b) = orO (ev G cf ρ a) (ev G cf ρ b) := ev_orO G cf ρ a b
@[scoped simp high] theorem R_and (a b : C) : ev G cf ρ (.and a b) = andO (ev G cf ρ a) (ev G cf ρ b) := ev_andO G cf ρ a b
end
@[scoped simp] theorem R_put (ρ : Env) (i : Nat) (d : D) (f : Env → OS) : putS ρ (.one i) d f = f (ρ.set i (some (norm (d, 0)))) := putS_one ρ i d f
@[scoped simp high] theorem R_eqI (i j : Int) : cmpD .eq (.int i) (.int j) = some (decide (i = j)) := by rw [eq_int, beqd]
@[scoped simp high] theorem R_neI (i j : Int) : cmpD .ne (.int i) (.int j) = some (!decide (i = j)) := by rw [ne_int, beqd]
@[scoped simp high] theorem R_eqS (i j : Cs) : cmpD .eq (.str i) (.str j) = some (decide (i = j)) := by rw [eq_str, beqd]
@[scoped simp high] theorem R_neS (i j : Cs) : cmpD .ne (.str i) (.str j) = some (!decide (i = j)) := by rw [ne_str, beqd]
@[scoped simp high] theorem R_eqL (l k : List Cs) : cmpD .eq (LS l) (LS k) = some (decide (l = k)) := by rw [eq_LS, beqd]
@[scoped simp high] theorem R_neL (l k : List Cs) : cmpD .ne (LS l) (LS k) = some (!decide (l = k)) := by rw [ne_LS, beqd]
@[scoped simp high] theorem R_inL (s : Cs) (l : List Cs) : cmpD .isin (.str s) (LS l) = some (decide (s ∈ l)) := by rw [in_LS]; simp [List.contains_eq_mem]
@[scoped simp high] theorem R_ninL (s : Cs) (l : List Cs) : cmpD .notin (.str s) (LS l) = some (!decide (s ∈ l)) := by rw [notin_LS]; simp [List.contains_eq_mem]
end W
end Vy

namespace Vy
open PySem PySem.Spec
open PyProof.Rows hiding St
open L2
section
variable {sc : Scope} {X : Cx} {nm : Nm} {G : Glo} {CA : Nat → Addr} {cf : Runs} {np : Nat → Option Nat} {bl : List Str} {W : WX} {L : List Nat}
end
end Vy

namespace Vy
open PySem PySem.Spec
open PyProof.Rows hiding St
open L2
section
variable {X : Cx} {nm : Nm} {G : Glo} {CA : Nat → Addr} {cf : Runs} {W : WX} {L : List Nat}
end
section
variable {sc : Scope} {X : Cx} {nm : Nm} {G : Glo} {CA : Nat → Addr} {cf : Runs} {np : Nat → Option Nat} {bl : List Str} {W : WX} {L : List Nat}
end
end Vy

namespace Vy
open PySem PySem.Spec
open PyProof.Rows hiding St
open L2
section
variable {X : Cx} {nm : Nm} {G : Glo} {CA : Nat → Addr} {cf : Runs} {W : WX} {sc : Scope} {np : Nat → Option Nat} {bl : List Str}
end
end Vy

namespace Vy
open PySem PySem.Spec
open PyProof.Rows hiding St
open L2
section
variable {K : PySem.W.Frag} {CA : Nat → Addr}
inductive AwV (K : PySem.W.Frag) (CA : Nat → Addr) (S : Slots) (H H2 : Hp) : List Aw → List (D × Nat) → List V → Prop
  | nil : AwV K CA S H H2 [] [] []
  | pu {c : C} {d : D} {v : V} {Z : List Addr} {as ps vs} : Rep K CA H2 0 d v [] Z → (∀ a ∈ Z, H a = none ∨ Nod S (names c) a) → AwV K CA S H H2 as ps vs → AwV K CA S H H2 (.pu c :: as) (norm (d, 0) :: ps) (v :: vs)
  | io {i : Nat} {r : Root} {as ps vs} : S[i]? = some (some r) → AwV K CA S H H2 as ps vs → AwV K CA S H H2 (.io i :: as) (norm (r.d, r.n) :: ps) (r.v :: vs)
theorem AwV.later {S : Slots} {H H1 H2 : Hp} (s : Same H1 H2) {as : List Aw} {ps : List (D × Nat)} {vs : List V} (h : AwV K CA S H H1 as ps vs) : AwV K CA S H H2 as ps vs := by
  induction h with
  | nil => exact .nil
  | pu r z _ ih => exact .pu (r.same s) z ih
  | io e _ ih => exact .io e ih
theorem AwV.ahead {S : Slots} {H H1 H2 : Hp} (s : Same H H1) {as : List Aw} {ps : List (D × Nat)} {vs : List V} (h : AwV K CA S H1 H2 as ps vs) : AwV K CA S H H2 as ps vs := by
  induction h with
  | nil => exact .nil
  | pu r z _ ih => exact .pu r (fun a ha => (z a ha).imp (same_none s) id) ih
  | io e _ ih => exact .io e ih
def AwRt (K : PySem.W.Frag) (CA : Nat → Addr) (S : Slots) (H H2 : Hp) (is : List Nat) : Aw → Root → Prop
  | .pu c, r => Rep K CA H2 r.n r.d r.v r.O r.Z ∧ r.O = [] ∧ (r.d.mdep = 0 → r.Z = []) ∧ ∀ a ∈ r.Z, H a = none ∨ Nod S (names c) a
  | .io i, r => ∃ r0 : Root, S[i]? = some (some r0) ∧ r.v = r0.v ∧ r.O = r0.O ∧ r.Z = r0.Z
theorem aw_roots {S : Slots} {H H2 : Hp} {as : List Aw} {ps : List (D × Nat)} {vs : List V} (h : AwV K CA S H H2 as ps vs) {σ : St} (sr : SRep K CA S σ H2) (is : List Nat) :
    ∃ rs : List Root, rs.map (fun r => (r.d, r.n)) = ps ∧ rs.map (·.v) = vs ∧ rs.length = as.length ∧ (∀ (t : Nat) (r : Root), rs[t]? = some r → Rep K CA H2 r.n r.d r.v r.O r.Z) ∧ ∀ (t : Nat) (a : Aw) (r : Root), as[t]? = some a → rs[t]? = some r → AwRt K CA S H H2 is a r := by
  induction h with
  | nil => exact ⟨[], rfl, rfl, rfl, by simp, by simp⟩
  | @pu c d v Z as ps vs r z _ ih =>
    obtain ⟨rs, h1, h2, h3, h4, h5⟩ := ih
    obtain ⟨Z', rr, hz, hz0⟩ : ∃ Z', Rep K CA H2 (norm (d, 0)).2 d v [] Z' ∧ (∀ a ∈ Z', a ∈ Z) ∧ (d.mdep = 0 → Z' = []) := by
      by_cases hm : d.mdep = 0
      · obtain ⟨_, _, q⟩ := r.imm (m := 9) hm
        exact ⟨[], by simpa [norm, hm] using q, by simp, fun _ => rfl⟩
      · exact ⟨Z, by simpa [norm, hm] using r, fun a h => h, fun h => absurd h hm⟩
    refine ⟨⟨d, (norm (d, 0)).2, v, [], Z'⟩ :: rs, ?_, by rw [List.map_cons, h2], by simp [h3], fun t x e => ?_, fun t a x e1 e2 => ?_⟩
    · rw [List.map_cons, h1]
      show (d, (norm (d, 0)).2) :: ps = _
      rw [show norm (d, 0) = ((norm (d, 0)).1, (norm (d, 0)).2) from rfl, norm_fst]
    · cases t with
      | zero => cases e; exact rr
      | succ t => exact h4 t x (by simpa using e)
    · cases t with
      | zero => cases e1; cases e2; exact ⟨rr, rfl, hz0, fun a ha => z a (hz a ha)⟩
      | succ t => exact h5 t a x (by simpa using e1) (by simpa using e2)
  | @io i r as ps vs e _ ih =>
    obtain ⟨rs, h1, h2, h3, h4, h5⟩ := ih
    obtain ⟨_, rep⟩ := sr.rep i r e
    refine ⟨⟨r.d, (norm (r.d, r.n)).2, r.v, r.O, r.Z⟩ :: rs, ?_, by rw [List.map_cons, h2], by simp [h3], fun t x e => ?_, fun t a x e1 e2 => ?_⟩
    · rw [List.map_cons, h1]
      show (r.d, (norm (r.d, r.n)).2) :: ps = _
      rw [show norm (r.d, r.n) = ((norm (r.d, r.n)).1, (norm (r.d, r.n)).2) from rfl, norm_fst]
    · cases t with
      | zero => cases e; exact norm_rep rep
      | succ t => exact h4 t x (by simpa using e)
    · cases t with
      | zero => cases e1; cases e2; exact ⟨r, e, rfl, rfl, rfl⟩
      | succ t => exact h5 t a x (by simpa using e1) (by simpa using e2)
theorem awSep_at {is : List Nat} : ∀ {as : List Aw} {ps : List (D × Nat)}, as.length = ps.length → awSep is as ps = true → ∀ (t : Nat) (c : C) (p : D × Nat), as[t]? = some (.pu c) → ps[t]? = some p → p.1.mdep = 0 ∨ ∀ i ∈ is, i ∉ names c
  | [], _, _, _, t, c, p, h, _ => by simp at h
  | _ :: _, [], h, _, _, _, _, _, _ => by simp at h
  | .pu c0 :: as, p0 :: ps, hl, h, t, c, p, h1, h2 => by
    rw [awSep, Bool.and_eq_true, Bool.or_eq_true] at h
    cases t with
    | zero =>
      cases h1; cases h2
      refine h.1.imp (by simp) fun z i hi => ?_
      have := List.all_eq_true.mp z i hi
      simpa using this
    | succ t => exact awSep_at (by simpa using hl) h.2 t c p (by simpa using h1) (by simpa using h2)
  | .io i0 :: as, p0 :: ps, hl, h, t, c, p, h1, h2 => by
    rw [awSep] at h
    cases t with
    | zero => cases h1
    | succ t => exact awSep_at (by simpa using hl) h t c p (by simpa using h1) (by simpa using h2)
theorem awImm_at {ρ : Env} : ∀ {as : List Aw} {ps : List (D × Nat)}, as.length = ps.length → awImm ρ as ps = true → ∀ (t : Nat) (c : C) (p : D × Nat), as[t]? = some (.pu c) → ps[t]? = some p → p.1.mdep = 0 ∨ ∀ i ∈ names c, ∀ q, (ρ[i]?).bind id = some q → q.1.mdep = 0
  | [], _, _, _, t, c, p, h, _ => by simp at h
  | _ :: _, [], h, _, _, _, _, _, _ => by simp at h
  | .pu c0 :: as, p0 :: ps, hl, h, t, c, p, h1, h2 => by
    rw [awImm, Bool.and_eq_true] at h
    cases t with
    | zero =>
      cases h1; cases h2
      rcases Bool.or_eq_true _ _ |>.mp h.1 with z | z
      · exact .inl (by simpa using z)
      · refine .inr fun i hi q hq => ?_
        have := List.all_eq_true.mp z i hi
        rw [hq] at this
        simpa using this
    | succ t => exact awImm_at (by simpa using hl) h.2 t c p (by simpa using h1) (by simpa using h2)
  | .io i0 :: as, p0 :: ps, hl, h, t, c, p, h1, h2 => by
    rw [awImm] at h
    cases t with
    | zero => cases h1
    | succ t => exact awImm_at (by simpa using hl) h t c p (by simpa using h1) (by simpa using h2)
theorem aw_pos : ∀ (as : List Aw) (k : Nat), (Aw.pos k as).length = (Aw.ios as).length ∧ (∀ (m t i : Nat), (Aw.pos k as)[m]? = some t → (Aw.ios as)[m]? = some i → k ≤ t ∧ as[t - k]? = some (.io i)) ∧ (∀ (t i : Nat), as[t]? = some (.io i) → ∃ m : Nat, (Aw.pos k as)[m]? = some (k + t) ∧ (Aw.ios as)[m]? = some i)
  | [], k => ⟨rfl, by simp [Aw.pos], by simp⟩
  | .pu c :: as, k => by
    obtain ⟨h1, h2, h3⟩ := aw_pos as (k + 1)
    refine ⟨h1, fun m t i a b => ?_, fun t i a => ?_⟩
    · obtain ⟨g1, g2⟩ := h2 m t i a b
      refine ⟨by omega, ?_⟩
      rw [show t - k = (t - (k + 1)) + 1 by omega]
      simpa using g2
    · cases t with
      | zero => cases a
      | succ t =>
        obtain ⟨m, g1, g2⟩ := h3 t i (by simpa using a)
        exact ⟨m, by rw [show k + (t + 1) = k + 1 + t by omega]; exact g1, g2⟩
  | .io j :: as, k => by
    obtain ⟨h1, h2, h3⟩ := aw_pos as (k + 1)
    refine ⟨by simp [Aw.pos, Aw.ios, h1], fun m t i a b => ?_, fun t i a => ?_⟩
    · cases m with
      | zero =>
        simp only [Aw.pos, Aw.ios, List.getElem?_cons_zero, Option.some.injEq] at a b
        subst a; subst b
        exact ⟨Nat.le_refl _, by simp⟩
      | succ m =>
        obtain ⟨g1, g2⟩ := h2 m t i (by simpa [Aw.pos] using a) (by simpa [Aw.ios] using b)
        refine ⟨by omega, ?_⟩
        rw [show t - k = (t - (k + 1)) + 1 by omega]
        simpa using g2
    · cases t with
      | zero => cases a; exact ⟨0, by simp [Aw.pos], by simp [Aw.ios]⟩
      | succ t =>
        obtain ⟨m, g1, g2⟩ := h3 t i (by simpa using a)
        exact ⟨m + 1, by simp only [Aw.pos, List.getElem?_cons_succ]; rw [show k + (t + 1) = k + 1 + t by omega]; exact g1, by simpa [Aw.ios] using g2⟩
theorem iosOf_at : ∀ {io : List Nat} {ρ : Env} {qs : List (D × Nat)}, iosOf io ρ = some qs → qs.length = io.length ∧ ∀ (m t : Nat) (q : D × Nat), io[m]? = some t → qs[m]? = some q → (ρ[t]?).bind id = some q
  | [], _, _, h => by cases h; exact ⟨rfl, by simp⟩
  | i :: r, ρ, qs, h => by
    obtain ⟨p, hp, h⟩ := Option.bind_eq_some_iff.mp (show ((ρ[i]?).bind id).bind _ = some qs from h)
    obtain ⟨l, hl, rfl⟩ := Option.map_eq_some_iff.mp h
    obtain ⟨h1, h2⟩ := iosOf_at hl
    refine ⟨by simp [h1], fun m t q a b => ?_⟩
    cases m with
    | zero => cases a; cases b; exact hp
    | succ m => exact h2 m t q (by simpa using a) (by simpa using b)
def putRs : Slots → List (Nat × Root) → Slots
  | S, [] => S
  | S, p :: r => putRs (S.set p.1 (some ⟨p.2.d, (norm (p.2.d, p.2.n)).2, p.2.v, p.2.O, p.2.Z⟩)) r
theorem putRs_len : ∀ (l : List (Nat × Root)) (S : Slots), (putRs S l).length = S.length
  | [], _ => rfl
  | p :: r, S => by rw [putRs, putRs_len r]; simp
theorem putRs_env : ∀ (l : List (Nat × Root)) (S : Slots), envOf (putRs S l) = setL (envOf S) (l.map (·.1)) (l.map fun p => (p.2.d, p.2.n))
  | [], S => by rw [putRs, List.map_nil, setL] <;> simp
  | p :: r, S => by
    rw [putRs, putRs_env r, List.map_cons, List.map_cons, setL]
    congr 1
    unfold envOf setV
    rw [List.map_set]
    congr 2
    show some (p.2.d, (norm (p.2.d, p.2.n)).2) = _
    rw [show norm (p.2.d, p.2.n) = ((norm (p.2.d, p.2.n)).1, (norm (p.2.d, p.2.n)).2) from rfl, norm_fst]
theorem putRs_get : ∀ (l : List (Nat × Root)) (S : Slots), (l.map (·.1)).Nodup → ∀ (k : Nat) (r : Root), (putRs S l)[k]? = some (some r) → (∃ r0 : Root, (k, r0) ∈ l ∧ k < S.length ∧ r = ⟨r0.d, (norm (r0.d, r0.n)).2, r0.v, r0.O, r0.Z⟩) ∨ (k ∉ l.map (·.1) ∧ S[k]? = some (some r))
  | [], S, _, k, r, h => .inr ⟨by simp, h⟩
  | p :: l, S, nd, k, r, h => by
    rw [List.map_cons, List.nodup_cons] at nd
    rw [putRs] at h
    rcases putRs_get l _ nd.2 k r h with ⟨r0, h1, h2, h3⟩ | ⟨h1, h2⟩
    · exact .inl ⟨r0, List.mem_cons_of_mem _ h1, by simpa using h2, h3⟩
    · by_cases e : p.1 = k
      · subst e
        by_cases hk : p.1 < S.length
        · rw [List.getElem?_set_self hk] at h2
          cases h2
          exact .inl ⟨p.2, by simp, hk, rfl⟩
        · rw [List.getElem?_eq_none (by simpa using hk)] at h2; cases h2
      · rw [List.getElem?_set_ne e] at h2
        exact .inr ⟨by simp only [List.map_cons, List.mem_cons, not_or]; exact ⟨fun z => e z.symm, h1⟩, h2⟩
theorem iow_back {S : Slots} {σ : St} {H H2 H' : Hp} {J L : List Nat} {as : List Aw} {ps : List (D × Nat)} {vs : List V} {rs : List Root} {A' : Slots} {qs : List (D × Nat)} (sr : SRep K CA S σ H2) (fr : Fr S) (sm : Same H H2) (hS : ∀ a, Any S a → H a ≠ none)
    (hnd : (Aw.ios as).Nodup) (hL : ∀ i ∈ Aw.ios as, i ∉ L) (hsep : awSep (Aw.ios as) as ps = true)
    (h1 : rs.map (fun r => (r.d, r.n)) = ps) (h2 : rs.map (·.v) = vs) (h3 : rs.length = as.length) (h4 : ∀ (t : Nat) (r : Root), rs[t]? = some r → Rep K CA H2 r.n r.d r.v r.O r.Z) (h5 : ∀ (t : Nat) (a : Aw) (r : Root), as[t]? = some a → rs[t]? = some r → AwRt K CA S H H2 (Aw.ios as) a r)
    (sr' : SRep K CA A' (vs.map some) H') (fr' : Fr A') (st : Step (Aw.pos 0 as) [] (rs.map some) H2 A' H') (hm : ∀ (i : Nat) (r : Root), A'[i]? = some (some r) → i ∈ Aw.pos 0 as) (hq : iosOf (Aw.pos 0 as) (envOf A') = some qs) (hlen : qs.length = (Aw.ios as).length) (hf : qs.all full = true ∨ awImm (envOf S) as ps = true) :
    ∃ S', SRep K CA S' σ H' ∧ Fr S' ∧ Step J L S H S' H' ∧ envOf S' = setL (envOf S) (Aw.ios as) qs ∧ (∀ a, Any S' a → Any A' a ∨ Any S a) ∧ (∀ a, Own (rs.map some) a → Ou S L a) ∧ (∀ a, Any (rs.map some) a → Any S a ∨ H a = none) ∧ (∀ a, (Own (rs.map some) a ∨ H2 a = none) → ¬ Any A' a → ¬ Any S' a) := by
  have hsv : as.length = ps.length := by rw [← h1, List.length_map, h3]
  obtain ⟨p1, p2, p3⟩ := aw_pos as 0
  -- the callee's own things are the lent slots' own
  have rs_get : ∀ {t : Nat} {r : Root}, (rs.map some)[t]? = some (some r) → rs[t]? = some r := fun h => get_some h
  have as_get : ∀ {t : Nat} {r : Root}, rs[t]? = some r → ∃ a, as[t]? = some a := fun {t r} h => by
    have := (List.getElem?_eq_some_iff.mp h).1
    exact ⟨as[t]'(by omega), List.getElem?_eq_getElem (by omega)⟩
  have own_io : ∀ {t : Nat} {a : Addr}, OwnAt (rs.map some) t a → ∃ i, as[t]? = some (.io i) ∧ OwnAt S i a := fun {t a} ⟨r, e, q⟩ => by
    have er := rs_get e
    obtain ⟨x, hx⟩ := as_get er
    cases x with
    | pu c => rw [(h5 t _ r hx er).2.1] at q; simp at q
    | io i =>
      obtain ⟨r0, e0, _, eO, _⟩ := h5 t _ r hx er
      exact ⟨i, hx, r0, e0, eO ▸ q⟩
  have mem_io : ∀ {t i : Nat}, as[t]? = some (.io i) → i ∈ Aw.ios as := fun {t i} h => by
    obtain ⟨m, _, e⟩ := p3 t i h
    exact List.mem_of_getElem? e
  have ownS : ∀ a, Own (rs.map some) a → Ou S L a := fun a ⟨t, q⟩ => by
    obtain ⟨i, hi, w⟩ := own_io q
    exact ⟨i, hL i (mem_io hi), w⟩
  have anyS : ∀ a, Any (rs.map some) a → Any S a ∨ H a = none := fun a ⟨t, r, e, q⟩ => by
    have er := rs_get e
    obtain ⟨x, hx⟩ := as_get er
    cases x with
    | pu c =>
      obtain ⟨_, eO, _, z⟩ := h5 t _ r hx er
      rw [eO] at q
      exact (z a (by simpa using q)).elim .inr fun w => .inl w.any
    | io i =>
      obtain ⟨r0, e0, _, eO, eZ⟩ := h5 t _ r hx er
      exact .inl ⟨i, r0, e0, by rw [← eO, ← eZ]; exact q⟩
  -- what came back, by slots
  obtain ⟨q1, q2⟩ := iosOf_at hq
  have ex : ∀ m : Nat, m < (Aw.ios as).length → ∃ (t i : Nat) (r : Root), (Aw.pos 0 as)[m]? = some t ∧ (Aw.ios as)[m]? = some i ∧ as[t]? = some (.io i) ∧ A'[t]? = some (some r) ∧ qs[m]? = some (r.d, r.n) := fun m hm' => by
    have e1 : (Aw.ios as)[m]? = some (Aw.ios as)[m] := List.getElem?_eq_getElem hm'
    have hp : m < (Aw.pos 0 as).length := by omega
    have e2 : (Aw.pos 0 as)[m]? = some (Aw.pos 0 as)[m] := List.getElem?_eq_getElem hp
    have hqm : m < qs.length := by omega
    have e3 : qs[m]? = some qs[m] := List.getElem?_eq_getElem hqm
    have e4 := q2 m _ _ e2 e3
    rw [envOf_get] at e4
    obtain ⟨_, e5⟩ := p2 m _ _ e2 e1
    cases e6 : A'[(Aw.pos 0 as)[m]]? with
    | none => rw [e6] at e4; cases e4
    | some o => rw [e6] at e4; cases o with
      | none => cases e4
      | some r => exact ⟨_, _, r, e2, e1, by simpa using e5, e6, by rw [e3, ← Option.some.inj e4]⟩
  obtain ⟨l, l1, l2, l3⟩ : ∃ l : List (Nat × Root), l.map (·.1) = Aw.ios as ∧ l.map (fun p => (p.2.d, p.2.n)) = qs ∧ ∀ p ∈ l, ∃ t : Nat, as[t]? = some (.io p.1) ∧ A'[t]? = some (some p.2) := by
    have go : ∀ n, n ≤ (Aw.ios as).length → ∃ l : List (Nat × Root), l.map (·.1) = (Aw.ios as).take n ∧ l.map (fun p => (p.2.d, p.2.n)) = qs.take n ∧ ∀ p ∈ l, ∃ t : Nat, as[t]? = some (.io p.1) ∧ A'[t]? = some (some p.2) := by
      intro n
      induction n with
      | zero => exact fun _ => ⟨[], by simp, by simp, by simp⟩
      | succ n ih =>
        intro hn
        obtain ⟨l, a1, a2, a3⟩ := ih (by omega)
        obtain ⟨t, i, r, b1, b2, b3, b4, b5⟩ := ex n (by omega)
        refine ⟨l ++ [(i, r)], ?_, ?_, fun p hp => ?_⟩
        · rw [List.map_append, a1, List.take_add_one, b2]; rfl
        · rw [List.map_append, a2, List.take_add_one, b5]; rfl
        · rcases List.mem_append.mp hp with hp | hp
          · exact a3 p hp
          · simp at hp; subst hp; exact ⟨t, b3, b4⟩
    obtain ⟨l, a1, a2, a3⟩ := go _ (Nat.le_refl _)
    exact ⟨l, by rw [a1, List.take_length], by rw [a2, List.take_of_length_le (by omega)], a3⟩
  have lnd : (l.map (·.1)).Nodup := by rw [l1]; exact hnd
  have get := putRs_get l S lnd
  -- the other slots' things stand
  have other : ∀ (k : Nat) (r : Root), k ∉ Aw.ios as → S[k]? = some (some r) → ∀ a ∈ r.O ++ r.Z, ¬ Own (rs.map some) a := fun k r hk e a ha ⟨t, q⟩ => by
    obtain ⟨i, hi, w⟩ := own_io q
    rcases List.mem_append.mp ha with z | z
    · have := fr.sep i k a w ⟨r, e, z⟩
      exact hk (this ▸ mem_io hi)
    · exact fr.zo i a w k r e z
  have kp : Keep (ownL (rs.map some) []) H2 H' := st.keepF
  have fx : Fix (ownL (rs.map some) []) H2 := fun a ha => by
    obtain ⟨t, _, r, e, q⟩ := ownL_mem.mp ha
    exact (h4 t r (rs_get e)).own_mut a q
  have vv : ∀ {t i : Nat} {r : Root}, as[t]? = some (.io i) → A'[t]? = some (some r) → ∃ r0 : Root, S[i]? = some (some r0) ∧ r.v = r0.v := fun {t i r} a b => by
    have e1 := (sr'.rep t r b).1
    rw [List.getElem?_map] at e1
    obtain ⟨v, e2, e3⟩ := Option.map_eq_some_iff.mp e1
    cases e3
    rw [← h2, List.getElem?_map] at e2
    obtain ⟨r1, e4, e5⟩ := Option.map_eq_some_iff.mp e2
    obtain ⟨r0, e6, e7, _⟩ := h5 t _ r1 a e4
    exact ⟨r0, e6, by rw [← e5, e7]⟩
  -- what is back in a lent slot hangs on no other slot's own
  have zfree : ∀ {t i : Nat} {r : Root}, as[t]? = some (.io i) → A'[t]? = some (some r) → ∀ a ∈ r.Z, ∀ k, k ∉ Aw.ios as → ¬ OwnAt S k a := fun {t i r} ha hA a haz k hk w => by
    rcases hf with hf | hf
    · obtain ⟨m, g1, g2⟩ := p3 t i ha
      have hml := (List.getElem?_eq_some_iff.mp g2).1
      obtain ⟨t', i', r', b1, b2, b3, b4, b5⟩ := ex m hml
      rw [g1] at b1
      have : t = t' := by simpa using b1
      subst this
      rw [hA] at b4
      cases b4
      have hfu := List.all_eq_true.mp hf _ (List.mem_of_getElem? b5)
      have := (sr'.rep t r hA).2.full (by simpa [full] using hfu)
      rw [this] at haz; simp at haz
    · rcases st.any a ⟨t, r, hA, by simp [haz]⟩ with ⟨t2, r2, e2, q2⟩ | z
      · have er := rs_get e2
        obtain ⟨x, hx⟩ := as_get er
        cases x with
        | pu c =>
          obtain ⟨_, eO, ez, zz⟩ := h5 t2 _ r2 hx er
          have hp : ps[t2]? = some (r2.d, r2.n) := by rw [← h1, List.getElem?_map, er]; rfl
          rcases awImm_at hsv hf t2 c _ hx hp with this | this
          · rw [eO, ez this] at q2; simp at q2
          · rw [eO] at q2
            rcases zz a (by simpa using q2) with y | ⟨i3, hi3, r3, e3, y3⟩
            · exact hS a w.any y
            · have hm3 : r3.d.mdep = 0 := this i3 hi3 (r3.d, r3.n) (by rw [envOf_get, e3]; rfl)
              obtain ⟨o1, o2, _⟩ := (sr.rep i3 r3 e3).2.imm (m := 0) hm3
              rw [o1, o2] at y3
              simp at y3
        | io i2 =>
          obtain ⟨r0, e0, _, eO, eZ⟩ := h5 t2 _ r2 hx er
          rw [eO, eZ] at q2
          rcases List.mem_append.mp q2 with y | y
          · have := fr.sep i2 k a ⟨r0, e0, y⟩ w
            exact hk (this ▸ mem_io hx)
          · exact fr.zo k a w i2 r0 e0 y
      · exact hS a w.any (same_none sm z)
  -- own things of what is back, against other slots
  have osep : ∀ {t : Nat} {a : Addr}, OwnAt A' t a → ∀ k, k ∉ Aw.ios as → ∀ r : Root, S[k]? = some (some r) → a ∉ r.O ++ r.Z := fun {t a} w k hk r e ha => by
    have : Own (rs.map some) a ∨ H2 a = none := by
      rcases st.own t a w with z | z | z
      · exact .inl z.own
      · exact .inl z.own
      · exact .inr z
    rcases this with z | z
    · exact other k r hk e a ha z
    · exact hS a ⟨k, r, e, ha⟩ (same_none sm z)
  refine ⟨putRs S l, ?_, ?_, ?_, by rw [putRs_env, l1, l2], ?_, ownS, anyS, ?_⟩
  · refine ⟨by rw [putRs_len]; exact sr.len, fun k r e => ?_⟩
    rcases get k r e with ⟨r0, g1, g2, rfl⟩ | ⟨g1, g2⟩
    · obtain ⟨t, b1, b2⟩ := l3 _ g1
      obtain ⟨r1, c1, c2⟩ := vv b1 b2
      refine ⟨?_, norm_rep (sr'.rep t r0 b2).2⟩
      show σ[k]? = some (some r0.v)
      rw [c2]
      exact (sr.rep k r1 c1).1
    · rw [l1] at g1
      refine ⟨(sr.rep k r g2).1, (sr.rep k r g2).2.keep kp fx fun a ha w => ?_⟩
      exact other k r g1 g2 a ha (ownL_mem.mp w).own
  · have key : ∀ (k : Nat) (r : Root), (putRs S l)[k]? = some (some r) → (k ∈ Aw.ios as ∧ ∃ (t : Nat) (r0 : Root), as[t]? = some (.io k) ∧ A'[t]? = some (some r0) ∧ r.O = r0.O ∧ r.Z = r0.Z) ∨ (k ∉ Aw.ios as ∧ S[k]? = some (some r)) := fun k r e => by
      rcases get k r e with ⟨r0, g1, g2, rfl⟩ | ⟨g1, g2⟩
      · obtain ⟨t, b1, b2⟩ := l3 _ g1
        exact .inl ⟨mem_io b1, t, r0, b1, b2, rfl, rfl⟩
      · rw [l1] at g1; exact .inr ⟨g1, g2⟩
    have uniq : ∀ {t t2 i : Nat}, as[t]? = some (.io i) → as[t2]? = some (.io i) → t = t2 := fun {t t2 i} a b => by
      obtain ⟨m, a1, a2⟩ := p3 t i a
      obtain ⟨m2, b1, b2⟩ := p3 t2 i b
      have hm1 := (List.getElem?_eq_some_iff.mp a2).1
      have hm2 := (List.getElem?_eq_some_iff.mp b2).1
      have : m = m2 := by
        have e1 := (List.getElem?_eq_some_iff.mp a2).2
        have e2 := (List.getElem?_eq_some_iff.mp b2).2
        exact (List.getElem_inj hnd).mp (e1.trans e2.symm)
      subst this
      rw [a1] at b1
      have := Option.some.inj b1
      omega
    refine ⟨fun k r e => ?_, fun k k2 a ⟨r, e, q⟩ ⟨r2, e2, q2⟩ => ?_, fun k a ⟨r, e, q⟩ k2 r2 e2 => ?_⟩
    · rcases key k r e with ⟨_, t, r0, b1, b2, b3, _⟩ | ⟨_, g⟩
      · rw [b3]; exact fr'.nd t r0 b2
      · exact fr.nd k r g
    · rcases key k r e with ⟨g0, t, r0, b1, b2, b3, _⟩ | ⟨g0, g⟩ <;> rcases key k2 r2 e2 with ⟨f0, t2, r02, c1, c2, c3, _⟩ | ⟨f0, f⟩
      · rw [b3] at q; rw [c3] at q2
        have := fr'.sep t t2 a ⟨r0, b2, q⟩ ⟨r02, c2, q2⟩
        subst this
        rw [b1] at c1; cases c1; rfl
      · rw [b3] at q
        exact absurd (by simp [q2]) (osep ⟨r0, b2, q⟩ k2 f0 r2 f)
      · rw [c3] at q2
        exact absurd (by simp [q]) (osep ⟨r02, c2, q2⟩ k g0 r g)
      · exact fr.sep k k2 a ⟨r, g, q⟩ ⟨r2, f, q2⟩
    · rcases key k r e with ⟨g0, t, r0, b1, b2, b3, _⟩ | ⟨g0, g⟩ <;> rcases key k2 r2 e2 with ⟨f0, t2, r02, c1, c2, _, c4⟩ | ⟨f0, f⟩
      · rw [b3] at q; rw [c4]
        exact fr'.zo t a ⟨r0, b2, q⟩ t2 r02 c2
      · rw [b3] at q
        exact fun z => osep ⟨r0, b2, q⟩ k2 f0 r2 f (by simp [z])
      · rw [c4]
        exact fun z => zfree c1 c2 a z k g0 ⟨r, g, q⟩
      · exact fr.zo k a ⟨r, g, q⟩ k2 r2 f
  · refine ⟨fun a o e n => st.keep a o (sm a o e) fun ⟨t, _, q⟩ => n (ownS a q.own), fun a h => st.there a (same_there sm h), fun k a ⟨r, e, q⟩ => ?_, fun a ⟨k, r, e, q⟩ => ?_, fun k _ r e => ?_⟩
    · rcases get k r e with ⟨r0, g1, g2, rfl⟩ | ⟨g1, g2⟩
      · obtain ⟨t, b1, b2⟩ := l3 _ g1
        rcases st.own t a ⟨r0, b2, q⟩ with z | z | z
        · obtain ⟨i, hi, w⟩ := own_io z
          rw [b1] at hi; cases hi
          exact .inl w
        · exact .inr (.inl (ownS a z.own))
        · exact .inr (.inr (same_none sm z))
      · exact .inl ⟨r, g2, q⟩
    · rcases get k r e with ⟨r0, g1, g2, rfl⟩ | ⟨g1, g2⟩
      · obtain ⟨t, b1, b2⟩ := l3 _ g1
        rcases st.any a ⟨t, r0, b2, q⟩ with z | z
        · exact anyS a z
        · exact .inr (same_none sm z)
      · exact .inl ⟨k, r, g2, q⟩
    · rcases get k r e with ⟨r0, g1, g2, rfl⟩ | ⟨g1, g2⟩
      · obtain ⟨t, b1, b2⟩ := l3 _ g1
        obtain ⟨r1, c1, c2⟩ := vv b1 b2
        exact ⟨r1, c1, c2.symm⟩
      · exact ⟨r, g2, rfl⟩
  · intro a ⟨k, r, e, q⟩
    rcases get k r e with ⟨r0, g1, g2, rfl⟩ | ⟨g1, g2⟩
    · obtain ⟨t, b1, b2⟩ := l3 _ g1
      exact .inl ⟨t, r0, b2, q⟩
    · exact .inr ⟨k, r, g2, q⟩
  · intro a ha hA ⟨k, r, e, q⟩
    rcases get k r e with ⟨r0, g1, g2, rfl⟩ | ⟨g1, g2⟩
    · obtain ⟨t, b1, b2⟩ := l3 _ g1
      exact hA ⟨t, r0, b2, q⟩
    · rw [l1] at g1
      rcases ha with z | z
      · exact other k r g1 g2 a q z
      · exact hS a ⟨k, r, g2, q⟩ (same_none sm z)
end
section
variable {X : Cx} {nm : Nm} {G : Glo} {CA : Nat → Addr} {cf : Runs} {W : WX} {L : List Nat}
inductive AwE (X : Cx) (G : Glo) (CA : Nat → Addr) (cf : Runs) (W : WX) : List Expr → List Aw → Prop
  | nil : AwE X G CA cf W [] []
  | pu {e : Expr} {c : C} {es as} : noStar e = true → PE X e (tE X G CA cf W c) → AwE X G CA cf W es as → AwE X G CA cf W (e :: es) (.pu c :: as)
  | io {e : Expr} {i : Nat} {es as} : noStar e = true → PE X e (tVar i) → AwE X G CA cf W es as → AwE X G CA cf W (e :: es) (.io i :: as)
def DenAw (K : PySem.W.Frag) (CA : Nat → Addr) (W : WX) (S : Slots) (as : List Aw) (o : Out (List (D × Nat))) (σ : St) (H : Hp) (Q : List V → Hp → Prop) : Prop := match o with
  | .ok ps => ∀ vs H2, Same H H2 → AwV K CA S H H2 as ps vs → Q vs H2
  | .exc e => ∀ cls dd H', Same H H' → ExRep K CA e cls dd H' → W cls dd σ H'
  | .bad => False
def tAw (X : Cx) (G : Glo) (CA : Nat → Addr) (cf : Runs) (W : WX) (as : List Aw) : TA := fun σ H Q => ∃ S, SRep X.K CA S σ H ∧ DenAw X.K CA W S as (evAw G cf (envOf S) as) σ H Q
theorem pa_aw {es : List Expr} {as : List Aw} (h : AwE X G CA cf W es as) : PA X es (tAw X G CA cf W as) := by
  induction h with
  | nil => exact PA.weak pa_nil fun σ H Q ⟨S, sr, h⟩ => h [] H (Same.refl H) .nil
  | @pu e c es as hs he _ ih =>
    refine PA.weak (pa_cons he ih (star_cons hs)) fun σ H Q ⟨S, sr, h⟩ => ⟨S, sr, ?_⟩
    rw [evAw] at h
    cases e1 : ev G cf (envOf S) c with
    | exc x => rw [e1] at h; exact h
    | bad => rw [e1] at h; exact h
    | ok p =>
      rw [e1] at h
      simp only [Out.bind_ok] at h
      intro v H1 O Z pv
      refine ⟨S, sr.same pv.same, ?_⟩
      cases e2 : evAw G cf (envOf S) as with
      | exc x => rw [e2] at h; exact fun cls dd H' s' r => h cls dd H' (pv.same.trans s') r
      | bad => rw [e2] at h; exact h
      | ok ps =>
        rw [e2] at h
        intro vs H2 s2 av
        obtain ⟨Z', p0⟩ := pv.at0
        exact h _ _ (pv.same.trans s2) (.pu (p0.rep.same s2) p0.zin (av.ahead pv.same))
  | @io e i es as hs he _ ih =>
    refine PA.weak (pa_cons he ih (star_cons hs)) fun σ H Q ⟨S, sr, h⟩ => ?_
    rw [evAw, envOf_get] at h
    cases e1 : S[i]? with
    | none => rw [e1] at h; exact h.elim
    | some o => cases o with
      | none => rw [e1] at h; exact h.elim
      | some r =>
        rw [e1] at h
        simp only [Option.bind_some, id, Option.map_some, Out.of_some, Out.bind_ok] at h
        refine ⟨r.v, (sr.rep i r e1).1, S, sr, ?_⟩
        cases e2 : evAw G cf (envOf S) as with
        | exc x => rw [e2] at h; exact h
        | bad => rw [e2] at h; exact h
        | ok ps =>
          rw [e2] at h
          exact fun vs H2 s2 av => h _ _ s2 (.io e1 av)
theorem AwV.len {K : PySem.W.Frag} {S : Slots} {H H2 : Hp} {as : List Aw} {ps : List (D × Nat)} {vs : List V} (h : AwV K CA S H H2 as ps vs) : as.length = vs.length ∧ as.length = ps.length := by
  induction h with
  | nil => exact ⟨rfl, rfl⟩
  | pu _ _ _ ih => simp [ih.1, ih.2]; rw [← ih.1, ← ih.2]
  | io _ _ ih => simp [ih.1, ih.2]; rw [← ih.1, ← ih.2]
theorem iow_read {f : Nat} {as : List Aw} (hne : Aw.pos 0 as ≠ []) {σ : St} {H : Hp} {Q : VK} (h : tX X G CA cf W L (.iow f as) σ H Q) : tAw X G CA cf W as σ H fun vs H2 => spI X.K CA cf.ci as.length (Aw.pos 0 as) f vs H2 Q (fun cls dd H' => W cls dd σ H') := by
  obtain ⟨S, sr, fr, h⟩ := h
  refine ⟨S, sr, ?_⟩
  rw [exX] at h
  unfold iowX at h
  cases e1 : evAw G cf (envOf S) as with
  | exc x => rw [e1] at h; exact fun cls dd H' s r => h S H' cls dd (sr.same s) fr (Step.same s) rfl r
  | bad => rw [e1] at h; exact h
  | ok ps =>
  rw [e1] at h
  simp only [onO_ok] at h
  by_cases hc : (Aw.ios as).Nodup ∧ (∀ i ∈ Aw.ios as, i ∉ L) ∧ awSep (Aw.ios as) as ps = true
  case neg => rw [if_neg hc] at h; exact h.elim
  rw [if_pos hc] at h
  obtain ⟨hnd, hL, hsep⟩ := hc
  intro vs H2 sm av
  obtain ⟨l1, l2⟩ := av.len
  obtain ⟨rs, h1, h2, h3, h4, h5⟩ := aw_roots av (sr.same sm) (Aw.ios as)
  obtain ⟨p1, p2, p3⟩ := aw_pos as 0
  have mem_io : ∀ {t i : Nat}, as[t]? = some (.io i) → i ∈ Aw.ios as := fun {t i} h => by
    obtain ⟨m, _, e⟩ := p3 t i h
    exact List.mem_of_getElem? e
  have uniq : ∀ {t t2 i : Nat}, as[t]? = some (.io i) → as[t2]? = some (.io i) → t = t2 := fun {t t2 i} a b => by
    obtain ⟨m, a1, a2⟩ := p3 t i a
    obtain ⟨m2, b1, b2⟩ := p3 t2 i b
    have : m = m2 := by
      have e1 := (List.getElem?_eq_some_iff.mp a2).2
      have e2 := (List.getElem?_eq_some_iff.mp b2).2
      exact (List.getElem_inj hnd).mp (e1.trans e2.symm)
    subst this
    rw [a1] at b1
    have := Option.some.inj b1
    omega
  have as_get : ∀ {t : Nat} {r : Root}, rs[t]? = some r → ∃ a, as[t]? = some a := fun {t r} h => by
    have := (List.getElem?_eq_some_iff.mp h).1
    exact ⟨as[t]'(by omega), List.getElem?_eq_getElem (by omega)⟩
  have own_io : ∀ {t : Nat} {a : Addr}, OwnAt (rs.map some) t a → ∃ i, as[t]? = some (.io i) ∧ OwnAt S i a := fun {t a} ⟨r, e, q⟩ => by
    have er := get_some e
    obtain ⟨x, hx⟩ := as_get er
    cases x with
    | pu c => rw [(h5 t _ r hx er).2.1] at q; simp at q
    | io i =>
      obtain ⟨r0, e0, _, eO, _⟩ := h5 t _ r hx er
      exact ⟨i, hx, r0, e0, eO ▸ q⟩
  have sr0 : SRep X.K CA (rs.map some) (vs.map some) H2 := ⟨by rw [← h2]; simp, fun t r e => by
    have er := get_some e
    refine ⟨?_, h4 t r er⟩
    rw [← h2, List.map_map, List.getElem?_map, er]; rfl⟩
  have fr0 : Fr (rs.map some) := by
    refine ⟨fun t r e => ?_, fun t t2 a q w => ?_, fun t a q t2 r2 e2 => ?_⟩
    · have er := get_some e
      obtain ⟨x, hx⟩ := as_get er
      cases x with
      | pu c => rw [(h5 t _ r hx er).2.1]; simp
      | io i =>
        obtain ⟨r0, e0, _, eO, _⟩ := h5 t _ r hx er
        rw [eO]; exact fr.nd i r0 e0
    · obtain ⟨i, hi, q⟩ := own_io q
      obtain ⟨i2, hi2, w⟩ := own_io w
      have := fr.sep i i2 a q w
      subst this
      exact uniq hi hi2
    · obtain ⟨i, hi, q⟩ := own_io q
      have er2 := get_some e2
      obtain ⟨x, hx⟩ := as_get er2
      cases x with
      | pu c =>
        obtain ⟨_, _, ez, z⟩ := h5 t2 _ r2 hx er2
        have hp : ps[t2]? = some (r2.d, r2.n) := by rw [← h1, List.getElem?_map, er2]; rfl
        rcases awSep_at l2 hsep t2 c _ hx hp with y | y
        · rw [ez y]; simp
        · intro haz
          rcases z a haz with z | ⟨k, hk, r, e, y2⟩
          · exact sr.own ⟨i, q⟩ z
          · have hki : k ≠ i := fun z => y i (mem_io hi) (z ▸ hk)
            rcases List.mem_append.mp y2 with y2 | y2
            · exact hki (fr.sep k i a ⟨r, e, y2⟩ q)
            · exact fr.zo i a q k r e y2
      | io i2 =>
        obtain ⟨r0, e0, _, _, eZ⟩ := h5 t2 _ r2 hx er2
        rw [eZ]; exact fr.zo i a q i2 r0 e0
  refine ⟨l1.symm, rs, sr0, fr0, ?_⟩
  rw [h1]
  cases e2 : cf.ci f ps with
  | bad => rw [e2] at h; exact h.elim
  | ok p qs =>
    rw [e2] at h
    simp only at h
    by_cases hb : qs.length = (Aw.ios as).length ∧ (qs.all full = true ∨ awImm (envOf S) as ps = true)
    case neg => rw [if_neg hb] at h; exact h.elim
    rw [if_pos hb] at h
    intro A' v H' O Z sr' fr' st hm hq rp o1 o2 nd z1 z2 hfull
    obtain ⟨S', s1, s2, s3, s4, s5, s6, s7, s8⟩ := iow_back (J := cf.io) (L := L) (sr.same sm) fr sm (fun a q => sr.any q) hnd hL hsep h1 h2 h3 h4 h5 sr' fr' st hm hq hb.1 hb.2
    have hz : Z = [] := rp.full (by simpa [full] using hfull hne)
    subst hz
    refine h S' v H' O [] s1 s2 s3 s4 ⟨rp, nd, by simp, fun a ha => s8 a (o2 a ha) (o1 a ha), by simp⟩ (fun a ha => ?_) (by simp)
    exact (o2 a ha).imp (s6 a) (same_none sm)
  | exc x qs =>
    rw [e2] at h
    simp only at h
    by_cases hb : qs.length = (Aw.ios as).length ∧ (qs.all full = true ∨ awImm (envOf S) as ps = true)
    case neg => rw [if_neg hb] at h; exact h.elim
    rw [if_pos hb] at h
    intro A' H' cls dd sr' fr' st hm hq ex
    obtain ⟨S', s1, s2, s3, s4, s5, s6, s7, s8⟩ := iow_back (J := cf.io) (L := L) (sr.same sm) fr sm (fun a q => sr.any q) hnd hL hsep h1 h2 h3 h4 h5 sr' fr' st hm hq hb.1 hb.2
    exact h S' H' cls dd s1 s2 s3 s4 ex
end
section
variable {sc : Scope} {X : Cx} {nm : Nm} {G : Glo} {CA : Nat → Addr} {cf : Runs} {np : Nat → Option Nat} {nio : Nat → Option (Nat × List Nat)} {bl : List Str} {W : WX} {L : List Nat}
theorem x_iow (B : En sc X nm G CA cf np bl W) (I : CtxI X nm CA cf nio) (f n : Nat) {x : Str} {as : List Aw} {e : Expr} {es : List Expr} {p pos : Pos} (hf : nio f = some (n, Aw.pos 0 as)) (hn : as.length = n) (hx : x = nm.fn f) (hmt : nm.mt f = .fn) (hne : (Aw.pos 0 as).isEmpty = false) (h : gloB sc x = true) (hd : dbg x = true) (hs : (e :: es).all noStar = true)
    (ha : AwE X G CA cf W (e :: es) as) : PE X (.Call (.Name x p) (e :: es) [] pos) (tX X G CA cf W L (.iow f as)) := by
  obtain ⟨k, hr, hF⟩ := I.lev
  obtain ⟨a, fd, ps, h1, h2, h3, h4, _, h5⟩ := hF f n _ hf
  rw [hmt] at h1 h5
  replace h1 : X.mg (nm.fn f) = some (.ref a) := h1
  rw [← hx] at h1
  rw [List.all_cons, Bool.and_eq_true] at hs
  subst hn
  exact PE.weak (pe_callS h5 hr (B.gl h) h1 h2 h3 (fun σ => B.tk.pass σ) (pa_aw ha) (dbg_ok hd).1 (star_cons hs.1) (back_any hs.2)) fun σ H Q h => iow_read (by intro z; rw [z] at hne; cases hne) h
theorem aw_io (B : En sc X nm G CA cf np bl W) (i : Nat) {x : Str} {p : Pos} {es : List Expr} {as : List Aw} (hi : nm.N[i]? = some x) (v : visB sc x = true) (g : dbg x = true) (hr : AwE X G CA cf W es as) : AwE X G CA cf W (.Name x p :: es) (.io i :: as) :=
  .io rfl (pe_var (by rw [B.cx.N]; exact hi) (B.vis v) (dbg_ok g).1 (dbg_ok g).2.1) hr
theorem tt_not {c : Xp} {e : Expr} {pos : Pos} (h : PT X e (tXT X G CA cf W L c)) : PT X (.UnaryOp .Not e pos) (tXT X G CA cf W L (.not c)) := by
  refine PT.weak (pt_not h) fun σ H Q ⟨S, sr, fr, hd⟩ => ⟨S, sr, fr, ?_⟩
  rw [exX] at hd
  cases e1 : exX G cf L (envOf S) c with
  | ok p ρ =>
    rw [e1] at hd
    cases e2 : truth p.1 with
    | none =>
      simp only [OX.bind_ok, e2] at hd
      exact hd.elim
    | some b =>
      simp only [OX.bind_ok, e2, Option.map_some, OX.of_some] at hd
      obtain ⟨b', hb, hd⟩ := hd
      cases hb
      exact ⟨b, e2, hd⟩
  | exc x ρ => rw [e1] at hd; exact hd
  | bad => rw [e1] at hd; exact hd
end
end Vy

namespace Vy
open PySem PySem.Spec
open PyProof.Rows hiding St
open L2
section
variable {K : PySem.W.Frag} {CA : Nat → Addr} {H H' : Hp}
inductive Ext (K : PySem.W.Frag) (CA : Nat → Addr) (H : Hp) : Slots → St → List (Nat × List Rtp) → Slots → St → Prop
  | nil {S : Slots} {σ : St} : Ext K CA H S σ [] S σ
  | cons {S : Slots} {σ : St} {i : Nat} {rs : List Rtp} {r : Root} {u : D × Nat} {w : V} {R Y O' Z' : List Addr} {l : List (Nat × List Rtp)} {S2 : Slots} {σ2 : St} : S[i]? = some (some r) → getP (r.d, r.n) rs = some u → Rep K CA H r.n (putP r.d rs .hol) r.v R Y → Rep K CA H u.2 u.1 w O' Z' → VAt H r.v rs w → r.O.Perm (R ++ O') → (∀ a, a ∈ r.Z ↔ a ∈ Y ∨ a ∈ Z') →
      Ext K CA H (S.set i (some ⟨putP r.d rs .hol, r.n, r.v, R, Y⟩) ++ [some ⟨u.1, u.2, w, O', Z'⟩]) (σ ++ [some w]) l S2 σ2 → Ext K CA H S σ ((i, rs) :: l) S2 σ2
def Pr (M : Nat) (l : List (Nat × List Rtp)) (j k : Nat) : Prop := (j < M ∧ k = j) ∨ (M ≤ j ∧ ∃ x : Nat × List Rtp, l[j - M]? = some x ∧ k = x.1)
theorem s1_get {S : Slots} {i j : Nat} {h q x : Root} (e : (S.set i (some h) ++ [some q])[j]? = some (some x)) : (j < S.length ∧ j = i ∧ x = h) ∨ (j = S.length ∧ x = q) ∨ (j < S.length ∧ j ≠ i ∧ S[j]? = some (some x)) := by
  by_cases hj : j < S.length
  · rw [List.getElem?_append_left (by simpa using hj)] at e
    by_cases hi : i = j
    · subst hi
      rw [List.getElem?_set_self hj] at e
      exact .inl ⟨hj, rfl, (Option.some.inj (Option.some.inj e)).symm⟩
    · rw [List.getElem?_set_ne hi] at e
      exact .inr (.inr ⟨hj, fun z => hi z.symm, e⟩)
  · rw [List.getElem?_append_right (by simpa using hj), List.length_set] at e
    cases hk : j - S.length with
    | zero =>
      rw [hk] at e
      exact .inr (.inl ⟨by omega, (Option.some.inj (Option.some.inj e)).symm⟩)
    | succ k => rw [hk] at e; simp at e
section
variable {S : Slots} {σ : St} {i : Nat} {rs : List Rtp} {r : Root} {u : D × Nat} {w : V} {R Y O' Z' : List Addr}
theorem ext1_rep (sr : SRep K CA S σ H) (h1 : S[i]? = some (some r)) (h3 : Rep K CA H r.n (putP r.d rs .hol) r.v R Y) (h4 : Rep K CA H u.2 u.1 w O' Z') : SRep K CA (S.set i (some ⟨putP r.d rs .hol, r.n, r.v, R, Y⟩) ++ [some ⟨u.1, u.2, w, O', Z'⟩]) (σ ++ [some w]) H := by
  refine ⟨by simp [sr.len], fun j x e => ?_⟩
  have hl : ∀ j, j < S.length → (σ ++ [some w])[j]? = σ[j]? := fun j hj => List.getElem?_append_left (by rw [← sr.len]; exact hj)
  rcases s1_get e with ⟨hj, rfl, rfl⟩ | ⟨rfl, rfl⟩ | ⟨hj, _, e⟩
  · rw [hl _ hj]
    exact ⟨(sr.rep _ _ h1).1, h3⟩
  · refine ⟨?_, h4⟩
    rw [List.getElem?_append_right (by rw [sr.len]; exact Nat.le_refl _), sr.len]
    simp
  · rw [hl _ hj]
    exact sr.rep j x e
theorem ext1_own {j : Nat} {a : Addr} (h1 : S[i]? = some (some r)) (h6 : r.O.Perm (R ++ O')) (o : OwnAt (S.set i (some ⟨putP r.d rs .hol, r.n, r.v, R, Y⟩) ++ [some ⟨u.1, u.2, w, O', Z'⟩]) j a) : (j = S.length ∧ a ∈ O' ∧ OwnAt S i a) ∨ (j < S.length ∧ OwnAt S j a ∧ (j = i → a ∈ R)) := by
  obtain ⟨x, e, q⟩ := o
  rcases s1_get e with ⟨hj, rfl, rfl⟩ | ⟨rfl, rfl⟩ | ⟨hj, hi, e⟩
  · exact .inr ⟨hj, ⟨r, h1, h6.mem_iff.mpr (List.mem_append_left _ q)⟩, fun _ => q⟩
  · exact .inl ⟨rfl, q, r, h1, h6.mem_iff.mpr (List.mem_append_right _ q)⟩
  · exact .inr ⟨hj, ⟨x, e, q⟩, fun z => absurd z hi⟩
theorem ext1_z {j : Nat} {x : Root} {a : Addr} (h1 : S[i]? = some (some r)) (h7 : ∀ a, a ∈ r.Z ↔ a ∈ Y ∨ a ∈ Z') (e : (S.set i (some ⟨putP r.d rs .hol, r.n, r.v, R, Y⟩) ++ [some ⟨u.1, u.2, w, O', Z'⟩])[j]? = some (some x)) (q : a ∈ x.Z) : ∃ (k : Nat) (y : Root), S[k]? = some (some y) ∧ a ∈ y.Z := by
  rcases s1_get e with ⟨_, rfl, rfl⟩ | ⟨rfl, rfl⟩ | ⟨_, _, e⟩
  · exact ⟨_, r, h1, (h7 a).mpr (.inl q)⟩
  · exact ⟨_, r, h1, (h7 a).mpr (.inr q)⟩
  · exact ⟨_, x, e, q⟩
theorem ext1_fr (fr : Fr S) (h1 : S[i]? = some (some r)) (h6 : r.O.Perm (R ++ O')) (h7 : ∀ a, a ∈ r.Z ↔ a ∈ Y ∨ a ∈ Z') : Fr (S.set i (some ⟨putP r.d rs .hol, r.n, r.v, R, Y⟩) ++ [some ⟨u.1, u.2, w, O', Z'⟩]) := by
  have nd : (R ++ O').Nodup := h6.nodup_iff.mp (fr.nd i r h1)
  rw [List.nodup_append] at nd
  refine ⟨fun j x e => ?_, fun j k a p q => ?_, fun j a p k x e z => ?_⟩
  · rcases s1_get e with ⟨_, rfl, rfl⟩ | ⟨rfl, rfl⟩ | ⟨_, _, e⟩
    · exact nd.1
    · exact nd.2.1
    · exact fr.nd j x e
  · rcases ext1_own h1 h6 p with ⟨pj, pa, po⟩ | ⟨pj, po, pr⟩ <;> rcases ext1_own h1 h6 q with ⟨qj, qa, qo⟩ | ⟨qj, qo, qr⟩
    · omega
    · have := fr.sep i k a po qo
      exact absurd rfl (nd.2.2 a (qr this.symm) a pa)
    · have := fr.sep i j a qo po
      exact absurd rfl (nd.2.2 a (pr this.symm) a qa)
    · exact fr.sep j k a po qo
  · obtain ⟨k', y, e', z'⟩ := ext1_z h1 h7 e z
    rcases ext1_own h1 h6 p with ⟨_, _, po⟩ | ⟨_, po, _⟩
    · exact fr.zo i a po k' y e' z'
    · exact fr.zo j a po k' y e' z'
theorem ext1_any {a : Addr} (h1 : S[i]? = some (some r)) (h6 : r.O.Perm (R ++ O')) (h7 : ∀ a, a ∈ r.Z ↔ a ∈ Y ∨ a ∈ Z') (o : Any (S.set i (some ⟨putP r.d rs .hol, r.n, r.v, R, Y⟩) ++ [some ⟨u.1, u.2, w, O', Z'⟩]) a) : Any S a := by
  obtain ⟨j, x, e, q⟩ := o
  rcases List.mem_append.mp q with q | q
  · rcases ext1_own h1 h6 ⟨x, e, q⟩ with ⟨_, _, po⟩ | ⟨_, po, _⟩ <;> exact po.any
  · obtain ⟨k', y, e', z'⟩ := ext1_z h1 h7 e q
    exact ⟨k', y, e', by simp [z']⟩
end
theorem Ext.len {S S2 : Slots} {σ σ2 : St} {l : List (Nat × List Rtp)} (x : Ext K CA H S σ l S2 σ2) : S2.length = S.length + l.length := by
  induction x with
  | nil => rfl
  | cons _ _ _ _ _ _ _ _ ih => rw [ih]; simp; omega
theorem Ext.ok {S S2 : Slots} {σ σ2 : St} {l : List (Nat × List Rtp)} (x : Ext K CA H S σ l S2 σ2) (sr : SRep K CA S σ H) (fr : Fr S) : SRep K CA S2 σ2 H ∧ Fr S2 := by
  induction x with
  | nil => exact ⟨sr, fr⟩
  | cons h1 h2 h3 h4 h5 h6 h7 _ ih => exact ih (ext1_rep sr h1 h3 h4) (ext1_fr fr h1 h6 h7)
theorem Ext.own {S S2 : Slots} {σ σ2 : St} {l : List (Nat × List Rtp)} (x : Ext K CA H S σ l S2 σ2) {N : Nat} (hN : N ≤ S.length) (hl : ∀ y ∈ l, y.1 < N) {j : Nat} {a : Addr} (o : OwnAt S2 j a) : ∃ k, Pr S.length l j k ∧ OwnAt S k a := by
  induction x with
  | nil =>
    obtain ⟨r, e, q⟩ := o
    exact ⟨j, .inl ⟨(List.getElem?_eq_some_iff.mp e).1, rfl⟩, r, e, q⟩
  | @cons S σ i rs r u w R Y O' Z' l S2 σ2 h1 h2 h3 h4 h5 h6 h7 _ ih =>
    obtain ⟨k, p, o1⟩ := ih (by simp; omega) (fun y hy => hl y (List.mem_cons_of_mem _ hy)) o
    have hle : (S.set i (some (⟨putP r.d rs .hol, r.n, r.v, R, Y⟩ : Root)) ++ [some (⟨u.1, u.2, w, O', Z'⟩ : Root)]).length = S.length + 1 := by simp
    rw [hle] at p
    rcases ext1_own h1 h6 o1 with ⟨hk, _, o2⟩ | ⟨hk, o2, _⟩
    · refine ⟨i, .inr ?_, o2⟩
      rcases p with ⟨p1, p2⟩ | ⟨p1, y, p2, p3⟩
      · refine ⟨by omega, (i, rs), ?_, rfl⟩
        rw [show j - S.length = 0 by omega]; rfl
      · have := hl y (List.mem_cons_of_mem _ (List.mem_of_getElem? p2))
        omega
    · refine ⟨k, ?_, o2⟩
      rcases p with ⟨p1, p2⟩ | ⟨p1, y, p2, p3⟩
      · exact .inl ⟨by omega, p2⟩
      · refine .inr ⟨by omega, y, ?_, p3⟩
        rw [show j - S.length = (j - (S.length + 1)) + 1 by omega]
        exact p2
theorem Ext.any {S S2 : Slots} {σ σ2 : St} {l : List (Nat × List Rtp)} (x : Ext K CA H S σ l S2 σ2) {a : Addr} (o : Any S2 a) : Any S a := by
  induction x with
  | nil => exact o
  | cons h1 h2 h3 h4 h5 h6 h7 _ ih => exact ext1_any h1 h6 h7 (ih o)
theorem Ext.vals {S S2 : Slots} {σ σ2 : St} {l : List (Nat × List Rtp)} (x : Ext K CA H S σ l S2 σ2) (sr : SRep K CA S σ H) : (∀ (j : Nat) (v : Option V), σ[j]? = some v → σ2[j]? = some v) ∧ σ2.length = σ.length + l.length ∧ ∀ (t : Nat) (y : Nat × List Rtp), l[t]? = some y → ∃ w v, σ2[σ.length + t]? = some (some w) ∧ σ2[y.1]? = some (some v) ∧ VAt H v y.2 w := by
  induction x with
  | nil => exact ⟨fun _ _ h => h, rfl, fun t y h => by simp at h⟩
  | @cons S σ i rs r u w R Y O' Z' l S2 σ2 h1 h2 h3 h4 h5 h6 h7 _ ih =>
    obtain ⟨a1, a2, a3⟩ := ih (ext1_rep sr h1 h3 h4)
    have up : ∀ (j : Nat) (v : Option V), σ[j]? = some v → (σ ++ [some w])[j]? = some v := fun j v h => by
      rw [List.getElem?_append_left (List.getElem?_eq_some_iff.mp h).1]; exact h
    refine ⟨fun j v h => a1 j v (up j v h), by rw [a2]; simp; omega, fun t y h => ?_⟩
    cases t with
    | zero =>
      cases h
      refine ⟨w, r.v, a1 _ _ (by simp), a1 _ _ (up _ _ (sr.rep i r h1).1), h5⟩
    | succ t =>
      obtain ⟨w', v', b1, b2, b3⟩ := a3 t y (by simpa using h)
      refine ⟨w', v', ?_, b2, b3⟩
      rw [← b1]
      congr 1
      simp; omega
theorem Ext.front {S S2 : Slots} {σ σ2 : St} {l : List (Nat × List Rtp)} (x : Ext K CA H S σ l S2 σ2) (sr : SRep K CA S σ H) (fr : Fr S) : SRep K CA (S2.take S.length) σ H := by
  obtain ⟨sr2, _⟩ := x.ok sr fr
  obtain ⟨a1, a2, _⟩ := x.vals sr
  have hl := x.len
  refine ⟨by rw [List.length_take, hl, ← sr.len]; omega, fun j q e => ?_⟩
  rw [List.getElem?_take] at e
  split at e
  · rename_i hj
    obtain ⟨b1, b2⟩ := sr2.rep j q e
    refine ⟨?_, b2⟩
    have hj' : j < σ.length := by rw [← sr.len]; exact hj
    have := a1 j _ (List.getElem?_eq_getElem hj')
    rw [List.getElem?_eq_getElem hj', ← this]
    exact b1
  · cases e
theorem env_setS (S : Slots) (i : Nat) (r : Root) : envOf (S.set i (some r)) = (envOf S).set i (some (r.d, r.n)) := by unfold envOf; rw [List.map_set]; rfl
theorem take_ext {l : List (Nat × List Rtp)} : ∀ {S : Slots} {σ : St} {ρ2 : Env}, SRep K CA S σ H → takeL (envOf S) l = some ρ2 → ∃ S2 σ2, Ext K CA H S σ l S2 σ2 ∧ envOf S2 = ρ2 := by
  induction l with
  | nil => intro S σ ρ2 sr h; rw [takeL] at h; cases h; exact ⟨S, σ, .nil, rfl⟩
  | cons x l ih =>
    intro S σ ρ2 sr h
    obtain ⟨i, rs⟩ := x
    rw [takeL] at h
    obtain ⟨q, hq, h⟩ := Option.bind_eq_some_iff.mp h
    unfold takeP at hq
    rw [envOf_get] at hq
    obtain ⟨p, hp, hq⟩ := Option.bind_eq_some_iff.mp hq
    obtain ⟨r, hr, rfl⟩ := Option.map_eq_some_iff.mp hp
    obtain ⟨u, hu, rfl⟩ := Option.map_eq_some_iff.mp hq
    have h1 : S[i]? = some (some r) := by
      cases e : S[i]? with
      | none => rw [e] at hr; cases hr
      | some o => rw [e] at hr; cases o with
        | none => cases hr
        | some y => cases hr; rfl
    obtain ⟨w, O', Z', R, Y, h3, h4, h5, h6, h7⟩ := (sr.rep i r h1).2.hole hu
    have e2 : envOf (S.set i (some ⟨putP r.d rs .hol, r.n, r.v, R, Y⟩) ++ [some ⟨u.1, u.2, w, O', Z'⟩]) = (envOf S).set i (some (putP r.d rs .hol, r.n)) ++ [some u] := by
      rw [← env_setS S i ⟨putP r.d rs .hol, r.n, r.v, R, Y⟩]
      unfold envOf
      rw [List.map_append]
      rfl
    obtain ⟨S2, σ2, x2, e3⟩ := ih (ext1_rep sr h1 h3 h4) (by rw [e2]; exact h)
    exact ⟨S2, σ2, .cons h1 hu h3 h4 h5 h6 h7 x2, e3⟩
theorem give1_ok {S1 : Slots} {σ : St} {w v : V} {i : Nat} {rs : List Rtp} {ρ' : Env} (sr : SRep K CA S1 (σ ++ [some w]) H) (fr : Fr S1) (hg : give1 i rs (envOf S1) = some ρ') (hv : σ[i]? = some (some v)) (at' : VAt H v rs w) :
    ∃ S', SRep K CA S' σ H ∧ Fr S' ∧ envOf S' = ρ' ∧ S'.length = σ.length ∧ (∀ j a, OwnAt S' j a → (j < σ.length ∧ OwnAt S1 j a) ∨ (j = i ∧ OwnAt S1 σ.length a)) ∧ (∀ a, Any S' a → Any S1 a) ∧ ∀ (j : Nat) (r : Root), S'[j]? = some (some r) → ∃ r1 : Root, S1[j]? = some (some r1) := by
  have hl : S1.length = σ.length + 1 := by rw [sr.len]; simp
  unfold give1 at hg
  obtain ⟨q, hq, hg⟩ := Option.bind_eq_some_iff.mp hg
  obtain ⟨p, hp, hg⟩ := Option.bind_eq_some_iff.mp hg
  obtain ⟨u, hu, hg⟩ := Option.bind_eq_some_iff.mp hg
  split at hg
  case isFalse => cases hg
  rename_i hc
  cases hg
  obtain ⟨c1, c2, c3⟩ := hc
  have root : ∀ {j : Nat} {p : D × Nat}, ((envOf S1)[j]?).bind id = some p → ∃ r : Root, S1[j]? = some (some r) ∧ p = (r.d, r.n) := fun {j p} h => by
    rw [envOf_get] at h
    obtain ⟨r, hr, rfl⟩ := Option.map_eq_some_iff.mp h
    cases e : S1[j]? with
    | none => rw [e] at hr; cases hr
    | some o => rw [e] at hr; cases o with
      | none => cases hr
      | some y => cases hr; exact ⟨_, rfl, rfl⟩
  have hq : ((envOf S1)[σ.length]?).bind id = some q := by
    rw [List.getLast?_eq_getElem?] at hq
    have : (envOf S1).length - 1 = σ.length := by rw [envOf_len, hl]; omega
    rw [this] at hq
    exact hq
  obtain ⟨rq, eq, rfl⟩ := root hq
  obtain ⟨rp, ep, rfl⟩ := root hp
  have hi : i < σ.length := (List.getElem?_eq_some_iff.mp hv).1
  obtain ⟨g1, g2⟩ := sr.rep _ _ eq
  have vw : rq.v = w := by
    rw [List.getElem?_append_right (Nat.le_refl _), Nat.sub_self] at g1
    have : some (some w) = some (some rq.v) := by simpa using g1
    exact (Option.some.inj (Option.some.inj this)).symm
  obtain ⟨k1, k2⟩ := sr.rep _ _ ep
  have vv : rp.v = v := by
    rw [List.getElem?_append_left hi, hv] at k1
    exact (Option.some.inj (Option.some.inj k1)).symm
  have hu : getP (rp.d, rp.n) rs = some (.hol, rq.n) := by
    obtain ⟨ud, un⟩ := u
    cases ud <;> first | (cases c1; done) | skip
    have c2 : un = rq.n := c2
    rw [hu, c2]
  rw [vv] at k2
  rw [vw] at g2
  obtain ⟨O, Z, f1, f2, f3⟩ := k2.fill hu at' g2
  have getS : ∀ {j : Nat} {x : Root}, (S1.dropLast.set i (some ⟨putP rp.d rs rq.d, rp.n, v, O, Z⟩))[j]? = some (some x) → j < σ.length ∧ ((j = i ∧ x = ⟨putP rp.d rs rq.d, rp.n, v, O, Z⟩) ∨ (j ≠ i ∧ S1[j]? = some (some x))) := fun {j x} e => by
    have hj : j < σ.length := by
      have := (List.getElem?_eq_some_iff.mp e).1
      rw [List.length_set, List.length_dropLast, hl] at this
      omega
    refine ⟨hj, ?_⟩
    by_cases hij : i = j
    · subst hij
      rw [List.getElem?_set_self (by rw [List.length_dropLast, hl]; omega)] at e
      exact .inl ⟨rfl, (Option.some.inj (Option.some.inj e)).symm⟩
    · rw [List.getElem?_set_ne hij, List.getElem?_dropLast, if_pos (by rw [hl]; omega)] at e
      exact .inr ⟨fun z => hij z.symm, e⟩
  have own : ∀ j a, OwnAt (S1.dropLast.set i (some ⟨putP rp.d rs rq.d, rp.n, v, O, Z⟩)) j a → (j < σ.length ∧ OwnAt S1 j a) ∨ (j = i ∧ OwnAt S1 σ.length a) := fun j a ⟨x, e, q⟩ => by
    obtain ⟨hj, ⟨rfl, rfl⟩ | ⟨_, e⟩⟩ := getS e
    · rcases List.mem_append.mp (f2.mem_iff.mp q) with z | z
      · exact .inl ⟨hj, rp, ep, z⟩
      · exact .inr ⟨rfl, rq, eq, z⟩
    · exact .inl ⟨hj, x, e, q⟩
  have zin : ∀ {j : Nat} {x : Root} {a : Addr}, (S1.dropLast.set i (some ⟨putP rp.d rs rq.d, rp.n, v, O, Z⟩))[j]? = some (some x) → a ∈ x.Z → ∃ (k : Nat) (y : Root), S1[k]? = some (some y) ∧ a ∈ y.Z := fun {j x a} e q => by
    obtain ⟨hj, ⟨rfl, rfl⟩ | ⟨_, e⟩⟩ := getS e
    · rcases (f3 a).mp q with z | z
      · exact ⟨_, rp, ep, z⟩
      · exact ⟨_, rq, eq, z⟩
    · exact ⟨_, x, e, q⟩
  refine ⟨S1.dropLast.set i (some ⟨putP rp.d rs rq.d, rp.n, v, O, Z⟩), ⟨by rw [List.length_set, List.length_dropLast, hl]; omega, fun j x e => ?_⟩, ⟨fun j x e => ?_, fun j k a p q => ?_, fun j a p k x e z => ?_⟩, ?_, by rw [List.length_set, List.length_dropLast, hl]; omega, own, fun a ⟨j, x, e, q⟩ => ?_, fun j x e => ?_⟩
  · obtain ⟨hj, ⟨rfl, rfl⟩ | ⟨_, e⟩⟩ := getS e
    · exact ⟨hv, f1⟩
    · obtain ⟨b1, b2⟩ := sr.rep j x e
      rw [List.getElem?_append_left hj] at b1
      exact ⟨b1, b2⟩
  · obtain ⟨hj, ⟨rfl, rfl⟩ | ⟨_, e⟩⟩ := getS e
    · refine f2.nodup_iff.mpr (List.nodup_append.mpr ⟨fr.nd _ _ ep, fr.nd _ _ eq, fun a ha b hb hab => ?_⟩)
      subst hab
      have := fr.sep _ _ a ⟨rp, ep, ha⟩ ⟨rq, eq, hb⟩
      omega
    · exact fr.nd j x e
  · rcases own j a p with ⟨hj, o1⟩ | ⟨rfl, o1⟩ <;> rcases own k a q with ⟨hk, o2⟩ | ⟨rfl, o2⟩
    · exact fr.sep j k a o1 o2
    · have := fr.sep _ _ a o1 o2; omega
    · have := fr.sep _ _ a o1 o2; omega
    · rfl
  · obtain ⟨k', y, e', z'⟩ := zin e z
    rcases own j a p with ⟨_, o1⟩ | ⟨_, o1⟩
    · exact fr.zo _ a o1 k' y e' z'
    · exact fr.zo _ a o1 k' y e' z'
  · rw [env_setS]
    unfold envOf
    rw [List.map_dropLast]
  · rcases List.mem_append.mp q with q | q
    · rcases own j a ⟨x, e, q⟩ with ⟨_, o1⟩ | ⟨_, o1⟩ <;> exact o1.any
    · obtain ⟨k', y, e', z'⟩ := zin e q
      exact ⟨k', y, e', by simp [z']⟩
  · obtain ⟨hj, ⟨rfl, rfl⟩ | ⟨_, e⟩⟩ := getS e
    · exact ⟨rp, ep⟩
    · exact ⟨x, e⟩
theorem giveL_ok : ∀ {l : List (Nat × List Rtp)} {σ : St} {ws : List V} {S2 : Slots} {ρ' : Env}, ws.length = l.length → SRep K CA S2 (σ ++ ws.map some) H → Fr S2 → giveL l (envOf S2) = some ρ' → (∀ (t : Nat) (y : Nat × List Rtp) (w : V), l[t]? = some y → ws[t]? = some w → ∃ v, σ[y.1]? = some (some v) ∧ VAt H v y.2 w) →
    ∃ S', SRep K CA S' σ H ∧ Fr S' ∧ envOf S' = ρ' ∧ S'.length = σ.length ∧ (∀ j a, OwnAt S' j a → ∃ j', Pr σ.length l j' j ∧ OwnAt S2 j' a) ∧ (∀ a, Any S' a → Any S2 a) ∧ ∀ (j : Nat) (r : Root), S'[j]? = some (some r) → ∃ r1 : Root, S2[j]? = some (some r1)
  | [], σ, ws, S2, ρ', hw, sr, fr, hg, _ => by
    rw [giveL] at hg
    cases hg
    have : ws = [] := List.length_eq_zero_iff.mp hw
    subst this
    rw [List.map_nil, List.append_nil] at sr
    exact ⟨S2, sr, fr, rfl, sr.len, fun j a ⟨r, e, q⟩ => ⟨j, .inl ⟨by rw [← sr.len]; exact (List.getElem?_eq_some_iff.mp e).1, rfl⟩, r, e, q⟩, fun a h => h, fun j r e => ⟨r, e⟩⟩
  | x :: l, σ, [], S2, ρ', hw, sr, fr, hg, _ => by simp at hw
  | x :: l, σ, w :: ws, S2, ρ', hw, sr, fr, hg, hv => by
    rw [giveL] at hg
    obtain ⟨ρ1, h1, h2⟩ := Option.bind_eq_some_iff.mp hg
    have sr' : SRep K CA S2 ((σ ++ [some w]) ++ ws.map some) H := by
      rw [List.append_assoc]; exact sr
    obtain ⟨S1, a1, a2, a3, a4, a5, a6, a7⟩ := giveL_ok (by simpa using hw) sr' fr h1 (fun t y w' hy hw' => by
      obtain ⟨v, e1, e2⟩ := hv (t + 1) y w' (by simpa using hy) (by simpa using hw')
      exact ⟨v, by rw [List.getElem?_append_left (List.getElem?_eq_some_iff.mp e1).1]; exact e1, e2⟩)
    subst a3
    obtain ⟨v, e1, e2⟩ := hv 0 x w rfl rfl
    obtain ⟨S', b1, b2, b3, b4, b5, b6, b7⟩ := give1_ok a1 a2 h2 e1 e2
    have hl1 : (σ ++ [some w]).length = σ.length + 1 := by simp
    refine ⟨S', b1, b2, b3, b4, fun j a o => ?_, fun a h => a6 a (b6 a h), fun j r e => ?_⟩
    · have shift : ∀ {j' k : Nat}, Pr (σ.length + 1) l j' k → k < σ.length → Pr σ.length (x :: l) j' k := fun {j' k} p hk => by
        rcases p with ⟨p1, p2⟩ | ⟨p1, y, p2, p3⟩
        · exact .inl ⟨by omega, p2⟩
        · refine .inr ⟨by omega, y, ?_, p3⟩
          rw [show j' - σ.length = (j' - (σ.length + 1)) + 1 by omega]
          exact p2
      rcases b5 j a o with ⟨hj, o1⟩ | ⟨rfl, o1⟩
      · obtain ⟨j', p, o2⟩ := a5 j a o1
        rw [hl1] at p
        exact ⟨j', shift p hj, o2⟩
      · obtain ⟨j', p, o2⟩ := a5 _ a o1
        rw [hl1] at p
        refine ⟨j', .inr ?_, o2⟩
        rcases p with ⟨p1, p2⟩ | ⟨p1, y, p2, p3⟩
        · refine ⟨by omega, x, ?_, rfl⟩
          rw [show j' - σ.length = 0 by omega]; rfl
        · obtain ⟨v', e3, _⟩ := hv ((j' - (σ.length + 1)) + 1) y (ws[j' - (σ.length + 1)]'(by
            have := (List.getElem?_eq_some_iff.mp p2).1
            simp at hw; omega)) (by simpa using p2) (by simp)
          have := (List.getElem?_eq_some_iff.mp e3).1
          omega
    · obtain ⟨r1, e3⟩ := b7 j r e
      exact a7 j r1 e3
end
end Vy

namespace Vy
open PySem PySem.Spec
open PyProof.Rows hiding St
open L2
theorem posP_setK {d : D} {j : Nat} {x : D} {q : Rtp} : posP (setK d j x) q = posP d q := by
  cases d <;> cases q <;> first | rfl | skip
  all_goals (rename_i a b; first | (simp [setK, posP]; done) | (cases b <;> simp [setK, posP]))
theorem kids_setK {d : D} {j : Nat} {x : D} {k : Nat} (h : j ≠ k) : (kids (setK d j x))[k]? = (kids d)[k]? := by
  cases d <;> first | rfl | (simp [setK, kids]; done) | (show (List.set _ _ _)[_]? = _; rw [List.getElem?_set_ne h]; rfl)
theorem getP_hole : ∀ {rs' rs : List Rtp} {d : D} {n : Nat} {u z : D × Nat}, getP (putP d rs' .hol, n) rs = some u → getP (d, n) rs' = some z → ∃ u', getP (d, n) rs = some u'
  | [], [], d, n, u, z, _, _ => ⟨_, rfl⟩
  | [], q :: rs, d, n, u, z, h, _ => by
    obtain ⟨k, j, d', h1, h2, h3, h4⟩ := getP_cons h
    cases q <;> cases h2
  | q' :: rs', [], d, n, u, z, _, _ => ⟨_, rfl⟩
  | q' :: rs', q :: rs, d, n, u, z, h, hz => by
    obtain ⟨k', j', d1, g1, g2, g3, g4⟩ := getP_cons hz
    rw [putP_cons g2 g3] at h
    obtain ⟨k, j, d2, h1, h2, h3, h4⟩ := getP_cons h
    have hp : posP d q = some j := by
      have : posP (setK d j' (putP d1 rs' .hol)) q = some j := h2
      rwa [posP_setK] at this
    have hk : k' = k := by
      have g1 : n = k' + 1 := g1
      have h1 : n = k + 1 := h1
      omega
    subst hk
    have go : ∀ {d3 : D} {u3 : D × Nat}, (kids d)[j]? = some d3 → getP (d3, k') rs = some u3 → ∃ u', getP (d, n) (q :: rs) = some u' := fun {d3 u3} a b => by
      have g1 : n = k' + 1 := g1
      subst g1
      exact ⟨u3, by rw [getP, hp, Option.bind_some, a, Option.bind_some]; exact b⟩
    by_cases hj : j' = j
    · subst hj
      have h3 : (kids (setK d j' (putP d1 rs' .hol)))[j']? = some d2 := h3
      rw [kids_set g3] at h3
      have h3 := Option.some.inj h3
      subst h3
      obtain ⟨u', e⟩ := getP_hole h4 g4
      exact go g3 e
    · have h3 : (kids (setK d j' (putP d1 rs' .hol)))[j]? = some d2 := h3
      rw [kids_setK hj] at h3
      exact go h3 h4
section
variable {K : PySem.W.Frag} {CA : Nat → Addr} {H H' : Hp}
theorem Ext.orig {S S2 : Slots} {σ σ2 : St} {l : List (Nat × List Rtp)} (x : Ext K CA H S σ l S2 σ2) {N : Nat} (hN : N ≤ S.length) (hl : ∀ y ∈ l, y.1 < N) : ∀ y ∈ l, ∃ (r : Root) (u : D × Nat), S[y.1]? = some (some r) ∧ getP (r.d, r.n) y.2 = some u := by
  induction x with
  | nil => intro y hy; cases hy
  | @cons S σ i rs r u w R Y O' Z' l S2 σ2 h1 h2 h3 h4 h5 h6 h7 _ ih =>
    intro y hy
    rcases List.mem_cons.mp hy with rfl | hy
    · exact ⟨r, u, h1, h2⟩
    · obtain ⟨r1, u1, e1, e2⟩ := ih (by simp; omega) (fun y hy => hl y (List.mem_cons_of_mem _ hy)) y hy
      rcases s1_get e1 with ⟨_, e3, rfl⟩ | ⟨e3, rfl⟩ | ⟨_, _, e3⟩
      · obtain ⟨u', e4⟩ := getP_hole e2 h2
        exact ⟨r, u', by rw [e3]; exact h1, e4⟩
      · have := hl y (List.mem_cons_of_mem _ hy)
        omega
      · exact ⟨r1, u1, e3, e2⟩
theorem Ext.back {S S2 : Slots} {σ σ2 : St} {l : List (Nat × List Rtp)} (x : Ext K CA H S σ l S2 σ2) : ∀ {j : Nat} {r2 : Root}, j < S.length → S2[j]? = some (some r2) → ∃ r : Root, S[j]? = some (some r) := by
  induction x with
  | nil => exact fun _ e => ⟨_, e⟩
  | @cons S σ i rs r u w R Y O' Z' l S2 σ2 h1 h2 h3 h4 h5 h6 h7 _ ih =>
    intro j r2 hj e
    obtain ⟨r1, e1⟩ := ih (by simp; omega) e
    rcases s1_get e1 with ⟨_, e3, _⟩ | ⟨e3, _⟩ | ⟨_, _, e3⟩
    · exact ⟨r, by rw [e3]; exact h1⟩
    · omega
    · exact ⟨r1, e3⟩
theorem Ext.lay {S S2 : Slots} {σ σ2 : St} {l : List (Nat × List Rtp)} (x : Ext K CA H S σ l S2 σ2) {N : Nat} (hN : N ≤ S.length) (hl : ∀ y ∈ l, y.1 < N) : (∀ (j : Nat) (r : Root), N ≤ j → S[j]? = some (some r) → ∃ r2 : Root, S2[j]? = some (some r2)) ∧ ∀ {t : Nat}, t < l.length → ∃ r2 : Root, S2[S.length + t]? = some (some r2) := by
  induction x with
  | nil => exact ⟨fun j r _ e => ⟨r, e⟩, fun h => by simp at h⟩
  | @cons S σ i rs r u w R Y O' Z' l S2 σ2 h1 h2 h3 h4 h5 h6 h7 _ ih =>
    obtain ⟨a1, a2⟩ := ih (by simp; omega) (fun y hy => hl y (List.mem_cons_of_mem _ hy))
    have hi : i < N := hl (i, rs) (by simp)
    have hle : (S.set i (some (⟨putP r.d rs .hol, r.n, r.v, R, Y⟩ : Root)) ++ [some (⟨u.1, u.2, w, O', Z'⟩ : Root)]).length = S.length + 1 := by simp
    refine ⟨fun j q hj e => ?_, fun {t} ht => ?_⟩
    · refine a1 j q hj ?_
      have hj2 := (List.getElem?_eq_some_iff.mp e).1
      rw [List.getElem?_append_left (by simpa using hj2), List.getElem?_set_ne (by omega)]
      exact e
    · cases t with
      | zero => exact a1 S.length ⟨u.1, u.2, w, O', Z'⟩ hN (by simp)
      | succ t =>
        obtain ⟨r2, e⟩ := a2 (t := t) (by simpa using ht)
        rw [hle] at e
        exact ⟨r2, by rw [show S.length + (t + 1) = S.length + 1 + t by omega]; exact e⟩
theorem Ext.ws {S S2 : Slots} {σ σ2 : St} {l : List (Nat × List Rtp)} (x : Ext K CA H S σ l S2 σ2) : ∃ ws : List V, ws.length = l.length ∧ σ2 = σ ++ ws.map some := by
  induction x with
  | nil => exact ⟨[], rfl, by simp⟩
  | @cons S σ i rs r u w R Y O' Z' l S2 σ2 h1 h2 h3 h4 h5 h6 h7 _ ih =>
    obtain ⟨ws, e1, e2⟩ := ih
    exact ⟨w :: ws, by simp [e1], by rw [e2]; simp⟩
theorem Pr.det {M : Nat} {l : List (Nat × List Rtp)} {j k k' : Nat} (p : Pr M l j k) (q : Pr M l j k') : k = k' := by
  rcases p with ⟨p1, p2⟩ | ⟨p1, y, p2, p3⟩ <;> rcases q with ⟨q1, q2⟩ | ⟨q1, z, q2, q3⟩
  · omega
  · omega
  · omega
  · rw [p2] at q2
    rw [p3, q3, Option.some.inj q2]
variable {G : Glo} {cf : Runs} {W : WX} {J L : List Nat}
theorem iown_core {S : Slots} {σ : St} {ρh : Env} {f : Nat} {as : List Aw} {Q : VK} (hne : Aw.pos 0 as ≠ []) (sr : SRep K CA S σ H) (fr : Fr S) (h : DenX K CA W J L S H [] (iowN G cf L (envOf S) ρh f as) σ Q) :
    match evAwN G cf (envOf S) ρh as with
    | .ok ps => ∀ vs H2, Same H H2 → AwV K CA S H H2 as ps vs → spI K CA cf.ci as.length (Aw.pos 0 as) f vs H2 Q (fun cls dd H' => W cls dd σ H')
    | .exc e => ∀ cls dd H', Same H H' → ExRep K CA e cls dd H' → W cls dd σ H'
    | .bad => False := by
  unfold iowN at h
  cases e1 : evAwN G cf (envOf S) ρh as with
  | exc x => rw [e1] at h; exact fun cls dd H' s r => h S H' cls dd (sr.same s) fr (Step.same s) rfl r
  | bad => rw [e1] at h; exact h
  | ok ps =>
  rw [e1] at h
  simp only [onO_ok] at h
  simp only
  by_cases hc : (Aw.ios as).Nodup ∧ (∀ i ∈ Aw.ios as, i ∉ L) ∧ awSep (Aw.ios as) as ps = true
  case neg => rw [if_neg hc] at h; exact h.elim
  rw [if_pos hc] at h
  obtain ⟨hnd, hL, hsep⟩ := hc
  intro vs H2 sm av
  obtain ⟨l1, l2⟩ := av.len
  obtain ⟨rs, h1, h2, h3, h4, h5⟩ := aw_roots av (sr.same sm) (Aw.ios as)
  obtain ⟨p1, p2, p3⟩ := aw_pos as 0
  have mem_io : ∀ {t i : Nat}, as[t]? = some (.io i) → i ∈ Aw.ios as := fun {t i} h => by
    obtain ⟨m, _, e⟩ := p3 t i h
    exact List.mem_of_getElem? e
  have uniq : ∀ {t t2 i : Nat}, as[t]? = some (.io i) → as[t2]? = some (.io i) → t = t2 := fun {t t2 i} a b => by
    obtain ⟨m, a1, a2⟩ := p3 t i a
    obtain ⟨m2, b1, b2⟩ := p3 t2 i b
    have : m = m2 := by
      have e1 := (List.getElem?_eq_some_iff.mp a2).2
      have e2 := (List.getElem?_eq_some_iff.mp b2).2
      exact (List.getElem_inj hnd).mp (e1.trans e2.symm)
    subst this
    rw [a1] at b1
    have := Option.some.inj b1
    omega
  have as_get : ∀ {t : Nat} {r : Root}, rs[t]? = some r → ∃ a, as[t]? = some a := fun {t r} h => by
    have := (List.getElem?_eq_some_iff.mp h).1
    exact ⟨as[t]'(by omega), List.getElem?_eq_getElem (by omega)⟩
  have own_io : ∀ {t : Nat} {a : Addr}, OwnAt (rs.map some) t a → ∃ i, as[t]? = some (.io i) ∧ OwnAt S i a := fun {t a} ⟨r, e, q⟩ => by
    have er := get_some e
    obtain ⟨x, hx⟩ := as_get er
    cases x with
    | pu c => rw [(h5 t _ r hx er).2.1] at q; simp at q
    | io i =>
      obtain ⟨r0, e0, _, eO, _⟩ := h5 t _ r hx er
      exact ⟨i, hx, r0, e0, eO ▸ q⟩
  have sr0 : SRep K CA (rs.map some) (vs.map some) H2 := ⟨by rw [← h2]; simp, fun t r e => by
    have er := get_some e
    refine ⟨?_, h4 t r er⟩
    rw [← h2, List.map_map, List.getElem?_map, er]; rfl⟩
  have fr0 : Fr (rs.map some) := by
    refine ⟨fun t r e => ?_, fun t t2 a q w => ?_, fun t a q t2 r2 e2 => ?_⟩
    · have er := get_some e
      obtain ⟨x, hx⟩ := as_get er
      cases x with
      | pu c => rw [(h5 t _ r hx er).2.1]; simp
      | io i =>
        obtain ⟨r0, e0, _, eO, _⟩ := h5 t _ r hx er
        rw [eO]; exact fr.nd i r0 e0
    · obtain ⟨i, hi, q⟩ := own_io q
      obtain ⟨i2, hi2, w⟩ := own_io w
      have := fr.sep i i2 a q w
      subst this
      exact uniq hi hi2
    · obtain ⟨i, hi, q⟩ := own_io q
      have er2 := get_some e2
      obtain ⟨x, hx⟩ := as_get er2
      cases x with
      | pu c =>
        obtain ⟨_, _, ez, z⟩ := h5 t2 _ r2 hx er2
        have hp : ps[t2]? = some (r2.d, r2.n) := by rw [← h1, List.getElem?_map, er2]; rfl
        rcases awSep_at l2 hsep t2 c _ hx hp with y | y
        · rw [ez y]; simp
        · intro haz
          rcases z a haz with z | ⟨k, hk, r, e, y2⟩
          · exact sr.own ⟨i, q⟩ z
          · have hki : k ≠ i := fun z => y i (mem_io hi) (z ▸ hk)
            rcases List.mem_append.mp y2 with y2 | y2
            · exact hki (fr.sep k i a ⟨r, e, y2⟩ q)
            · exact fr.zo i a q k r e y2
      | io i2 =>
        obtain ⟨r0, e0, _, _, eZ⟩ := h5 t2 _ r2 hx er2
        rw [eZ]; exact fr.zo i a q i2 r0 e0
  refine ⟨l1.symm, rs, sr0, fr0, ?_⟩
  rw [h1]
  cases e2 : cf.ci f ps with
  | bad => rw [e2] at h; exact h.elim
  | ok p qs =>
    rw [e2] at h
    simp only at h
    by_cases hb : qs.length = (Aw.ios as).length ∧ (qs.all full = true ∨ awImm (envOf S) as ps = true)
    case neg => rw [if_neg hb] at h; exact h.elim
    rw [if_pos hb] at h
    intro A' v H' O Z sr' fr' st hm hq rp o1 o2 nd z1 z2 hfull
    obtain ⟨S', s1, s2, s3, s4, s5, s6, s7, s8⟩ := iow_back (J := J) (L := L) (sr.same sm) fr sm (fun a q => sr.any q) hnd hL hsep h1 h2 h3 h4 h5 sr' fr' st hm hq hb.1 hb.2
    have hz : Z = [] := rp.full (by simpa [full] using hfull hne)
    subst hz
    refine h S' v H' O [] s1 s2 s3 s4 ⟨rp, nd, by simp, fun a ha => s8 a (o2 a ha) (o1 a ha), by simp⟩ (fun a ha => ?_) (by simp)
    exact (o2 a ha).imp (s6 a) (same_none sm)
  | exc x qs =>
    rw [e2] at h
    simp only at h
    by_cases hb : qs.length = (Aw.ios as).length ∧ (qs.all full = true ∨ awImm (envOf S) as ps = true)
    case neg => rw [if_neg hb] at h; exact h.elim
    rw [if_pos hb] at h
    intro A' H' cls dd sr' fr' st hm hq ex
    obtain ⟨S', s1, s2, s3, s4, s5, s6, s7, s8⟩ := iow_back (J := J) (L := L) (sr.same sm) fr sm (fun a q => sr.any q) hnd hL hsep h1 h2 h3 h4 h5 sr' fr' st hm hq hb.1 hb.2
    exact h S' H' cls dd s1 s2 s3 s4 ex

theorem ioc_den {S S2 : Slots} {σ σ2 : St} {l : List (Nat × List Rtp)} {o : OX} {Q : VK} (sr : SRep K CA S σ H) (fr : Fr S) (x : Ext K CA H S σ l S2 σ2) (hL : ∀ y ∈ l, y.1 < S.length ∧ y.1 ∉ L) (hol : l.all (holB (envOf S2)) = true)
    (h : DenX K CA W J L S H [] (match o with
      | .ok p ρ3 => OX.of ((giveL l ρ3).map fun ρ' => .ok p ρ')
      | .exc e ρ3 => OX.of ((giveL l ρ3).map fun ρ' => .exc e ρ')
      | .bad => .bad) σ Q) : DenX K CA (fun cls dd _ H' => W cls dd σ H') J (l.map (·.1) ++ L) S2 H [] o σ2 Q := by
  obtain ⟨sr2, fr2⟩ := x.ok sr fr
  obtain ⟨ws, w1, w2⟩ := x.ws
  obtain ⟨v1, v2, v3⟩ := x.vals sr
  have hlt : ∀ y ∈ l, y.1 < S.length := fun y hy => (hL y hy).1
  have ou : ∀ {a : Addr}, Ou S2 (l.map (·.1) ++ L) a → Ou S L a := fun {a} ⟨j, hj, w⟩ => by
    obtain ⟨k, p, o⟩ := x.own (Nat.le_refl _) hlt w
    refine ⟨k, ?_, o⟩
    rcases p with ⟨p1, p2⟩ | ⟨p1, y, p2, p3⟩
    · rw [p2]; exact fun z => hj (List.mem_append_right _ z)
    · rw [p3]; exact (hL y (List.mem_of_getElem? p2)).2
  have back : ∀ {S3 : Slots} {H3 : Hp} {ρ' : Env}, SRep K CA S3 σ2 H3 → Fr S3 → Step J (l.map (·.1) ++ L) S2 H S3 H3 → giveL l (envOf S3) = some ρ' → ∃ S', SRep K CA S' σ H3 ∧ Fr S' ∧ Step J L S H S' H3 ∧ envOf S' = ρ' ∧ ∀ a, Any S' a → Any S3 a := fun {S3 H3 ρ'} sr3 fr3 st hg => by
    rw [w2] at sr3
    obtain ⟨S', a1, a2, a3, a4, a5, a6, a7⟩ := giveL_ok w1 sr3 fr3 hg (fun t y w hy hw => by
      have hym := List.mem_of_getElem? hy
      obtain ⟨w', v, b1, b2, b3⟩ := v3 t y hy
      have hwv : w' = w := by
        rw [w2, List.getElem?_append_right (by omega), show σ.length + t - σ.length = t by omega, List.getElem?_map, hw] at b1
        exact (Option.some.inj (Option.some.inj b1)).symm
      subst hwv
      have hys : y.1 < σ.length := by rw [← sr.len]; exact hlt y hym
      have b2' : σ[y.1]? = some (some v) := by
        rw [w2, List.getElem?_append_left hys] at b2
        exact b2
      refine ⟨v, b2', ?_⟩
      have hb := List.all_eq_true.mp hol y hym
      unfold holB at hb
      cases e1 : ((envOf S2)[y.1]?).bind id with
      | none => rw [e1] at hb; cases hb
      | some p =>
        rw [e1] at hb
        simp only at hb
        cases e2 : getP p y.2 with
        | none => rw [e2] at hb; cases hb
        | some u =>
          rw [envOf_get] at e1
          obtain ⟨r2, hr2, rfl⟩ := Option.map_eq_some_iff.mp e1
          have hr2 : S2[y.1]? = some (some r2) := by
            cases e : S2[y.1]? with
            | none => rw [e] at hr2; cases hr2
            | some o => rw [e] at hr2; cases o with
              | none => cases hr2
              | some z => cases hr2; rfl
          obtain ⟨c1, c2⟩ := sr2.rep _ _ hr2
          have hv : r2.v = v := by
            rw [b2] at c1
            exact (Option.some.inj (Option.some.inj c1)).symm
          rw [hv] at c2
          exact VAt.keepR c2 e2 b3 st.keepF (fun a ha z => by
            obtain ⟨j, hj, w⟩ := ownL_mem.mp z
            have := fr2.sep _ _ a ⟨r2, hr2, ha⟩ w
            subst this
            exact hj (List.mem_append_left _ (List.mem_map.mpr ⟨y, hym, rfl⟩))))
    refine ⟨S', a1, a2, ⟨fun a o e n => st.keep a o e fun z => n (ou z), st.there, fun j a o => ?_, fun a o => ?_, fun i hi r' e => ?_⟩, a3, a6⟩
    · obtain ⟨j', p, o1⟩ := a5 j a o
      rw [← sr.len] at p
      rcases st.own j' a o1 with z | z | z
      · obtain ⟨k, p', o2⟩ := x.own (Nat.le_refl _) hlt z
        rw [p.det p']
        exact .inl o2
      · exact .inr (.inl (ou z))
      · exact .inr (.inr z)
    · exact (st.any a (a6 a o)).imp x.any id
    · obtain ⟨r1, e1⟩ := a7 i r' e
      obtain ⟨r2, e2, _⟩ := st.pin i hi r1 e1
      have hi2 : i < S.length := by rw [sr.len, ← a4]; exact (List.getElem?_eq_some_iff.mp e).1
      obtain ⟨r, e3⟩ := x.back hi2 e2
      refine ⟨r, e3, ?_⟩
      have q1 := (sr.rep i r e3).1
      rw [(a1.rep i r' e).1] at q1
      exact (Option.some.inj (Option.some.inj q1)).symm
  cases o with
  | bad => exact h
  | ok p ρ3 =>
    intro S3 v H3 O Z sr3 fr3 st he xv hO hZ
    subst he
    simp only at h
    cases e : giveL l (envOf S3) with
    | none => rw [e] at h; exact h.elim
    | some ρ' =>
      rw [e] at h
      obtain ⟨S', a1, a2, a3, a4, a5⟩ := back sr3 fr3 st e
      refine h S' v H3 O Z a1 a2 a3 a4 ⟨xv.rep, xv.nd, xv.zo, fun a ha z => xv.no a ha (a5 a z), fun a ha => .inr fun z => ?_⟩ (fun a ha => (hO a ha).imp ou id) (fun a ha => (hZ a ha).imp x.any id)
      rcases xv.nz a ha with ⟨i, hi, _⟩ | y
      · cases hi
      · exact y (a5 a z)
  | exc y ρ3 =>
    intro S3 H3 cls dd sr3 fr3 st he ex
    subst he
    simp only at h
    cases e : giveL l (envOf S3) with
    | none => rw [e] at h; exact h.elim
    | some ρ' =>
      rw [e] at h
      obtain ⟨S', a1, a2, a3, a4, a5⟩ := back sr3 fr3 st e
      exact h S' H3 cls dd a1 a2 a3 a4 ex
end
end Vy

namespace Vy
open PySem PySem.Spec
open PyProof.Rows hiding St
open L2
section
variable {X : Cx} {nm : Nm} {G : Glo} {CA : Nat → Addr} {cf : Runs} {W : WX} {L : List Nat}
inductive ApE (X : Cx) (G : Glo) (CA : Nat → Addr) (cf : Runs) (W : WX) (N : Nat) (ps : List Pth) : List Expr → List Aw → Prop
  | nil : ApE X G CA cf W N ps [] []
  | pu {e : Expr} {c : C} {es as} : noStar e = true → PE X e (tE X G CA cf W c) → ApE X G CA cf W N ps es as → ApE X G CA cf W N ps (e :: es) (.pu c :: as)
  | io {e : Expr} {i : Nat} {es as} : noStar e = true → i < N → PE X e (tVar i) → ApE X G CA cf W N ps es as → ApE X G CA cf W N ps (e :: es) (.io i :: as)
  | ip {e : Expr} {t : Nat} {p : Pth} {es as} : noStar e = true → ps[t]? = some p → PE X e (tP X G CA cf W p) → ApE X G CA cf W N ps es as → ApE X G CA cf W N ps (e :: es) (.io (N + t) :: as)
structure Cp (K : PySem.W.Frag) (CA : Nat → Addr) (G : Glo) (cf : Runs) (S S2 : Slots) (σ : St) (N : Nat) (ps : List Pth) (H : Hp) : Prop where
  sr : SRep K CA S σ H
  sf : SRep K CA (S2.take N) σ H
  ip : ∀ (t : Nat) (p : Pth), ps[t]? = some p → ∃ (rs : List Rtp) (r r2 : Root) (u : D × Nat), rsv G cf (envOf S) p.st = .ok rs ∧ S[p.i]? = some (some r) ∧ getP (r.d, r.n) rs = some u ∧ S2[N + t]? = some (some r2) ∧ VAt H r.v rs r2.v
theorem Cp.same {K : PySem.W.Frag} {S S2 : Slots} {σ : St} {N : Nat} {ps : List Pth} {H H' : Hp} (c : Cp K CA G cf S S2 σ N ps H) (s : Same H H') : Cp K CA G cf S S2 σ N ps H' :=
  ⟨c.sr.same s, c.sf.same s, fun t p h => let ⟨rs, r, r2, u, a, b, d, e, f⟩ := c.ip t p h; ⟨rs, r, r2, u, a, b, d, e, f.same s⟩⟩
def DenAp (K : PySem.W.Frag) (CA : Nat → Addr) (W : WX) (S : Slots) (as : List Aw) (o : Out (List (D × Nat))) (σ : St) (H : Hp) (Q : List V → Hp → Prop) : Prop := match o with
  | .ok qs => ∀ vs H2, Same H H2 → AwV K CA S H H2 as qs vs → Q vs H2
  | .exc e => ∀ cls dd H', Same H H' → ExRep K CA e cls dd H' → W cls dd σ H'
  | .bad => False
def tAp (X : Cx) (G : Glo) (CA : Nat → Addr) (cf : Runs) (W : WX) (N : Nat) (ps : List Pth) (as : List Aw) : TA := fun σ H Q => ∃ S S2, Cp X.K CA G cf S S2 σ N ps H ∧ DenAp X.K CA W S2 as (evAwN G cf (envOf S2) ((envOf S2).take N) as) σ H Q
theorem env_take (S : Slots) (N : Nat) : envOf (S.take N) = (envOf S).take N := by unfold envOf; rw [List.map_take]
theorem Nod.front {S : Slots} {N : Nat} {is : List Nat} {a : Addr} (h : Nod (S.take N) is a) : Nod S is a := by
  obtain ⟨i, hi, r, e, q⟩ := h
  rw [List.getElem?_take] at e
  split at e
  · exact ⟨i, hi, r, e, q⟩
  · cases e
theorem ap_pu {N : Nat} {ps : List Pth} {c : C} {as : List Aw} {σ : St} {H : Hp} {Q : List V → Hp → Prop} (h : tAp X G CA cf W N ps (.pu c :: as) σ H Q) : tE X G CA cf W c σ H fun x H1 => tAp X G CA cf W N ps as σ H1 fun vs H2 => Q (x :: vs) H2 := by
  obtain ⟨S, S2, cp, h⟩ := h
  refine ⟨S2.take N, cp.sf, ?_⟩
  rw [evAwN] at h
  rw [env_take]
  cases e1 : ev G cf ((envOf S2).take N) c with
  | exc x => rw [e1] at h; exact h
  | bad => rw [e1] at h; exact h
  | ok p =>
    rw [e1] at h
    simp only [Out.bind_ok] at h
    intro v H1 O Z pv
    refine ⟨S, S2, cp.same pv.same, ?_⟩
    cases e2 : evAwN G cf (envOf S2) ((envOf S2).take N) as with
    | exc x => rw [e2] at h; exact fun cls dd H' s' r => h cls dd H' (pv.same.trans s') r
    | bad => rw [e2] at h; exact h
    | ok qs =>
      rw [e2] at h
      intro vs H2 s2 av
      obtain ⟨Z', p0⟩ := pv.at0
      exact h _ _ (pv.same.trans s2) (.pu (p0.rep.same s2) (fun a ha => (p0.zin a ha).imp id Nod.front) (av.ahead pv.same))
theorem ap_io {N : Nat} {ps : List Pth} {i : Nat} {as : List Aw} {σ : St} {H : Hp} {Q : List V → Hp → Prop} (hi : i < N) (h : tAp X G CA cf W N ps (.io i :: as) σ H Q) : tVar i σ H fun x H1 => tAp X G CA cf W N ps as σ H1 fun vs H2 => Q (x :: vs) H2 := by
  obtain ⟨S, S2, cp, h⟩ := h
  rw [evAwN, envOf_get] at h
  cases e1 : S2[i]? with
  | none => rw [e1] at h; exact h.elim
  | some o => cases o with
    | none => rw [e1] at h; exact h.elim
    | some r =>
      rw [e1] at h
      simp only [Option.bind_some, id, Option.map_some, Out.of_some, Out.bind_ok] at h
      refine ⟨r.v, (cp.sf.rep i r (by rw [List.getElem?_take, if_pos hi]; exact e1)).1, S, S2, cp, ?_⟩
      cases e2 : evAwN G cf (envOf S2) ((envOf S2).take N) as with
      | exc x => rw [e2] at h; exact h
      | bad => rw [e2] at h; exact h
      | ok qs =>
        rw [e2] at h
        exact fun vs H2 s2 av => h _ _ s2 (.io e1 av)
theorem ap_ip {N : Nat} {ps : List Pth} {t : Nat} {p : Pth} {as : List Aw} {σ : St} {H : Hp} {Q : List V → Hp → Prop} (hp : ps[t]? = some p) (h : tAp X G CA cf W N ps (.io (N + t) :: as) σ H Q) : tP X G CA cf W p σ H fun x H1 => tAp X G CA cf W N ps as σ H1 fun vs H2 => Q (x :: vs) H2 := by
  obtain ⟨S, S2, cp, h⟩ := h
  obtain ⟨rs, r, r2, u, a1, a2, a3, a4, a5⟩ := cp.ip t p hp
  rw [evAwN, envOf_get, a4] at h
  simp only [Option.bind_some, id, Option.map_some, Out.of_some, Out.bind_ok] at h
  refine ⟨S, cp.sr, ?_⟩
  rw [a1]
  refine ⟨r, u, a2, a3, fun v' H' sm at' => ?_⟩
  have hv : v' = r2.v := at'.det (a5.same sm)
  subst hv
  refine ⟨S, S2, cp.same sm, ?_⟩
  cases e2 : evAwN G cf (envOf S2) ((envOf S2).take N) as with
  | exc x => rw [e2] at h; exact fun cls dd H' s' r => h cls dd H' (sm.trans s') r
  | bad => rw [e2] at h; exact h
  | ok qs =>
    rw [e2] at h
    exact fun vs H2 s2 av => h _ _ (sm.trans s2) (.io a4 (av.ahead sm))
theorem pa_ap {N : Nat} {ps : List Pth} {es : List Expr} {as : List Aw} (h : ApE X G CA cf W N ps es as) : PA X es (tAp X G CA cf W N ps as) := by
  induction h with
  | nil => exact PA.weak pa_nil fun σ H Q ⟨S, S2, cp, h⟩ => h [] H (Same.refl H) .nil
  | pu hs he _ ih => exact PA.weak (pa_cons he ih (star_cons hs)) fun σ H Q h => ap_pu h
  | io hs hi he _ ih => exact PA.weak (pa_cons he ih (star_cons hs)) fun σ H Q h => ap_io hi h
  | ip hs hp he _ ih => exact PA.weak (pa_cons he ih (star_cons hs)) fun σ H Q h => ap_ip hp h
theorem rsvL_at : ∀ {ps : List Pth} {ρ : Env} {l : List (Nat × List Rtp)}, rsvL G cf ρ ps = some l → ps.length = l.length ∧ ∀ (t : Nat) (p : Pth), ps[t]? = some p → ∃ rs, rsv G cf ρ p.st = .ok rs ∧ l[t]? = some (p.i, rs)
  | [], ρ, l, h => by rw [rsvL] at h; cases h; exact ⟨rfl, fun t p h => by simp at h⟩
  | q :: ps, ρ, l, h => by
    rw [rsvL] at h
    split at h
    · rename_i rs e
      obtain ⟨l', h1, rfl⟩ := Option.map_eq_some_iff.mp h
      obtain ⟨a1, a2⟩ := rsvL_at h1
      refine ⟨by simp [a1], fun t p hp => ?_⟩
      cases t with
      | zero => cases hp; exact ⟨rs, e, rfl⟩
      | succ t => exact a2 t p (by simpa using hp)
    · cases h
def RcOk (K : PySem.W.Frag) (CA : Nat → Addr) (rc : Option (Nat × Cs)) (S : Slots) (as : List Aw) (H : Hp) : Prop := ∀ c m, rc = some (c, m) → ∃ (i : Nat) (as' : List Aw) (r : Root) (a dx : Addr) (fvs : List (Str × V)), as = .io i :: as' ∧ S[i]? = some (some r) ∧ r.v = .ref a ∧ H a = some (.ins (CA c) dx fvs) ∧ fvs.lookup (mkS m) = none
theorem rc_ok {K : PySem.W.Frag} {rc : Option (Nat × Cs)} {S : Slots} {σ : St} {as : List Aw} {H : Hp} (sr : SRep K CA S σ H) (h : recvB rc as (envOf S) = true) : RcOk K CA rc S as H := by
  intro c m hrc
  subst hrc
  unfold recvB at h
  simp only at h
  cases as with
  | nil => cases h
  | cons x as' => cases x with
    | pu c => cases h
    | io i =>
      simp only at h
      rw [envOf_get] at h
      cases e : S[i]? with
      | none => rw [e] at h; cases h
      | some o => cases o with
        | none => rw [e] at h; cases h
        | some r =>
          rw [e] at h
          simp only [Option.bind_some, id, Option.map_some] at h
          obtain ⟨_, rp⟩ := sr.rep i r e
          obtain ⟨d, n, v, O, Z⟩ := r
          have hd : ∃ c' fs us, d = .ins c' fs us ∧ (decide (c' = c) && decide (m ∉ fs)) = true := by
            cases d <;> first | (cases h; done) | exact ⟨_, _, _, rfl, by simpa using h⟩
          obtain ⟨c', fs, us, rfl, h⟩ := hd
          simp only [Bool.and_eq_true, decide_eq_true_iff] at h
          obtain ⟨rfl, hm⟩ := h
          have hm : m ∉ fs := by simpa using hm
          have rp : Rep K CA H n (.ins c' fs us) v O Z := rp
          cases rp with
          | insO e2 ko _ => exact ⟨i, as', _, _, _, _, rfl, e, rfl, e2, lookup_no (by rw [← ko]; exact mkS_nin hm)⟩
          | insZ e2 ko _ => exact ⟨i, as', _, _, _, _, rfl, e, rfl, e2, lookup_no (by rw [← ko]; exact mkS_nin hm)⟩
theorem ioc_read {rc : Option (Nat × Cs)} {f N : Nat} {ps : List Pth} {as : List Aw} (hne : Aw.pos 0 as ≠ []) (hN : X.N.length = N) {pins : List (Addr × Obj)} {s : Shared} {σ : St} {H : Hp} {Q : VK} (I : Inv X pins σ H s) (h : tX X G CA cf W L (.ioc rc f ps as) σ H Q) :
    ∃ S S2, Cp X.K CA G cf S S2 σ N ps H ∧ RcOk X.K CA rc S2 as H ∧ DenAp X.K CA W S2 as (evAwN G cf (envOf S2) ((envOf S2).take N) as) σ H fun vs H2 => spI X.K CA cf.ci as.length (Aw.pos 0 as) f vs H2 Q (fun cls dd H' => W cls dd σ H') := by
  obtain ⟨S, sr, fr, h⟩ := h
  have hSN : S.length = N := by rw [sr.len, I.len, hN]
  rw [exX] at h
  unfold iocX at h
  cases e1 : rsvL G cf (envOf S) ps with
  | none => rw [e1] at h; exact h.elim
  | some l =>
  rw [e1, Option.bind_some] at h
  cases e2 : takeL (envOf S) l with
  | none => rw [e2] at h; exact h.elim
  | some ρ2 =>
  rw [e2, Option.bind_some] at h
  split at h
  case isFalse => exact h.elim
  rename_i hg
  obtain ⟨g1, g2, g3⟩ := hg
  obtain ⟨S2, σ2, x, rfl⟩ := take_ext sr e2
  rw [envOf_len] at g1 h
  have hL : ∀ y ∈ l, y.1 < S.length ∧ y.1 ∉ L := fun y hy => by
    have := List.all_eq_true.mp g1 y hy
    simpa using this
  obtain ⟨sr2, fr2⟩ := x.ok sr fr
  have h : DenX X.K CA W cf.io L S H [] (match iowN G cf (l.map (·.1) ++ L) (envOf S2) ((envOf S2).take S.length) f as with
      | .ok p ρ3 => OX.of ((giveL l ρ3).map fun ρ' => .ok p ρ')
      | .exc e ρ3 => OX.of ((giveL l ρ3).map fun ρ' => .exc e ρ')
      | .bad => .bad) σ Q := h
  have h2 := ioc_den sr fr x hL g2 h
  have h3 := iown_core hne sr2 fr2 h2
  obtain ⟨v1, v2, v3⟩ := x.vals sr
  have cp : Cp X.K CA G cf S S2 σ N ps H := by
    refine ⟨sr, by rw [← hSN]; exact x.front sr fr, fun t p hp => ?_⟩
    obtain ⟨b1, b2⟩ := rsvL_at e1
    obtain ⟨rs, b3, b4⟩ := b2 t p hp
    have hm := List.mem_of_getElem? b4
    obtain ⟨r, u, c1, c2⟩ := x.orig (Nat.le_refl _) (fun y hy => (hL y hy).1) _ hm
    obtain ⟨w, v, d1, d2, d3⟩ := v3 t _ b4
    have hlen : t < l.length := (List.getElem?_eq_some_iff.mp b4).1
    have hS2 : N + t < S2.length := by rw [x.len, hSN]; omega
    obtain ⟨r2, hr2⟩ : ∃ r2, S2[N + t]? = some (some r2) := by
      have e := (x.lay (Nat.le_refl _) (fun y hy => (hL y hy).1)).2 hlen
      rw [hSN] at e
      exact e
    refine ⟨rs, r, r2, u, b3, c1, c2, hr2, ?_⟩
    have q1 := (sr2.rep _ _ hr2).1
    rw [← hSN, sr.len, d1] at q1
    have hw : w = r2.v := Option.some.inj (Option.some.inj q1)
    have q2 := v1 _ _ (sr.rep _ _ c1).1
    rw [d2] at q2
    have hv : v = r.v := Option.some.inj (Option.some.inj q2)
    rw [← hw, ← hv]
    exact d3
  refine ⟨S, S2, cp, rc_ok sr2 g3, ?_⟩
  rw [hSN] at h3
  unfold DenAp
  cases e3 : evAwN G cf (envOf S2) ((envOf S2).take N) as with
  | ok qs => rw [e3] at h3; exact h3
  | exc y => rw [e3] at h3; exact h3
  | bad => rw [e3] at h3; exact h3
end
end Vy

namespace Vy
open PySem PySem.Spec
open PyProof.Rows hiding St
open L2
section
variable {sc : Scope} {X : Cx} {nm : Nm} {G : Glo} {CA : Nat → Addr} {cf : Runs} {np : Nat → Option Nat} {nio : Nat → Option (Nat × List Nat)} {bl : List Str} {W : WX} {L : List Nat}
theorem rc_io {N : Nat} {ps : List Pth} {i : Nat} {as : List Aw} {σ : St} {H : Hp} {c : Nat} {m : Cs} {Q : List V → Hp → Prop} {S S2 : Slots} (hi : i < N) (cp : Cp X.K CA G cf S S2 σ N ps H) (hr : RcOk X.K CA (some (c, m)) S2 (.io i :: as) H) (h : DenAp X.K CA W S2 (.io i :: as) (evAwN G cf (envOf S2) ((envOf S2).take N) (.io i :: as)) σ H Q) :
    tVar i σ H fun x H1 => ∃ a dx fs, x = .ref a ∧ H1 a = some (.ins (CA c) dx fs) ∧ fs.lookup (mkS m) = none ∧ tAp X G CA cf W N ps as σ H1 fun vs H2 => Q (x :: vs) H2 := by
  obtain ⟨i', as', r, a, dx, fvs, e1, e2, e3, e4, e5⟩ := hr c m rfl
  cases e1
  obtain ⟨v, hv, hq⟩ := ap_io hi ⟨S, S2, cp, h⟩
  have e6 : v = r.v := by
    have := (cp.sf.rep i r (by rw [List.getElem?_take, if_pos hi]; exact e2)).1
    rw [this] at hv
    exact (Option.some.inj (Option.some.inj hv)).symm
  exact ⟨v, hv, a, dx, fvs, e6.trans e3, e4, e5, hq⟩
theorem rc_ip {N : Nat} {ps : List Pth} {t : Nat} {p : Pth} {as : List Aw} {σ : St} {H : Hp} {c : Nat} {m : Cs} {Q : List V → Hp → Prop} {S S2 : Slots} (hp : ps[t]? = some p) (cp : Cp X.K CA G cf S S2 σ N ps H) (hr : RcOk X.K CA (some (c, m)) S2 (.io (N + t) :: as) H) (h : DenAp X.K CA W S2 (.io (N + t) :: as) (evAwN G cf (envOf S2) ((envOf S2).take N) (.io (N + t) :: as)) σ H Q) :
    tP X G CA cf W p σ H fun x H1 => ∃ a dx fs, x = .ref a ∧ H1 a = some (.ins (CA c) dx fs) ∧ fs.lookup (mkS m) = none ∧ tAp X G CA cf W N ps as σ H1 fun vs H2 => Q (x :: vs) H2 := by
  obtain ⟨i', as', r, a, dx, fvs, e1, e2, e3, e4, e5⟩ := hr c m rfl
  cases e1
  obtain ⟨rs, r1, r2, u, a1, a2, a3, a4, a5⟩ := cp.ip t p hp
  have e6 : r2 = r := Option.some.inj (Option.some.inj (a4.symm.trans e2))
  subst e6
  rw [evAwN, envOf_get, a4] at h
  simp only [Option.bind_some, id, Option.map_some, Out.of_some, Out.bind_ok] at h
  refine ⟨S, cp.sr, ?_⟩
  rw [a1]
  refine ⟨r1, u, a2, a3, fun v' H' sm at' => ?_⟩
  have hv : v' = r2.v := at'.det (a5.same sm)
  subst hv
  refine ⟨a, dx, fvs, e3, sm _ _ e4, e5, S, S2, cp.same sm, ?_⟩
  cases e2 : evAwN G cf (envOf S2) ((envOf S2).take N) as with
  | exc x => rw [e2] at h; exact fun cls dd H' s' r => h cls dd H' (sm.trans s') r
  | bad => rw [e2] at h; exact h
  | ok qs =>
    rw [e2] at h
    exact fun vs H2 s2 av => h _ _ (sm.trans s2) (.io a4 (av.ahead sm))
inductive RcE (X : Cx) (G : Glo) (CA : Nat → Addr) (cf : Runs) (W : WX) (N : Nat) (ps : List Pth) (o : Expr) : Nat → Prop
  | io {i : Nat} : i < N → PE X o (tVar i) → RcE X G CA cf W N ps o i
  | ip {t : Nat} {p : Pth} : ps[t]? = some p → PE X o (tP X G CA cf W p) → RcE X G CA cf W N ps o (N + t)
theorem x_iom (B : En sc X nm G CA cf np bl W) (I : CtxI X nm CA cf nio) (f n c : Nat) (m : Cs) {N : Nat} {ps : List Pth} {mn : Str} {i : Nat} {as : List Aw} {o e : Expr} {es : List Expr} {pl : Sem Bool} {apos pos : Pos} (hf : nio f = some (n, Aw.pos 0 (.io i :: as))) (hn : as.length + 1 = n) (hmt : nm.mt f = .me c m) (hm : mn = mkS m) (hs : (e :: es).all noStar = true) (hN : nm.N.length = N)
    (ho : RcE X G CA cf W N ps o i) (ha : ApE X G CA cf W N ps (e :: es) as)
    (ht : eval (.Call (.Attribute o (mkS m) apos) (e :: es) [] pos) X.env = (do
      let ov ← eval o X.env
      standAt apos.atName
      let (f, first) ← holding [ov] (getMethod ov (mkS m) pl)
      callWith pos f first (backTo pos (starEach (e :: es) X.env)) (backToKw pos (keywordEach [] X.env)))) :
    PE X (.Call (.Attribute o mn apos) (e :: es) [] pos) (tX X G CA cf W L (.ioc (some (c, m)) f ps (.io i :: as))) := by
  subst hm
  obtain ⟨k, hr, hF⟩ := I.lev
  obtain ⟨a, fd, pr, h1, h2, h3, h4, _, h5⟩ := hF f n _ hf
  rw [hmt] at h1 h5
  obtain ⟨h1, hC⟩ := h1
  rw [List.all_cons, Bool.and_eq_true] at hs
  subst hn
  have h5 : FnOk X.prog X.w X.K X.mg X.base (CXm nm.m X.prog X.w) k a fd pr (spI X.K CA cf.ci (as.length + 1) (Aw.pos 0 (.io i :: as)) f) := h5
  refine ⟨fun pins s σ H Q J hh => ?_⟩
  obtain ⟨S, S2, cp, rc, hh⟩ := ioc_read (by simp [Aw.pos]) (N := N) (by rw [B.cx.N, hN]) J hh
  cases ho with
  | io hi ho => exact (pe_meW ho hC h1 h5 hr h3 (fun σ => B.tk.pass σ) (pa_ap ha) (star_cons hs.1) (back_any hs.2) ht).run pins s σ H Q J (rc_io hi cp rc hh)
  | ip hp ho => exact (pe_meW ho hC h1 h5 hr h3 (fun σ => B.tk.pass σ) (pa_ap ha) (star_cons hs.1) (back_any hs.2) ht).run pins s σ H Q J (rc_ip hp cp rc hh)
theorem cls_of (B : En sc X nm G CA cf np bl W) {f : Cs} (h : nm.fl.contains f = true) : ClsC X CA nm.fl ∧ f ∈ nm.fl := by
  have m : f ∈ nm.fl := by simpa using h
  refine ⟨B.cx.cls ?_, m⟩
  cases e : nm.fl with
  | nil => rw [e] at m; cases m
  | cons _ _ => rfl
theorem y_fld (B : En sc X nm G CA cf np bl W) (f : Cs) {fn : Str} {c : C} {e : Expr} {pos : Pos} (hf : nm.fl.contains f = true) (hn : fn = mkS f) (hb : noSup e = true) (he : PE X e (tE X G CA cf W c)) : PE X (.Attribute e fn pos) (tE X G CA cf W (.fld c f)) :=
  x_fld B (cls_of B hf).1 f (cls_of B hf).2 hn he hb
theorem q_fld (B : En sc X nm G CA cf np bl W) {i : Nat} (st : List Ptp) (f : Cs) {fn : Str} {e : Expr} {pos : Pos} (hf : nm.fl.contains f = true) (hn : fn = mkS f) (hb : noSup e = true) (he : PE X e (tP X G CA cf W ⟨i, st⟩)) : PE X (.Attribute e fn pos) (tP X G CA cf W ⟨i, st ++ [.fld f]⟩) :=
  p_fld (cls_of B hf).1 (cls_of B hf).2 hn he hb
theorem z_stf (B : En sc X nm G CA cf np bl W) (f : Cs) {p : Pth} {fn : Str} {c : C} {o e : Expr} {apos pos : Pos} (hf : nm.fl.contains f = true) (hn : fn = mkS f) (hl : noLc e = true) (ho : PE X o (tP X G CA cf W p)) (he : PE X e (tE X G CA cf W c)) :
    PS X (.Assign [.Attribute o fn apos] e pos) (tS X G CA cf W L (.stf p f c)) :=
  s_stf (cls_of B hf).1 (cls_of B hf).2 hn ho he hl
end
end Vy

namespace Vy
open PySem PySem.Spec
open PyProof.Rows hiding St
open L2
section
variable {K : PySem.W.Frag} {CA : Nat → Addr} {W : WX} {S S0 S1 : Slots} {σ : St} {H H0 H1 : Hp} {J L is js : List Nat} {d : D} {n : Nat} {v : V} {O Z : List Addr} {Q : VK}
end
section
variable {sc : Scope} {X : Cx} {nm : Nm} {G : Glo} {CA : Nat → Addr} {cf : Runs} {np : Nat → Option Nat} {bl : List Str} {W : WX} {L : List Nat}
theorem tt_pu {c : C} {e : Expr} (h : PT X e (tT X G CA cf W c)) : PT X e (tXT X G CA cf W L (.pu c)) := PT.weak h fun σ H Q ⟨S, sr, fr, hd⟩ => by
  refine ⟨S, sr, ?_⟩
  rw [exX] at hd
  unfold evB
  cases e1 : ev G cf (envOf S) c with
  | exc e => rw [e1] at hd; exact fun cls dd H' s r => hd S H' cls dd (sr.same s) fr (Step.same s) rfl r
  | bad => rw [e1] at hd; exact hd
  | ok p =>
    rw [e1] at hd
    obtain ⟨b, hb, hd⟩ := hd
    show DenB X.K CA W (Out.of (truth p.1)) σ H Q
    rw [hb]
    exact fun H' s => hd S H' (sr.same s) fr (Step.same s) rfl
theorem tXT.stepped {b : Xp} {σ : St} {H H1 : Hp} {Q : Bool → Hp → Prop} {S S1 : Slots} (sr1 : SRep X.K CA S1 σ H1) (fr1 : Fr S1) (st1 : Step cf.io L S H S1 H1)
    (h : match exX G cf L (envOf S1) b with
      | .ok p ρ => ∃ b, truth p.1 = some b ∧ ∀ S' H', SRep X.K CA S' σ H' → Fr S' → Step cf.io L S H S' H' → envOf S' = ρ → Q b H'
      | .exc e ρ => ∀ S' H' cls dd, SRep X.K CA S' σ H' → Fr S' → Step cf.io L S H S' H' → envOf S' = ρ → ExRep X.K CA e cls dd H' → W cls dd σ H'
      | .bad => False) : tXT X G CA cf W L b σ H1 Q := by
  refine ⟨S1, sr1, fr1, ?_⟩
  cases e2 : exX G cf L (envOf S1) b with
  | exc e ρ => rw [e2] at h; exact fun S' H' cls dd a b c => h S' H' cls dd a b (st1.trans c)
  | bad => rw [e2] at h; exact h
  | ok p ρ => rw [e2] at h; obtain ⟨t, ht, h⟩ := h; exact ⟨t, ht, fun S' H' a b c => h S' H' a b (st1.trans c)⟩
theorem tt_and {a b : Xp} {ea eb : Expr} {rest : List Expr} {pos : Pos} (ha : PT X ea (tXT X G CA cf W L a)) (hb : PW X (.BoolOp .And (eb :: rest) pos) (tXT X G CA cf W L b)) : PW X (.BoolOp .And (ea :: eb :: rest) pos) (tXT X G CA cf W L (.and a b)) := by
  refine ⟨fun wh pins s σ H Q I ⟨S, sr, fr, h⟩ => (pw_and ha hb).run wh pins s σ H Q I ?_⟩
  rw [exX] at h
  show tXT X G CA cf W L a σ H _
  have nb : ∀ p ρ, exX G cf L (envOf S) a = .ok p ρ → truth p.1 ≠ none := fun p ρ e z => by
    rw [e] at h
    simp only [OX.bind_ok, z] at h
    exact h.elim
  refine ⟨S, sr, fr, ?_⟩
  cases e1 : exX G cf L (envOf S) a with
  | exc e ρ => rw [e1] at h; exact h
  | bad => rw [e1] at h; exact h
  | ok p ρ1 =>
    obtain ⟨r, hr⟩ := Option.ne_none_iff_exists'.mp (nb p ρ1 e1)
    rw [e1] at h
    simp only [OX.bind_ok, hr, Option.map_some, OX.of_some] at h
    refine ⟨r, hr, fun S1 H1 sr1 fr1 st1 he => ?_⟩
    subst he
    cases r with
    | true => rw [if_pos rfl] at h ⊢; exact tXT.stepped sr1 fr1 st1 h
    | false =>
      rw [if_neg (by decide)] at h ⊢
      obtain ⟨t, ht, h⟩ := h
      rw [hr] at ht
      cases ht
      exact h S1 H1 sr1 fr1 st1 rfl
theorem tt_and1 {b : Xp} {eb : Expr} {pos : Pos} (hb : PT X eb (tXT X G CA cf W L b)) : PW X (.BoolOp .And [eb] pos) (tXT X G CA cf W L b) := pw_and1 hb
end
section
variable {sc : Scope} {X : Cx} {nm : Nm} {G : Glo} {CA : Nat → Addr} {cf : Runs} {np : Nat → Option Nat} {bl : List Str} {W : WX} {a : Addr} {cls : Value} {dd : Option Addr} {oe : Obj} {pn : List (Addr × Obj)} {on : Option Nat}
end
end Vy

namespace Vy
open PySem PySem.Spec
open PyProof.Rows hiding St
open L2
section
variable {X : Cx} {nm : Nm} {G : Glo} {CA : Nat → Addr} {cf : Runs} {W : WX} {L : List Nat}
theorem amv_read {i j : Nat} {E : Ends} {σ : St} {H : Hp} (h : tS X G CA cf W L (.amv i j) E σ H) :
    ∃ a b ws us, σ[i]? = some (some (V.ref a)) ∧ σ[j]? = some (some (V.ref b)) ∧ H a = some (.lst ws) ∧ ws.length < sizeLine ∧ H b = some (.lst us) ∧ us.length ≤ sizeLine + us.length ∧
      ∀ b' p, H b' = none → H p = none → b' ≠ p → E.nx σ (upd (upd (upd H b' (.lst us)) p (.tup [.ref b, .ref b'])) a (.lst (ws ++ [.ref p]))) := by
  obtain ⟨S, sr, fr, h⟩ := h
  rw [exS] at h
  unfold amvD at h
  rw [envOf_get, envOf_get] at h
  cases ei : S[i]? with
  | none => rw [ei] at h; exact h.elim
  | some o => cases o with
  | none => rw [ei] at h; exact h.elim
  | some ri =>
  cases ej : S[j]? with
  | none => rw [ei, ej] at h; simp only [Option.bind_none, Option.map_none] at h; split at h <;> first | (rename_i z; cases z) | exact h.elim
  | some o => cases o with
  | none => rw [ei, ej] at h; simp only [Option.bind_some, id, Option.map_none] at h; split at h <;> first | (rename_i z; cases z) | exact h.elim
  | some rj =>
  obtain ⟨di, ni, vi, Oi, Zi⟩ := ri
  obtain ⟨dj, nj, vj, Oj, Zj⟩ := rj
  rw [ei, ej] at h
  simp only [Option.bind_some, id, Option.map_some] at h
  obtain ⟨xs, rfl⟩ : ∃ xs, di = .lst xs := by
    cases di <;> first | exact ⟨_, rfl⟩ | (exfalso; exact h.elim)
  obtain ⟨ys, rfl⟩ : ∃ ys, dj = .lst ys := by
    cases dj <;> first | exact ⟨_, rfl⟩ | (exfalso; exact h.elim)
  by_cases hc : i ≠ j ∧ i ∉ L ∧ j ∉ L ∧ j ∉ cf.io ∧ 1 ≤ ni ∧ 1 ≤ nj ∧ mdepL ys = 0 ∧ xs.length + 1 ≤ SZ
  case neg => simp only [if_neg hc] at h; exact h.elim
  simp only [if_pos hc] at h
  obtain ⟨hij, hiL, hjL, hjJ, h1i, h1j, hmy, hxl⟩ := hc
  obtain ⟨si1, si2⟩ := sr.rep i _ ei
  obtain ⟨sj1, sj2⟩ := sr.rep j _ ej
  obtain ⟨ki, a, ws, Oi', e1, rfl, hH, rsi, rfl⟩ := (show Rep X.K CA H ni (.lst xs) vi Oi Zi from si2).lst_own h1i
  obtain ⟨kj, b, us, Oj', e2, rfl, hHb, rsj, rfl⟩ := (show Rep X.K CA H nj (.lst ys) vj Oj Zj from sj2).lst_own h1j
  simp only at e1 e2 si1 sj1
  subst e1; subst e2
  obtain ⟨z1, z2, _⟩ := rsj.imm (m := 0) hmy
  subst z1; subst z2
  refine ⟨a, b, ws, us, si1, sj1, hH, by rw [SZ_eq, ← rsi.length]; omega, hHb, by omega, fun b' p hb' hp hbp => ?_⟩
  have hab : a ≠ b := fun z => hij (fr.sep i j a ⟨_, ei, by simp⟩ ⟨_, ej, by simp [z]⟩)
  have hab' : a ≠ b' := fun z => by rw [z, hb'] at hH; cases hH
  have hap : a ≠ p := fun z => by rw [z, hp] at hH; cases hH
  have hbb' : b ≠ b' := fun z => by rw [z, hb'] at hHb; cases hHb
  have hbp' : b ≠ p := fun z => by rw [z, hp] at hHb; cases hHb
  -- the heap
  generalize hH3 : upd (upd (upd H b' (.lst us)) p (.tup [.ref b, .ref b'])) a (.lst (ws ++ [.ref p])) = H3
  have ga : H3 a = some (.lst (ws ++ [.ref p])) := by rw [← hH3, upd_same]
  have gp : H3 p = some (.tup [.ref b, .ref b']) := by rw [← hH3, upd_ne (Ne.symm hap), upd_same]
  have gb' : H3 b' = some (.lst us) := by rw [← hH3, upd_ne (Ne.symm hab'), upd_ne hbp, upd_same]
  have kp : Keep [a] H H3 := fun x o e n => by
    have hxa : x ≠ a := by simpa using n
    have hxp : x ≠ p := fun z => by rw [z, hp] at e; cases e
    have hxb : x ≠ b' := fun z => by rw [z, hb'] at e; cases e
    rw [← hH3, upd_ne hxa, upd_ne hxp, upd_ne hxb]; exact e
  have gb : H3 b = some (.lst us) := kp b _ hHb (by simpa using Ne.symm hab)
  have th : ∀ x, H x ≠ none → H3 x ≠ none := fun x hx => by
    by_cases e : x = a
    · rw [e, ga]; simp
    · cases e2 : H x with
      | none => exact absurd e2 hx
      | some o => rw [kp x o e2 (by simpa using e)]; simp
  have fx : Fix [a] H := fun x hx => by simp at hx; subst hx; rw [hH]; trivial
  have nda := List.nodup_cons.mp (fr.nd i _ ei)
  have zoa : ∀ x ∈ Zi, x ∉ a :: Oi' := fun x hx w => fr.zo i x ⟨_, ei, w⟩ i _ ei hx
  -- the new row
  have one : ∀ m, Rep X.K CA H3 (m + 1) (.tup [.lst ys, .lst ys]) (.ref p) [b, b'] [] := fun m => by
    obtain ⟨_, _, q⟩ := (rsj.keep kp fx (by simp)).imm (m := m) hmy
    have r1 : Rep X.K CA H3 (m + 1) (.lst ys) (.ref b) [b] [] := .lstO gb q
    have r2 : Rep X.K CA H3 (m + 1) (.lst ys) (.ref b') [b'] [] := .lstO gb' q
    have := Reps.cons r1 (Reps.cons r2 .nil)
    exact .tup (.inl (.inl gp)) (by simpa using this)
  have rsi3 : Reps X.K CA H3 ki xs ws Oi' Zi := rsi.keep kp fx fun x hx w => by
    simp at w; subst w
    rcases List.mem_append.mp hx with z | z
    · exact nda.1 z
    · exact zoa _ z (by simp)
  have hOb : b ∉ Oi' := fun z => hij (fr.sep i j b ⟨_, ei, by simp [z]⟩ ⟨_, ej, by simp⟩)
  have hZb : b ∉ Zi := fun z => fr.zo j b ⟨_, ej, by simp⟩ i _ ei z
  have hOb' : b' ∉ Oi' := fun z => rsi.there b' (by simp [z]) hb'
  have hZb' : b' ∉ Zi := fun z => rsi.there b' (by simp [z]) hb'
  obtain ⟨n3, O3, Z3, en3, rr, hO3, hZ3, nd3, zo3⟩ : ∃ n3 O3 Z3, n3 = lvIn (ki + 1) (.tup [.lst ys, .lst ys], 1) ∧ Rep X.K CA H3 n3 (.lst (xs ++ [.tup [.lst ys, .lst ys]])) (.ref a) O3 Z3 ∧ (∀ x ∈ O3, x = a ∨ x ∈ Oi' ∨ x = b ∨ x = b') ∧ (∀ x ∈ Z3, (x ∈ Oi' ∧ x ∉ O3) ∨ x ∈ Zi ∨ ((x = b ∨ x = b') ∧ x ∉ O3)) ∧ O3.Nodup ∧ ∀ x ∈ Z3, x ∉ O3 := by
    have hmd : (D.tup [.lst ys, .lst ys]).mdep ≠ 0 := by simp [hmy]
    have hmin : lvIn (ki + 1) (.tup [.lst ys, .lst ys], 1) = min ki 1 + 1 := by unfold lvIn; rw [if_neg hmd]; omega
    obtain ⟨O2, Z2, r2, lw⟩ := rsi3.low (Nat.min_le_left ki 1)
    have hO2 : ∀ x ∈ O2, x ∈ Oi' := lw.own
    have nd2 : O2.Nodup := lw.nd nda.2
    have zo2 : ∀ x ∈ Z2, x ∉ O2 := lw.zo nda.2 fun x hx w => zoa x hx (by simp [w])
    cases hk : min ki 1 with
    | zero =>
      rw [hk] at hmin r2
      obtain ⟨O4, Z4, r4, lw4⟩ := (one 0).low (Nat.zero_le _)
      have := r4.zero
      subst this
      have := r2.zero
      subst this
      refine ⟨_, [a], Z2 ++ Z4, rfl, by rw [hmin]; exact .lstO ga (by simpa using r2.append (Reps.cons r4 .nil)), by simp, fun x hx => ?_, by simp, fun x hx w => ?_⟩
      · rcases List.mem_append.mp hx with z | z
        · rcases lw.all x z with y | y
          · exact .inl ⟨y, by simp; exact fun e => nda.1 (e ▸ y)⟩
          · exact .inr (.inl y)
        · rcases lw4.all x z with y | y
          · simp at y
            exact .inr (.inr ⟨y, by simp; rcases y with y | y <;> subst y; exact Ne.symm hab; exact Ne.symm hab'⟩)
          · simp at y
      · simp at w; subst w
        rcases List.mem_append.mp hx with z | z
        · rcases lw.all x z with y | y
          · exact nda.1 y
          · exact zoa x y (by simp)
        · rcases lw4.all x z with y | y
          · simp at y; rcases y with y | y
            · exact hab y
            · exact hab' y
          · simp at y
    | succ m =>
      rw [hk] at hmin r2
      have r5 := r2.append (Reps.cons (one m) .nil)
      refine ⟨_, a :: (O2 ++ ([b, b'] ++ [])), Z2 ++ ([] ++ []), rfl, by rw [hmin]; exact .lstO ga r5, fun x hx => ?_, fun x hx => ?_, ?_, fun x hx w => ?_⟩
      · simp at hx
        rcases hx with z | z | z | z
        · exact .inl z
        · exact .inr (.inl (hO2 x z))
        · exact .inr (.inr (.inl z))
        · exact .inr (.inr (.inr z))
      · simp at hx
        rcases lw.all x hx with y | y
        · refine .inl ⟨y, ?_⟩
          simp only [List.append_nil, List.mem_cons, List.mem_append, not_or]
          exact ⟨fun e => nda.1 (e ▸ y), zo2 x hx, fun e => hOb (e ▸ y), fun e => hOb' (e ▸ y), by simp⟩
        · exact .inr (.inl y)
      · rw [List.append_nil, List.nodup_cons, List.nodup_append]
        refine ⟨?_, nd2, by simp [hbb'], ?_⟩
        · simp only [List.mem_append, List.mem_cons, not_or]
          exact ⟨fun z => nda.1 (hO2 a z), hab, hab', by simp⟩
        · intro x hx y hy e
          subst e
          simp at hy
          rcases hy with e | e
          · exact hOb (e ▸ hO2 x hx)
          · exact hOb' (e ▸ hO2 x hx)
      · simp at hx w
        rcases w with w | w | w | w
        · subst w
          rcases lw.all x hx with y | y
          · exact nda.1 y
          · exact zoa x y (by simp)
        · exact zo2 x hx w
        · subst w
          rcases lw.all x hx with y | y
          · exact hOb y
          · exact hZb y
        · subst w
          rcases lw.all x hx with y | y
          · exact hOb' y
          · exact hZb' y
  have hil : i < S.length := (List.getElem?_eq_some_iff.mp ei).1
  have hil2 : i < (S.set j none).length := by simpa using hil
  have get : ∀ (k : Nat) (r : Root), ((S.set j none).set i (some ⟨.lst (xs ++ [.tup [.lst ys, .lst ys]]), n3, .ref a, O3, Z3⟩))[k]? = some (some r) → (k = i ∧ r = ⟨.lst (xs ++ [.tup [.lst ys, .lst ys]]), n3, .ref a, O3, Z3⟩) ∨ (k ≠ i ∧ k ≠ j ∧ S[k]? = some (some r)) := fun k r e => by
    by_cases hk : i = k
    · subst hk
      rw [List.getElem?_set_self hil2] at e
      cases e
      exact .inl ⟨rfl, rfl⟩
    · rw [List.getElem?_set_ne hk] at e
      by_cases hj : j = k
      · subst hj
        rw [List.getElem?_set_self (List.getElem?_eq_some_iff.mp ej).1] at e
        cases e
      · rw [List.getElem?_set_ne hj] at e
        exact .inr ⟨Ne.symm hk, Ne.symm hj, e⟩
  have oth : ∀ {k : Nat} {r : Root}, k ≠ i → k ≠ j → S[k]? = some (some r) → ∀ x ∈ r.O ++ r.Z, x ≠ a ∧ x ∉ Oi' ∧ x ≠ b ∧ x ≠ b' := fun {k r} hk hj e x hx => by
    have no : ∀ {m : Nat} {y : Addr}, k ≠ m → OwnAt S m y → x ≠ y := fun {m y} hm w z => by
      subst z
      rcases List.mem_append.mp hx with q | q
      · exact hm (fr.sep k m x ⟨r, e, q⟩ w)
      · exact fr.zo m x w k r e q
    exact ⟨no hk ⟨_, ei, by simp⟩, fun z => no hk ⟨_, ei, by simp [z]⟩ rfl, no hj ⟨_, ej, by simp⟩, fun z => (sr.rep k r e).2.there x hx (z ▸ hb')⟩
  refine h ((S.set j none).set i (some ⟨.lst (xs ++ [.tup [.lst ys, .lst ys]]), n3, .ref a, O3, Z3⟩)) σ H3 ⟨by simp [sr.len], fun k r e => ?_⟩ ⟨fun k r e => ?_, fun k k2 x ⟨r, e, q⟩ ⟨r2, e2, q2⟩ => ?_, fun k x ⟨r, e, q⟩ k2 r2 e2 => ?_⟩ ⟨fun x o e n => ?_, th, fun k x ⟨r, e, q⟩ => ?_, fun x ⟨k, r, e, q⟩ => ?_, fun k _ r e => ?_⟩ ?_
  · rcases get k r e with ⟨rfl, rfl⟩ | ⟨hk, hj, e⟩
    · exact ⟨si1, rr⟩
    · refine ⟨(sr.rep k r e).1, (sr.rep k r e).2.keep kp fx fun x hx w => ?_⟩
      simp at w
      exact (oth hk hj e x hx).1 w
  · rcases get k r e with ⟨rfl, rfl⟩ | ⟨hk, hj, e⟩
    · exact nd3
    · exact fr.nd k r e
  · rcases get k r e with ⟨rfl, rfl⟩ | ⟨hk, hj, g1⟩ <;> rcases get k2 r2 e2 with ⟨rfl, rfl⟩ | ⟨hk2, hj2, g2⟩
    · rfl
    · obtain ⟨w1, w2, w3, w4⟩ := oth hk2 hj2 g2 x (by simp [q2])
      rcases hO3 x q with z | z | z | z
      · exact absurd z w1
      · exact absurd z w2
      · exact absurd z w3
      · exact absurd z w4
    · obtain ⟨w1, w2, w3, w4⟩ := oth hk hj g1 x (by simp [q])
      rcases hO3 x q2 with z | z | z | z
      · exact absurd z w1
      · exact absurd z w2
      · exact absurd z w3
      · exact absurd z w4
    · exact fr.sep k k2 x ⟨r, g1, q⟩ ⟨r2, g2, q2⟩
  · rcases get k r e with ⟨rfl, rfl⟩ | ⟨hk, hj, g1⟩ <;> rcases get k2 r2 e2 with ⟨rfl, rfl⟩ | ⟨hk2, hj2, g2⟩
    · exact fun z => zo3 x z q
    · intro hz
      obtain ⟨w1, w2, w3, w4⟩ := oth hk2 hj2 g2 x (by simp [hz])
      rcases hO3 x q with z | z | z | z
      · exact w1 z
      · exact w2 z
      · exact w3 z
      · exact w4 z
    · intro hz
      obtain ⟨w1, w2, w3, w4⟩ := oth hk hj g1 x (by simp [q])
      rcases hZ3 x hz with z | z | z
      · exact w2 z.1
      · exact fr.zo k x ⟨r, g1, q⟩ _ _ ei z
      · rcases z.1 with z | z
        · exact w3 z
        · exact w4 z
    · exact fr.zo k x ⟨r, g1, q⟩ k2 r2 g2
  · exact kp x o e fun z => by
      simp at z; subst z
      exact n ⟨i, hiL, _, ei, by simp⟩
  · rcases get k r e with ⟨rfl, rfl⟩ | ⟨hk, hj, e⟩
    · rcases hO3 x q with z | z | z | z
      · exact .inl ⟨_, ei, by simp [z]⟩
      · exact .inl ⟨_, ei, by simp [z]⟩
      · exact .inr (.inl ⟨j, hjL, _, ej, by simp [z]⟩)
      · exact .inr (.inr (z ▸ hb'))
    · exact .inl ⟨r, e, q⟩
  · rcases get k r e with ⟨rfl, rfl⟩ | ⟨hk, hj, e⟩
    · have bb : x = b ∨ x = b' → Any S x ∨ H x = none := fun z => by
        rcases z with z | z
        · exact .inl ⟨j, _, ej, by simp [z]⟩
        · exact .inr (z ▸ hb')
      have oo : x ∈ Oi' ∨ x ∈ Zi → Any S x ∨ H x = none := fun z => by
        rcases z with z | z
        · exact .inl ⟨_, _, ei, by simp [z]⟩
        · exact .inl ⟨_, _, ei, by simp [z]⟩
      rcases List.mem_append.mp q with q | q
      · rcases hO3 x q with z | z | z
        · exact .inl ⟨_, _, ei, by simp [z]⟩
        · exact oo (.inl z)
        · exact bb z
      · rcases hZ3 x q with z | z | z
        · exact oo (.inl z.1)
        · exact oo (.inr z)
        · exact bb z.1
    · exact .inl ⟨k, r, e, q⟩
  · rcases get k r e with ⟨rfl, rfl⟩ | ⟨hk, hj, e⟩
    · exact ⟨_, ei, rfl⟩
    · exact ⟨r, e, rfl⟩
  · unfold envOf
    rw [List.map_set, List.map_set, ← en3]
    rfl
end
section
variable {sc : Scope} {X : Cx} {nm : Nm} {G : Glo} {CA : Nat → Addr} {cf : Runs} {np : Nat → Option Nat} {bl : List Str} {W : WX} {L : List Nat}
theorem z_amv (B : En sc X nm G CA cf np bl W) (i j : Nat) {x y : Str} {xp yp yp2 lp cp tp ap fp pos : Pos} {kk : Nat} (hi : nm.N[i]? = some x) (hj : nm.N[j]? = some y) (vi : visB sc x = true) (vj : visB sc y = true) (gi : dbg x = true) (gj : dbg y = true) (hbl : bl.contains ("list" : Str) = true) (hgl : gloB sc "list" = true) (hl : (ap.endLine == fp.line) = true) :
    PS X (.Expr (.Call (.Attribute (.Name x xp) "append" ap) [.Tuple [.Name y yp, .Call (.Name "list" lp) [.Name y yp2] [] cp] kk tp] [] fp) pos) (tS X G CA cf W L (.amv i j)) := by
  have ei : PE X (.Name x xp) (tVar i) := pe_var (by rw [B.cx.N]; exact hi) (B.vis vi) (dbg_ok gi).1 (dbg_ok gi).2.1
  have ej : ∀ p, PE X (.Name y p) (tVar j) := fun p => pe_var (by rw [B.cx.N]; exact hj) (B.vis vj) (dbg_ok gj).1 (dbg_ok gj).2.1
  have hm := B.cx.blt ("list" : Str) (by simpa using hbl)
  have ec := pe_callTy (p := lp) (pos := cp) call_list_of (B.gl hgl) hm (show bootBuiltins ("list" : Str) = some (.type "list") by decide +kernel) (pa_cons (ej yp2) pa_nil (star_cons rfl)) (by decide) (by decide) (star_cons rfl) rfl
  have h2 := pe_bm F.plainAttrs_list F.slot_list_append F.type_list_append mt_append ei (pa_cons (pe_tup (x1 := kk) (pos := tp) (pa_cons (ej yp) (pa_cons ec pa_nil (star_cons rfl)) (star_cons rfl))) pa_nil (star_cons rfl)) (base_ok rfl) (back_few (by rfl) (by simp)) hl (star_cons rfl) rfl
  refine PS.weak (ps_expr h2 (no_swap rfl)) fun D σ H h => ?_
  obtain ⟨a, b, ws, us, si, sj, hH, hz, hHb, _, q⟩ := amv_read h
  refine ⟨.ref a, si, .inl ⟨rfl, ws, .of hH⟩, .ref b, sj, .ref b, sj, b, us, rfl, .inl (.of hHb), fun b' hb' => ⟨by rw [SZ_eq]; show 2 ≤ SZ; decide, fun p hp => ?_⟩⟩
  have hab' : a ≠ b' := fun z => by rw [z, hb'] at hH; cases hH
  have hap : a ≠ p := fun z => by
    have : upd H b' (.lst us) a = some (.lst ws) := by rw [upd_ne hab']; exact hH
    rw [z, hp] at this; cases this
  have hbp : b' ≠ p := fun z => by rw [← z, upd_same] at hp; cases hp
  have hp0 : H p = none := by rw [upd_ne (Ne.symm hbp)] at hp; exact hp
  refine ⟨a, ws, .ref p, rfl, rfl, by rw [upd_ne hap, upd_ne hab']; exact hH, hz, q b' p hb' hp0 hbp⟩
end
end Vy

namespace Vy
def getN : List (Cs × List Cs) → Cs → Option (List Cs)
  | [], _ => none
  | (a, b) :: r, k => if a = k then some b else getN r k
def nd (m : List (Cs × List Cs)) (k : Cs) : List Cs := (getN m k).getD []
def dN (m : List (Cs × List Cs)) : List (Cs × D) := m.map fun p => (p.1, LS p.2)
def DN (m : List (Cs × List Cs)) : D := DT (dN m)
theorem keys_dN (m : List (Cs × List Cs)) : (dN m).map (·.1) = m.map (·.1) := by simp [dN, List.map_map, Function.comp_def]
@[simp] theorem norm_DN (m : List (Cs × List Cs)) (n : Nat) : norm (DN m, n) = (DN m, n) := norm_DT _ _
@[simp] theorem len_DN (m : List (Cs × List Cs)) (n : Nat) : bifD .len [(DN m, n)] = some (.int m.length, 9) := by
  unfold DN; rw [len_DT]; simp [dN]
theorem has_dN (m : List (Cs × List Cs)) (k : Cs) : hasT (dN m) k = decide (k ∈ m.map (·.1)) := by
  rw [Bool.eq_iff_iff, hasT_mem, keys_dN]; simp
@[simp] theorem in_DN (k : Cs) (m : List (Cs × List Cs)) : cmpD .isin (.str k) (DN m) = some (decide (k ∈ m.map (·.1))) := by unfold DN; rw [in_DT, has_dN]
@[simp] theorem notin_DN (k : Cs) (m : List (Cs × List Cs)) : cmpD .notin (.str k) (DN m) = some (!decide (k ∈ m.map (·.1))) := by unfold DN; rw [notin_DT, has_dN]
@[simp] theorem recv_DN (m : List (Cs × List Cs)) : recvOk .get (DN m) = true := id rfl
@[simp] theorem list_DN (m : List (Cs × List Cs)) (n : Nat) : bifD .list [(DN m, n)] = some (LS (m.map (·.1)), 9) := by unfold DN; rw [list_DT, keys_dN]
@[simp] theorem isiOk_DN (m : List (Cs × List Cs)) (k : IK) (h : ikOk k = true) : isiOk (DN m) k = true := isiOk_dct _ _ _ h
def dB (l : List Cs) : List (Cs × D) := l.map fun s => (s, .bl true)
def DB (l : List Cs) : D := DT (dB l)
theorem keys_dB (l : List Cs) : (dB l).map (·.1) = l := by simp [dB, List.map_map, Function.comp_def]
@[simp] theorem norm_DB (l : List Cs) (n : Nat) : norm (DB l, n) = (DB l, n) := norm_DT _ _
@[simp] theorem len_DB (l : List Cs) (n : Nat) : bifD .len [(DB l, n)] = some (.int l.length, 9) := by
  unfold DB; rw [len_DT]; simp [dB]
theorem has_dB (l : List Cs) (k : Cs) : hasT (dB l) k = decide (k ∈ l) := by
  rw [Bool.eq_iff_iff, hasT_mem, keys_dB]; simp
@[simp] theorem in_DB (k : Cs) (l : List Cs) : cmpD .isin (.str k) (DB l) = some (decide (k ∈ l)) := by unfold DB; rw [in_DT, has_dB]
@[simp] theorem notin_DB (k : Cs) (l : List Cs) : cmpD .notin (.str k) (DB l) = some (!decide (k ∈ l)) := by unfold DB; rw [notin_DT, has_dB]
section
variable {G : Glo} {cf : Runs} {L : List Nat} {ρ : Env}
end
section
variable {G : Glo} {cf : Runs} {L : List Nat} {ρ : Env} {Q : Post}
end
end Vy

namespace Vy
section
variable {G : Glo} {cf : Runs} {L : List Nat} {ρ : Env} {Q : Post}
end
end Vy

namespace Vy
theorem fin_nx {Q : Post} {I : Env → Prop} {rt : D × Nat → Env → Prop} {ex : Exn → Env → Prop} {ρ : Env} (hQ : Q = ⟨I, rt, ex⟩) (h : I ρ) : Q.nx ρ := hQ ▸ h
theorem giv {Q : Post} {R : D × Nat → Prop} {ρ : Env} {p : D × Nat} (hQ : Q = Gives R) (h : R p) : Q.rt p ρ := by rw [hQ]; exact h
theorem some_of {o : OS} {R : D × Nat → Prop} (h : ∀ Q, Q = Gives R → Sat o Q) : ∃ p, outS o = .ok p ∧ R p := (h _ rfl).some
theorem eq_of {o : OS} {q : D × Nat} (h : ∀ Q, Q = Gives (fun p => p = q) → Sat o Q) : outS o = .ok q := (h _ rfl).eq
section
variable {G : Glo} {cf : Runs} {L : List Nat} {ρ : Env} {Q : Post} {it : C} {b r : List S}
theorem v_for {tg : Tg} {p : D × Nat} {xs : List D} (I : Nat → Env → Prop) (hx : itemsOf p.1 = some xs) (hf : full p = true) (hio : okJ cf.io tg.is = true) (h0 : I 0 ρ) (hs : ∀ i x ρ, xs[i]? = some x → I i ρ → ∀ Q', Q' = Post.mk (I (i + 1)) Q.rt Q.ex → Sat (putS ρ tg x fun ρ => exB G cf L ρ b) Q') (hk : ∀ ρ, I xs.length ρ → Sat (exB G cf L ρ r) Q) : Sat (thenR G cf L (forS G cf ρ L tg it b p) r) Q :=
  w_for I hx hf hio h0 (fun i x ρ a c => hs i x ρ a c _ rfl) hk
theorem v_forZ {tg : Tg} {p : D × Nat} {xs : List D} (I : Nat → Env → Prop) (hx : itemsOf p.1 = some xs) (hf : full p = false) (hz : mdepL xs = 0) (hio : okJ cf.io tg.is = true) (h0 : I 0 ρ) (hs : ∀ i x ρ, xs[i]? = some x → I i ρ → ∀ Q', Q' = Post.mk (I (i + 1)) Q.rt Q.ex → Sat (putS ρ tg x fun ρ => exB G cf (names it ++ L) ρ b) Q') (hk : ∀ ρ, I xs.length ρ → Sat (exB G cf L ρ r) Q) : Sat (thenR G cf L (forS G cf ρ L tg it b p) r) Q :=
  w_forZ I hx hf hz hio h0 (fun i x ρ a c => hs i x ρ a c _ rfl) hk
theorem v_rng {n : Nat} (I : Nat → Env → Prop) (i : Nat) (hio : okJ cf.io [i] = true) (h0 : I 0 ρ) (hs : ∀ j ρ, j < n → I j ρ → ∀ Q', Q' = Post.mk (I (j + 1)) Q.rt Q.ex → Sat (exB G cf L (ρ.set i (some (.int (j : Int), 9))) b) Q') (hk : ∀ ρ, I n ρ → Sat (exB G cf L ρ r) Q) :
    Sat (thenR G cf L (forS G cf ρ L (.one i) it b (.lst ((List.range n).map fun (j : Nat) => D.int (j : Int)), 9)) r) Q := w_rng I i hio h0 (fun i ρ a c => hs i ρ a c _ rfl) hk
theorem v_whl (P : Nat → Env → Prop) {t : C} {fuel : Nat} (n : Nat) (hn : n < fuel) (h0 : P n ρ) (hs : ∀ n ρ, P n ρ → (evB G cf ρ t = .ok false ∧ Sat (exB G cf L ρ r) Q) ∨ (evB G cf ρ t = .ok true ∧ ∀ Q', Q' = Post.mk (fun ρ' => ∃ n', n' < n ∧ P n' ρ') Q.rt Q.ex → Sat (exB G cf L ρ b) Q')) : Sat (thenR G cf L (whlR G cf L ρ fuel t b) r) Q :=
  w_whl P n hn h0 fun n ρ hp => (hs n ρ hp).imp id fun ⟨a, c⟩ => ⟨a, c _ rfl⟩
end
end Vy

namespace Vy
open PySem PySem.W PySem.W.KIN PySem.NumText
end Vy

namespace Vy
variable {α : Type}
def dE (e : α → D) (m : List (Cs × α)) : List (Cs × D) := m.map fun p => (p.1, e p.2)
def DE (e : α → D) (m : List (Cs × α)) : D := DT (dE e m)
theorem keys_dE (e : α → D) (m : List (Cs × α)) : (dE e m).map (·.1) = m.map (·.1) := by simp [dE, List.map_map, Function.comp_def]
class Enc (e : α → D) : Prop where
  md : ∀ a, (e a).mdep = 0
  uf : ∀ a, (e a).unfz = e a
  ok : ∀ a, eqOk (e a) = true ∧ (e a).dep ≤ 50 ∧ pyEq (e a) (e a) = true
section
variable (e : α → D) [I : Enc e]
@[simp] theorem norm_DE (m : List (Cs × α)) (n : Nat) : norm (DE e m, n) = (DE e m, n) := norm_DT _ _
@[simp] theorem len_DE (m : List (Cs × α)) (n : Nat) : bifD .len [(DE e m, n)] = some (.int m.length, 9) := by
  unfold DE; rw [len_DT]; simp [dE]
theorem has_dE (m : List (Cs × α)) (k : Cs) : hasT (dE e m) k = decide (k ∈ m.map (·.1)) := by
  rw [Bool.eq_iff_iff, hasT_mem, keys_dE]; simp
@[simp] theorem in_DE (k : Cs) (m : List (Cs × α)) : cmpD .isin (.str k) (DE e m) = some (decide (k ∈ m.map (·.1))) := by unfold DE; rw [in_DT, has_dE]
@[simp] theorem notin_DE (k : Cs) (m : List (Cs × α)) : cmpD .notin (.str k) (DE e m) = some (!decide (k ∈ m.map (·.1))) := by unfold DE; rw [notin_DT, has_dE]
@[simp] theorem recv_DE (m : List (Cs × α)) : recvOk .get (DE e m) = true := id rfl
@[simp] theorem list_DE (m : List (Cs × α)) (n : Nat) : bifD .list [(DE e m, n)] = some (LS (m.map (·.1)), 9) := by unfold DE; rw [list_DT, keys_dE]
@[simp] theorem isiOk_DE (m : List (Cs × α)) (k : IK) (h : ikOk k = true) : isiOk (DE e m) k = true := isiOk_dct _ _ _ h
end
def rkD : Option Nat → D
  | none => .non
  | some n => .int (n : Int)
instance : Enc rkD where
  md a := by cases a <;> simp [rkD]
  uf a := by cases a <;> rfl
  ok a := by cases a <;> simp [rkD, eqOk, D.dep, pyEq]
end Vy

namespace Vy
def WL (ws : List (List Cs)) : D := .lst (ws.map LS)
@[simp] theorem norm_WL (ws : List (List Cs)) (n : Nat) : norm (WL ws, n) = (WL ws, n) := by unfold WL; exact norm_lst _ _
@[simp] theorem len_WL (ws : List (List Cs)) (n : Nat) : bifD .len [(WL ws, n)] = some (.int ws.length, 9) := by
  unfold WL; rw [len_lst, List.length_map]
@[simp] theorem isiOk_WL (ws : List (List Cs)) (k : IK) (h : ikOk k = true) : isiOk (WL ws) k = true := isiOk_lst _ _ h
@[simp] theorem items_WL (ws : List (List Cs)) : itemsOf (WL ws) = some (ws.map LS) := id rfl
section
variable {G : Glo} {cf : Runs} {L : List Nat} {ρ : Env} {Q : Post} {α : Type}
end
end Vy

namespace Vy
open PySem PySem.Spec
open PyProof.Rows hiding St
open L2
section
variable {X : Cx} {nm : Nm} {G : Glo} {CA : Nat → Addr} {cf : Runs} {W : WX}
end
section
variable (G : Glo) (cf : Runs)
end
section
variable {K : PySem.W.Frag} {CA : Nat → Addr} {H : Hp}
end
section
variable {X : Cx} {nm : Nm} {G : Glo} {CA : Nat → Addr} {cf : Runs} {W : WX}
variable {sc : Scope} {np : Nat → Option Nat} {bl : List Str} {L : List Nat}
end
end Vy

namespace Vy
open PySem PySem.Spec
open PyProof.Rows hiding St
open L2
section
variable {X : Cx} {pins : List (Addr × Obj)} {σ : St} {Q : VK} {elt tg iter : Expr} {ifs : List Expr} {scope : Scope} {own : List (Str × Nat)} {pos : Pos} {g : TG} {tt : TT} {te : TE}
end
section
variable {X : Cx} {nm : Nm} {G : Glo} {CA : Nat → Addr} {cf : Runs} {W : WX}
variable {sc : Scope} {np : Nat → Option Nat} {bl : List Str}
end
section
variable {P : Program} {w : World} {K : PySem.W.Frag} {mg : Str → Option Value} {base : Heap} {T : Tb} {G : Glo} {CA : Nat → Addr} {Pr : Nat → Option Def} {np : Nat → Option Nat} {bl : List Str}
end
end Vy

namespace Vy
open PySem PySem.Spec
open PyProof.Rows hiding St
open L2
end Vy

namespace Vy
open PySem PySem.Spec
open PyProof.Rows hiding St
open L2
section
variable {X : Cx}
end
section
variable {X : Cx} {nm : Nm} {G : Glo} {CA : Nat → Addr} {cf : Runs} {W : WX} {L : List Nat}
end
end Vy

namespace Vy
open PySem PySem.Spec
open PyProof.Rows hiding St
open L2
section
open PySem.W PySem.Calls
end
section
variable {X : Cx} {nm : Nm} {G : Glo} {CA : Nat → Addr} {cf : Runs} {W : WX} {sc : Scope} {np : Nat → Option Nat} {bl : List Str} {L : List Nat}
section
variable {X : Cx} {nm : Nm} {G : Glo} {CA : Nat → Addr} {cf : Runs} {W : WX} {sc : Scope} {np : Nat → Option Nat} {bl : List Str} {L : List Nat}
end
end
section
variable {X : Cx} {nm : Nm} {G : Glo} {CA : Nat → Addr} {cf : Runs} {W : WX} {sc : Scope} {np : Nat → Option Nat} {bl : List Str} {L : List Nat}
end
end Vy

namespace Vy
open PySem PySem.Spec
open PyProof.Rows hiding St
open L2
section
variable {X : Cx} {nm : Nm} {G : Glo} {CA : Nat → Addr} {cf : Runs} {W : WX} {L : List Nat}
end
section
variable {sc : Scope} {X : Cx} {nm : Nm} {G : Glo} {CA : Nat → Addr} {cf : Runs} {np : Nat → Option Nat} {bl : List Str} {W : WX} {L : List Nat}
end
end Vy

namespace Vy
open PySem PySem.Spec
open PyProof.Rows hiding St
open L2
section
variable {X : Cx}
end
end Vy

namespace Vy
open PySem PySem.Spec
open PyProof.Rows hiding St
open L2
section
variable {K : PySem.W.Frag} {CA : Nat → Addr} {H : Hp}
def Ims (K : PySem.W.Frag) (CA : Nat → Addr) (H : Hp) (n : Nat) : List D → List V → Prop
  | [], [] => True
  | d :: ds, v :: vs => d.mdep = 0 ∧ Rep K CA H n d v [] [] ∧ Ims K CA H n ds vs
  | _, _ => False
theorem Ims.reps {n : Nat} : ∀ {ds : List D} {vs : List V}, Ims K CA H n ds vs → Reps K CA H n ds vs [] []
  | [], [], _ => .nil
  | d :: ds, v :: vs, ⟨_, h2, h3⟩ => Reps.cons (O := []) (Z := []) h2 h3.reps
  | [], _ :: _, h => h.elim
  | _ :: _, [], h => h.elim
theorem ims_of {n m : Nat} : ∀ {ds : List D} {vs : List V} {O Z : List Addr}, Reps K CA H n ds vs O Z → mdepL ds = 0 → Ims K CA H m ds vs ∧ O = [] ∧ Z = []
  | [], vs, O, Z, r, _ => by cases r; exact ⟨trivial, rfl, rfl⟩
  | d :: ds, vs, O, Z, r, hm => by
    obtain ⟨v, vs', O1, O2, Z1, Z2, rfl, rfl, rfl, rd, rr⟩ := r.cons_inv
    rw [mdepL] at hm
    obtain ⟨h1, h2, h3⟩ := ims_of (m := m) rr (by omega)
    obtain ⟨a, b, c⟩ := rd.imm (m := m) (by omega : d.mdep = 0)
    subst h2 h3 a b
    exact ⟨⟨by omega, c, h1⟩, rfl, rfl⟩
theorem Ims.app {n : Nat} {d : D} {v : V} (hd : d.mdep = 0) (r : Rep K CA H n d v [] []) : ∀ {ds : List D} {vs : List V}, Ims K CA H n ds vs → Ims K CA H n (ds ++ [d]) (vs ++ [v])
  | [], [], _ => ⟨hd, r, trivial⟩
  | _ :: _, _ :: _, ⟨h1, h2, h3⟩ => ⟨h1, h2, h3.app hd r⟩
  | [], _ :: _, h => h.elim
  | _ :: _, [], h => h.elim
theorem Ims.mdep {n : Nat} : ∀ {ds : List D} {vs : List V}, Ims K CA H n ds vs → mdepL ds = 0
  | [], [], _ => rfl
  | _ :: _, _ :: _, ⟨h1, _, h3⟩ => by rw [mdepL, h1, h3.mdep]; rfl
  | [], _ :: _, h => h.elim
  | _ :: _, [], h => h.elim
def DkA (K : PySem.W.Frag) (CA : Nat → Addr) (H : Hp) (n : Nat) (M : List (Cs × D)) (kvs : List (L2.Key × V)) : Prop := kvs.map (·.1) = M.map (fun p => (Sum.inr (mkS p.1) : L2.Key)) ∧ (M.map (·.1)).Nodup ∧ (∀ p ∈ M, Bd p.1) ∧ Ims K CA H n (M.map (·.2)) (kvs.map (·.2))
theorem putK_nil (k : L2.Key) (v : V) : putK ([] : List (L2.Key × V)) k v = [(k, v)] := by simp [putK]
theorem putK_cons {p : L2.Key × V} {r : List (L2.Key × V)} (hn : ((p :: r).map (·.1)).Nodup) (k : L2.Key) (v : V) : putK (p :: r) k v = if p.1 = k then (p.1, v) :: r else p :: putK r k v := by
  rw [List.map_cons, List.nodup_cons] at hn
  by_cases h : p.1 = k
  · rw [if_pos h]
    unfold putK
    rw [if_pos (by simp [h])]
    rw [List.map_cons, if_pos h]
    congr 1
    have : ∀ x ∈ r, (if x.1 = k then (x.1, v) else x) = x := fun x hx => by
      rw [if_neg fun e => hn.1 (by rw [h, ← e]; exact List.mem_map.mpr ⟨x, hx, rfl⟩)]
    exact (List.map_congr_left this).trans (List.map_id' r)
  · rw [if_neg h]
    unfold putK
    by_cases h2 : (r.any fun kv => decide (kv.1 = k)) = true
    · rw [if_pos h2, if_pos (by rw [List.any_cons, h2, Bool.or_true]), List.map_cons, if_neg h]
    · rw [if_neg h2, if_neg (by rw [List.any_cons, decide_eq_false h, Bool.false_or]; exact h2)]
      rfl
theorem putA_keys {k : Cs} {d : D} : ∀ {M : List (Cs × D)}, (putA k d M).map (·.1) = if k ∈ M.map (·.1) then M.map (·.1) else M.map (·.1) ++ [k]
  | [] => by simp [putA]
  | p :: r => by
    rw [putA]
    by_cases h : p.1 = k
    · rw [if_pos h, if_pos (by simp [h])]
      simp [h]
    · rw [if_neg h, List.map_cons, putA_keys (M := r)]
      have h' : ¬ k = p.1 := fun e => h e.symm
      by_cases h2 : k ∈ r.map (·.1)
      · rw [if_pos h2, if_pos (by rw [List.map_cons]; exact List.mem_cons_of_mem _ h2)]; rfl
      · rw [if_neg h2, if_neg (by rw [List.map_cons, List.mem_cons]; exact fun z => z.elim h' h2)]; rfl
theorem DkA.put {n : Nat} {k : Cs} {d : D} {v : V} (hk : Bd k) (hd : d.mdep = 0) (hr : Rep K CA H n d v [] []) : ∀ {M : List (Cs × D)} {kvs : List (L2.Key × V)}, DkA K CA H n M kvs → DkA K CA H n (putA k d M) (putK kvs (Sum.inr (mkS k)) v)
  | [], kvs, ⟨h1, h2, h3, h4⟩ => by
    have : kvs = [] := by simpa using h1
    subst this
    rw [putK_nil]
    exact ⟨rfl, by simp [putA], fun p hp => by simp [putA] at hp; subst hp; exact hk, ⟨hd, hr, trivial⟩⟩
  | (a, e) :: M, [], ⟨h1, _⟩ => by cases h1
  | (a, e) :: M, (kk, u) :: kvs, ⟨h1, h2, h3, h4⟩ => by
    simp only [List.map_cons, List.cons.injEq] at h1
    obtain ⟨e1, e2⟩ := h1
    rw [List.map_cons, List.nodup_cons] at h2
    obtain ⟨i1, i2, i3⟩ := h4
    have hkn : (((kk, u) :: kvs).map (·.1)).Nodup := by
      rw [List.map_cons, List.nodup_cons, e2]
      refine ⟨fun hm => ?_, ?_⟩
      · obtain ⟨p, hp, he⟩ := List.mem_map.mp hm
        rw [show ((kk, u) : L2.Key × V).1 = kk from rfl, e1] at he
        injection he with he
        exact h2.1 (by rw [← mkS_inj he]; exact List.mem_map.mpr ⟨p, hp, rfl⟩)
      · have := h2.2
        rw [List.nodup_iff_pairwise_ne] at this ⊢
        rw [List.pairwise_map] at this ⊢
        exact this.imp fun h e => h (mkS_inj (by injection e))
    rw [putK_cons hkn, putA]
    by_cases h : a = k
    · subst h
      rw [if_pos rfl, if_pos e1]
      exact ⟨by simp [e1, e2], by rw [List.map_cons, List.nodup_cons]; exact h2, fun p hp => by
        rcases List.mem_cons.mp hp with z | z
        · subst z; exact hk
        · exact h3 p (List.mem_cons_of_mem _ z), ⟨hd, hr, i3⟩⟩
    · have hne : ¬ kk = Sum.inr (mkS k) := fun z => h (mkS_inj (by rw [e1] at z; injection z))
      rw [if_neg h, if_neg hne]
      obtain ⟨j1, j2, j3, j4⟩ := DkA.put hk hd hr (M := M) (kvs := kvs) ⟨e2, h2.2, fun p hp => h3 p (List.mem_cons_of_mem _ hp), i3⟩
      refine ⟨by simp [e1, j1], ?_, fun p hp => ?_, ⟨i1, i2, j4⟩⟩
      · rw [List.map_cons, List.nodup_cons]
        refine ⟨fun hm => ?_, j2⟩
        rw [putA_keys] at hm
        split at hm
        · exact h2.1 hm
        · rcases List.mem_append.mp hm with z | z
          · exact h2.1 z
          · exact h (by simpa using z)
      · rcases List.mem_cons.mp hp with z | z
        · subst z; exact h3 (a, e) (by simp)
        · exact j3 p z
theorem DkA.rep {n : Nat} {M : List (Cs × D)} {kvs : List (L2.Key × V)} {a : Addr} (h : DkA K CA H n M kvs) (ha : H a = some (.dK kvs)) : Rep K CA H (n + 1) (.dct (M.map fun p => .str p.1) (M.map (·.2))) (.ref a) [a] [] := by
  obtain ⟨h1, h2, h3, h4⟩ := h
  refine .dctO ha ⟨?_, ?_, fun s hs => ?_⟩ h4.reps
  · rw [List.map_map]
    have : kvs.map (fun p => some p.1) = (kvs.map (·.1)).map some := by rw [List.map_map]; rfl
    rw [this, h1, List.map_map]
    rfl
  · rw [h1]
    rw [List.nodup_iff_pairwise_ne] at h2 ⊢
    rw [List.pairwise_map] at h2 ⊢
    exact h2.imp fun h e => h (mkS_inj (by injection e))
  · obtain ⟨p, hp, e⟩ := List.mem_map.mp hs
    cases e
    exact h3 p hp
theorem DkA.of {n m : Nat} {ks vs : List D} {Ks : List Cs} {v : V} {O Z : List Addr} (hk : ks = Ks.map D.str) (hm : mdepL vs = 0) (r : Rep K CA H (n + 1) (.dct ks vs) v O Z) : ∃ a kvs, v = .ref a ∧ H a = some (.dK kvs) ∧ O = [a] ∧ Z = [] ∧ DkA K CA H m (Ks.zip vs) kvs ∧ Ks.length = vs.length ∧ (kvs.map (·.1)).Nodup := by
  cases r with
  | dctO e e1 r =>
    rename_i a kvs O'
    obtain ⟨i1, i2, i3⟩ := ims_of (m := m) r hm
    subst i2 i3
    obtain ⟨k1, k2, k3⟩ := e1
    subst hk
    have hl := r.length
    have hl2 := congrArg List.length k1
    simp at hl hl2
    have hz1 : (Ks.zip vs).map (·.1) = Ks := List.map_fst_zip (by omega)
    have hz2 : (Ks.zip vs).map (·.2) = vs := List.map_snd_zip (by omega)
    have hk1 : kvs.map (·.1) = Ks.map fun s => (Sum.inr (mkS s) : L2.Key) := by
      have : (kvs.map (·.1)).map some = (Ks.map fun s => (Sum.inr (mkS s) : L2.Key)).map some := by
        rw [List.map_map, List.map_map, show kvs.map (some ∘ (·.1)) = kvs.map (fun p => some p.1) from rfl, ← k1, List.map_map]
        rfl
      exact (List.map_inj_right (fun _ _ h => Option.some.inj h)).mp this
    refine ⟨a, kvs, rfl, e, rfl, rfl, ⟨?_, ?_, fun p hp => ?_, by rw [hz2]; exact i1⟩, by omega, k2⟩
    · rw [hk1, show (Ks.zip vs).map (fun p => (Sum.inr (mkS p.1) : L2.Key)) = ((Ks.zip vs).map (·.1)).map (fun s => (Sum.inr (mkS s) : L2.Key)) by rw [List.map_map]; rfl, hz1]
    · rw [hz1]
      rw [hk1] at k2
      rw [List.nodup_iff_pairwise_ne] at k2 ⊢
      rw [List.pairwise_map] at k2
      exact k2.imp fun h e => h (by rw [e])
    · exact k3 p.1 (by
        have : p.1 ∈ (Ks.zip vs).map (·.1) := List.mem_map.mpr ⟨p, hp, rfl⟩
        rw [hz1] at this
        exact List.mem_map.mpr ⟨p.1, this, rfl⟩)
end
end Vy

namespace Vy
open PySem PySem.Spec
open PyProof.Rows hiding St
open L2
section
variable {X : Cx} {CA : Nat → Addr} {J L : List Nat}
theorem Ims.keep {K : PySem.W.Frag} {H H' : Hp} {F : List Addr} (kp : Keep F H H') (fx : Fix F H) {n : Nat} : ∀ {ds : List D} {vs : List V}, Ims K CA H n ds vs → Ims K CA H' n ds vs
  | [], [], _ => trivial
  | _ :: _, _ :: _, ⟨h1, h2, h3⟩ => ⟨h1, h2.keep kp fx (by simp), h3.keep kp fx⟩
  | [], _ :: _, h => h.elim
  | _ :: _, [], h => h.elim
end
end Vy

namespace Vy
open PySem PySem.Spec
open PyProof.Rows hiding St
open L2
section
variable {sc : Scope} {X : Cx} {nm : Nm} {G : Glo} {CA : Nat → Addr} {cf : Runs} {np : Nat → Option Nat} {bl : List Str} {W : WX} {L : List Nat}
end
end Vy

namespace Vy
open PySem PySem.Spec
open PyProof.Rows hiding St
open L2
section
variable {X : Cx}
end
section
variable {K : PySem.W.Frag} {CA : Nat → Addr} {H : Hp}
end
end Vy

namespace Vy
open PySem PySem.Spec
open PyProof.Rows hiding St
open L2
section
variable {X : Cx} {CA : Nat → Addr} {J L : List Nat}
end
section
variable {sc : Scope} {X : Cx} {nm : Nm} {G : Glo} {CA : Nat → Addr} {cf : Runs} {np : Nat → Option Nat} {bl : List Str} {W : WX} {L : List Nat}
end
end Vy

namespace Vy
open PySem PySem.Spec
open PyProof.Rows hiding St
open L2
section
variable {X : Cx} {G : Glo} {CA : Nat → Addr} {cf : Runs} {W : WX} {L : List Nat}
end
@[simp] theorem exX_tp2 {G : Glo} {cf : Runs} {L : List Nat} {ρ : Env} (x : Xp) (c : C) : exX G cf L ρ (.tp2 x c) = (exX G cf L ρ x).bind fun p ρ1 => OX.of (if p.1.mdep = 0 then some (onO (ev G cf ρ1 c) ρ1 fun q => .ok (.tup [p.1, q.1], q.2) ρ1) else none) := by rw [exX]
end Vy

namespace Vy
open PySem PySem.Spec
open PyProof.Rows hiding St
open L2
section
variable {pg : Program} {wd : World} {Ar : Around} {Res : Result → Shared → Prop} {it : Addr} {fps wrs : List Addr} {Gn : Array GenState → Array GenState → Prop} {many : Nat} {Pv : Nat → Value → Prop} {Sv : Nat → Shared → Prop}
end
section
variable {pg : Program} {wd : World} {Ar : Around} {Er : Value → Shared → Prop} {s : Shared}
end
section
variable {X : Cx}
end
section
variable {sc : Scope} {X : Cx} {nm : Nm} {G : Glo} {CA : Nat → Addr} {cf : Runs} {np : Nat → Option Nat} {bl : List Str} {W : WX}
end
end Vy

namespace Vy
open PySem PySem.Spec PySem.W PySem.Calls
open PyProof.Rows hiding St
open L2
section
variable {prog : Program} {w : World} {A : Around} {E : Value → Shared → Prop} {s : Shared} {z TI TO i1 i2 : Addr} {fp1 fp2 : List Addr} {n1 n2 i : Nat} {P1 P2 : Nat → Value → Prop} {St1 St2 : Nat → Heap → Prop}
end
end Vy

namespace Vy
open PySem PySem.Spec PySem.W PySem.Calls
open PyProof.Rows hiding St
open L2
def ZSt (z TI TO i1 i2 S : Addr) (St1 St2 : Nat → Heap → Prop) (i : Nat) (h : Heap) : Prop :=
  IsTupOf2 h TI (.ref i1) (.ref i2) ∧ St1 i h ∧ St2 i h ∧ ((IsZip h z TI TO .none ∧ ∃ a b, IsTupOf2 h TO a b) ∨ ∃ T f oT, IsZipHeld h z TI TO T f ∧ h.get? T = some oT ∧ T ≠ z ∧ T ≠ i1 ∧ T ≠ i2 ∧ T ≠ S)
structure ZOff (z TI TO i1 i2 S : Addr) (fp1 fp2 : List Addr) : Prop where
  z : z ≠ S
  TI : TI ≠ S
  TO : TO ≠ S
  f1 : S ∉ fp1
  f2 : S ∉ fp2
structure ZG (P1 P2 : Nat → Value → Prop) (lo : Addr) (h : Heap) (as : List Addr) : Prop where
  rise : as.Pairwise (· < ·)
  above : ∀ a ∈ as, lo < a
  pairs : ∀ (j : Nat) (a : Addr), as[j]? = some a → ∃ x y, P1 j x ∧ P2 j y ∧ IsTupOf2 h a x y
section
variable {prog : Program} {w : World} {A : Around} {E : Value → Shared → Prop} {s : Shared} {z TI TO i1 i2 S : Addr} {fp1 fp2 : List Addr} {n1 n2 i : Nat} {P1 P2 : Nat → Value → Prop} {St1 St2 : Nat → Heap → Prop}
theorem ZG.there {lo : Addr} {h : Heap} {as : List Addr} (g : ZG P1 P2 lo h as) {a : Addr} (ha : a ∈ as) : a < h.objs.size := by
  obtain ⟨j, hj⟩ := List.mem_iff_getElem?.mp ha
  obtain ⟨_, _, _, _, e⟩ := g.pairs j a hj
  exact Heap.lt_size e
theorem ZSt.keep {h h' : Heap} (D1 : Draws prog w A i1 fp1 n1 P1 St1) (D2 : Draws prog w A i2 fp2 n2 P2 St2) (off : ZOff z TI TO i1 i2 S fp1 fp2) (st : ZSt z TI TO i1 i2 S St1 St2 i h) (hk : ∀ b o, b ≠ S → h.get? b = some o → h'.get? b = some o) : ZSt z TI TO i1 i2 S St1 St2 i h' := by
  obtain ⟨a1, a2, a3, a4⟩ := st
  refine ⟨hk _ _ off.TI a1, D1.frame _ _ _ a2 fun b hb o e => hk b o (fun q => off.f1 (q ▸ hb)) e, D2.frame _ _ _ a3 fun b hb o e => hk b o (fun q => off.f2 (q ▸ hb)) e, ?_⟩
  rcases a4 with ⟨b1, a, b, b2⟩ | ⟨T, f, oT, b1, b2, b3, b4, b5, b6⟩
  · exact .inl ⟨hk _ _ off.z b1, a, b, hk _ _ off.TO b2⟩
  · exact .inr ⟨T, f, oT, hk _ _ off.z b1, hk _ _ b6 b2, b3, b4, b5, b6⟩
end
section
variable {prog : Program} {w : World} {A : Around} {s : Shared} {R : Result → Shared → Prop} {z TI TO i1 i2 S : Addr} {fp1 fp2 : List Addr} {n1 n2 : Nat} {P1 P2 : Nat → Value → Prop} {St1 St2 : Nat → Heap → Prop}
end
section
variable {prog : Program} {w : World} {A : Around} {E : Value → Shared → Prop} {s : Shared} {z TI TO i1 i2 : Addr} {fp1 fp2 : List Addr} {n1 n2 : Nat} {P1 P2 : Nat → Value → Prop} {St1 St2 : Nat → Heap → Prop}
end
end Vy

namespace Vy
open PySem PySem.Spec PySem.W PySem.Calls
open PyProof.Rows hiding St
open L2
section
variable {X : Cx}
end
end Vy

namespace Vy
open PySem PySem.Spec
open PyProof.Rows hiding St
open L2
section
variable {K : PySem.W.Frag} {CA : Nat → Addr}
end
section
variable {sc : Scope} {X : Cx} {nm : Nm} {G : Glo} {CA : Nat → Addr} {cf : Runs} {np : Nat → Option Nat} {bl : List Str} {W : WX}
end
end Vy

namespace Vy
open PySem PySem.Spec
open PyProof.Rows hiding St
open L2
section
variable {X : Cx} {nm : Nm} {G : Glo} {CA : Nat → Addr} {cf : Runs} {W : WX}
theorem Bd.sub {s t : Cs} (h : Bd s) (q : ∀ c ∈ t, c ∈ s) : Bd t := fun c m => h c (q c m)
end
end Vy

namespace Vy
section
variable (G : Glo) (cf : Runs) (L : List Nat) (ρ : Env)
@[simp] theorem exX_cmp (o : CO) (a b : Xp) : exX G cf L ρ (.cmp o a b) = (exX G cf L ρ a).bind fun x ρ1 => OX.of (if full x = true ∨ isPu b = true then some ((exX G cf L ρ1 b).bind fun y ρ2 => OX.of ((cmpD o x.1 y.1).map fun r => .ok (.bl r, 9) ρ2)) else none) := by rw [exX]
@[simp] theorem exX_sub (a : Xp) (i : C) : exX G cf L ρ (.sub a i) = (exX G cf L ρ a).bind fun x ρ1 => onO (ev G cf ρ1 i) ρ1 fun y => OX.of ((subD x.1 y.1).map fun r => .ok r ρ1) := by rw [exX]
@[simp] theorem exX_not (a : Xp) : exX G cf L ρ (.not a) = (exX G cf L ρ a).bind fun x ρ1 => OX.of ((truth x.1).map fun b => .ok (.bl (!b), 9) ρ1) := by rw [exX]
@[simp] theorem exX_and (a b : Xp) : exX G cf L ρ (.and a b) = (exX G cf L ρ a).bind fun x ρ1 => OX.of ((truth x.1).map fun r => if r = true then exX G cf L ρ1 b else .ok x ρ1) := by rw [exX]
@[simp] theorem exX_or (a b : Xp) : exX G cf L ρ (.or a b) = (exX G cf L ρ a).bind fun x ρ1 => OX.of ((truth x.1).map fun r => if r = true then .ok x ρ1 else exX G cf L ρ1 b) := by rw [exX]
@[simp] theorem isPu_pu (c : C) : isPu (.pu c) = true := id rfl
@[simp] theorem rsv_f (f : Cs) (r : List Ptp) : rsv G cf ρ (.fld f :: r) = (rsv G cf ρ r).bind fun rs => .ok (.fld f :: rs) := by rw [rsv]
theorem exS_stf (p : Pth) (f : Cs) (e : C) : exS G cf L ρ (.stf p f e) = onE (ev G cf ρ e) ρ fun q => onE (rsv G cf ρ p.st) ρ fun rs => onX (mopX L ρ p.i rs (names e) [q] fun u => (stfOp u f q).map (·, (.non, 9))) fun _ ρ2 => .nx ρ2 := by rw [exS]
theorem ev_fldD (a : C) (f : Cs) : ev G cf ρ (.fld a f) = (ev G cf ρ a).bind fun x => match x.1 with | .ins c fs vs => gd (98 ≤ c ∧ c < 100) (.of ((lookD f fs vs).map (·, 0))) | _ => .bad := by rw [ev] <;> rfl
end
section
variable {G : Glo} {cf : Runs} {L : List Nat} {ρ : Env}
theorem ev_fldA {a : C} {f : Cs} {c n : Nat} {fs : List Cs} {vs : List D} {d : D} (h : ev G cf ρ a = .ok (.ins c fs vs, n)) (hc : 98 ≤ c ∧ c < 100) (hl : lookD f fs vs = some d) : ev G cf ρ (.fld a f) = .ok (d, 0) := by
  rw [ev_fldD, h]; simp [gd_pos hc, hl]
theorem evAwN_pus {ρh : Env} : ∀ {cs : List C} {vs : List (D × Nat)}, evs G cf ρh cs = .ok vs → evAwN G cf ρ ρh (cs.map .pu) = .ok (vs.map fun v => norm (v.1, 0))
  | [], vs, h => by rw [evs] at h; cases h; rfl
  | c :: cs, vs, h => by
    rw [evs] at h
    obtain ⟨x, h1, h⟩ := Out.bind_eq_ok h
    obtain ⟨xs, h2, h⟩ := Out.bind_eq_ok h
    cases h
    rw [List.map_cons, evAwN, h1, Out.bind_ok, evAwN_pus h2]
    rfl
theorem ios_pus : ∀ {cs : List C}, Aw.ios (cs.map .pu) = []
  | [] => rfl
  | c :: cs => by rw [List.map_cons, Aw.ios]; exact ios_pus
theorem awSep_pus {is : List Nat} : ∀ {cs : List C} {vs : List (D × Nat)}, (∀ v ∈ vs, v.1.mdep = 0) → awSep is (cs.map .pu) (vs.map fun v => norm (v.1, 0)) = true
  | [], vs, h => by cases vs <;> rfl
  | c :: cs, [], h => rfl
  | c :: cs, v :: vs, h => by
    have h1 : (norm (v.1, 0)).1.mdep = 0 := by rw [norm, if_pos (h v (by simp))]; exact h v (by simp)
    rw [List.map_cons, List.map_cons, awSep, h1]
    simp only [decide_true, Bool.true_or, Bool.true_and]
    exact awSep_pus fun w hw => h w (by simp [hw])
theorem norm_mut {q : D × Nat} (h : q.1.mdep ≠ 0) : norm q = q := by rw [norm, if_neg h]
theorem getP_putP {rs : List Rtp} {y : D} : ∀ {d : D} {n : Nat} {u : D × Nat}, getP (d, n) rs = some u → getP (putP d rs y, n) rs = some (y, u.2) := by
  induction rs with
  | nil => intro d n u h; cases h; rfl
  | cons r rs ih =>
    intro d n u h
    cases n with
    | zero => cases h
    | succ n =>
      rw [getP] at h
      obtain ⟨j, h1, h⟩ := Option.bind_eq_some_iff.mp h
      obtain ⟨d', h2, h⟩ := Option.bind_eq_some_iff.mp h
      have e : putP d (r :: rs) y = setK d j (putP d' rs y) := by rw [putP, h1]; simp only [h2]
      rw [e, getP, posP_setK, h1]
      have hk : (kids (setK d j (putP d' rs y)))[j]? = some (putP d' rs y) := by
        have hj : j < (kids d).length := (List.getElem?_eq_some_iff.mp h2).1
        cases d <;> first | (simp [kids] at hj; done) | exact List.getElem?_set_self hj
      rw [Option.bind_some, hk]
      exact ih h
theorem take_one {p : Nat} {rs : List Rtp} {d : D} {n : Nat} {q : D × Nat} (h : (ρ[p]?).bind id = some (d, n)) (hg : getP (d, n) rs = some q) : takeL ρ [(p, rs)] = some (ρ.set p (some (putP d rs .hol, n)) ++ [some q]) := by
  rw [takeL, takeP, h]
  simp [hg, takeL]
theorem slot_lt {i : Nat} {q : D × Nat} (h : (ρ[i]?).bind id = some q) : i < ρ.length := by
  cases e : ρ[i]? with
  | none => rw [e] at h; cases h
  | some o => exact (List.getElem?_eq_some_iff.mp e).1
theorem give_one {p : Nat} {rs : List Rtp} {d : D} {n : Nat} {q q' : D × Nat} (hp : p < ρ.length) (hg : getP (d, n) rs = some q) (hl : q'.2 = q.2) : giveL [(p, rs)] (ρ.set p (some (putP d rs .hol, n)) ++ [some q']) = some (ρ.set p (some (putP d rs q'.1, n))) := by
  rw [giveL, giveL, Option.bind_some, give1]
  have e1 : (ρ.set p (some (putP d rs .hol, n)) ++ [some q'])[p]? = some (some (putP d rs .hol, n)) := by
    rw [List.getElem?_append_left (by simpa using hp), List.getElem?_set_self hp]
  simp only [List.getLast?_append, List.getLast?_singleton, Option.some_or, Option.bind_some, id, e1, getP_putP hg]
  rw [if_pos ⟨rfl, hl.symm, by simp; omega⟩, List.dropLast_concat, List.set_set, putP_putP hg]
theorem ioc_one {rc : Option (Nat × Cs)} {f : Nat} {p : Pth} {cs : List C} {rs : List Rtp} {d : D} {n : Nat} {q q' r : D × Nat} {vals : List (D × Nat)} (h : (ρ[p.i]?).bind id = some (d, n)) (hr : rsv G cf ρ p.st = .ok rs) (hg : getP (d, n) rs = some q) (hm : q.1.mdep ≠ 0) (hL : p.i ∉ L) (hN : ρ.length ∉ L)
    (hrc : ∀ c m, rc = some (c, m) → ∃ fs vs, q.1 = .ins c fs vs ∧ m ∉ fs) (hv : evs G cf (ρ.set p.i (some (putP d rs .hol, n))) cs = .ok vals) (hvi : ∀ v ∈ vals, v.1.mdep = 0)
    (hc : cf.ci f (q :: vals.map fun v => norm (v.1, 0)) = .ok r [q']) (hm' : q'.1.mdep ≠ 0) (hl : q'.2 = q.2) (hf : full q' = true) :
    exX G cf L ρ (.ioc rc f [p] (.io ρ.length :: cs.map .pu)) = .ok r (ρ.set p.i (some (putP d rs q'.1, n))) := by
  have hp := slot_lt h
  rw [exX, iocX, rsvL, hr]
  simp only [rsvL, Option.map_some, Option.bind_some, take_one h hg]
  have e1 : (ρ.set p.i (some (putP d rs .hol, n)) ++ [some q])[ρ.length]? = some (some q) := by
    rw [List.getElem?_append_right (by simp)]; simp
  have e2 : (ρ.set p.i (some (putP d rs .hol, n)) ++ [some q])[p.i]? = some (some (putP d rs .hol, n)) := by
    rw [List.getElem?_append_left (by simpa using hp), List.getElem?_set_self hp]
  have g2 : holB (ρ.set p.i (some (putP d rs .hol, n)) ++ [some q]) (p.i, rs) = true := by
    unfold holB
    simp only [e2, Option.bind_some, id, getP_putP hg]
    rfl
  have g3 : recvB rc (.io ρ.length :: cs.map .pu) (ρ.set p.i (some (putP d rs .hol, n)) ++ [some q]) = true := by
    unfold recvB
    cases rc with
    | none => rfl
    | some x =>
      obtain ⟨c, m⟩ := x
      obtain ⟨fs, vs, e, hmf⟩ := hrc c m rfl
      obtain ⟨q1, q2⟩ := q
      cases e
      simp only [e1, Option.bind_some, id]
      simpa using hmf
  rw [if_pos ⟨by simp [hp, hL], by simp [g2], g3⟩]
  have ht : (ρ.set p.i (some (putP d rs .hol, n)) ++ [some q]).take ρ.length = ρ.set p.i (some (putP d rs .hol, n)) := by
    exact List.take_left' (by simp)
  rw [ht, iowN, evAwN, e1]
  simp only [Option.bind_some, id, Out.of_some, Out.bind_ok, evAwN_pus hv, norm_mut hm, onO_ok]
  have gi : Aw.ios (.io ρ.length :: cs.map .pu) = [ρ.length] := by rw [Aw.ios, ios_pus]
  rw [gi, if_pos ⟨by simp, by simp [hN, show ¬ ρ.length = p.i by omega], by rw [awSep]; exact awSep_pus hvi⟩, hc]
  simp only [List.length_singleton]
  rw [if_pos ⟨trivial, .inl (by simp [hf])⟩]
  have hs : setL (ρ.set p.i (some (putP d rs .hol, n)) ++ [some q]) [ρ.length] [q'] = ρ.set p.i (some (putP d rs .hol, n)) ++ [some q'] := by
    show setV _ _ _ = _
    rw [setV, norm_mut hm', List.set_append]
    simp
  simp only [hs]
  rw [give_one hp hg hl]
  rfl
theorem mop_fld {i : Nat} {f : Cs} {m : MO} {es : List C} {c n j : Nat} {fs : List Cs} {vs : List D} {d : D} {ps : List (D × Nat)} {u : (D × Nat) × (D × Nat)} (h : (ρ[i]?).bind id = some (.ins c fs vs, n + 1)) (hc : 98 ≤ c ∧ c < 100) (hj : fs.findIdx? (· == f) = some j) (hd : vs[j]? = some d) (hL : i ∉ L)
    (hT : mTy m (d, n) = true) (he : evs G cf ρ es = .ok ps) (hu : nodeOp m (d, n) ps = some u) (hf : ps.all full = true) (hl : u.1.2 = n) :
    exX G cf L ρ (.mop ⟨i, [.fld f]⟩ m es) = .ok u.2 (ρ.set i (some (.ins c fs (vs.set j u.1.1), n + 1))) := by
  have hg : getP (.ins c fs vs, n + 1) [.fld f] = some (d, n) := by
    simp only [getP, posP, kids]
    rw [go_pos hc, hj]
    simp [hd]
  have hpp : ∀ x, putP (.ins c fs vs) [.fld f] x = .ins c fs (vs.set j x) := fun x => by
    simp only [putP, posP, kids]
    rw [go_pos hc, hj]
    simp [hd, setK]
  rw [exX_mop]
  simp only [rsv_f, rsv_nil, Out.bind_ok, onO_ok, nodeP, h, Option.bind_some, hg, Option.map_some, OX.of_some, hT, if_true, he, mopX, if_neg hL, hu, hf, chgP, hpp, setV, norm_mut (show (D.ins c fs (vs.set j u.1.1), _).1.mdep ≠ 0 by simp [D.mdep])]
  simp [hl]
end
end Vy

namespace Vy
open PySem PySem.Spec
open PyProof.Rows hiding St
open L2
section
variable {sc : Scope} {X : Cx} {nm : Nm} {G : Glo} {CA : Nat → Addr} {cf : Runs} {np : Nat → Option Nat} {bl : List Str} {W : WX} {tg : Expr}
end
end Vy

namespace Vy
open PySem PySem.Spec
open PyProof.Rows hiding St
open L2
section
variable {X : Cx} {nm : Nm} {G : Glo} {CA : Nat → Addr} {cf : Runs} {W : WX} {L : List Nat}
end
section
variable {K : PySem.W.Frag} {CA : Nat → Addr} {H H2 H3 : Hp} {J L : List Nat} {S0 S1 : Slots} {σ : St}
end
section
variable {X : Cx} {nm : Nm} {G : Glo} {CA : Nat → Addr} {cf : Runs} {W : WX} {L : List Nat}
end
section
variable {sc : Scope} {X : Cx} {nm : Nm} {G : Glo} {CA : Nat → Addr} {cf : Runs} {np : Nat → Option Nat} {bl : List Str} {W : WX} {L : List Nat}
end
@[simp] theorem exS_retP {G : Glo} {cf : Runs} {L : List Nat} {ρ : Env} (i j : Nat) : exS G cf L ρ (.retP i j) = match (ρ[i]?).bind id, (ρ[j]?).bind id with
    | some p, some q => if i ≠ j ∧ p.2 = q.2 then .rt (.tup [p.1, q.1], p.2) ((ρ.set i none).set j none) else .bad
    | _, _ => .bad := by rw [exS] <;> rfl
@[simp] theorem exX_tmo {G : Glo} {cf : Runs} {L : List Nat} {ρ : Env} (i c : Nat) (m : MO) (es : List C) : exX G cf L ρ (.tmo i c m es) = OX.of (((ρ[i]?).bind id).bind fun p => (tupK p.1 c).map fun d => if mTy m (d, p.2) = true then onO (evs G cf ρ es) ρ fun ps => tmoX L ρ i c p d m ps else .bad) := by rw [exX]
end Vy

namespace Vy
open PySem PySem.Spec PySem.W PySem.Calls
open PyProof.Rows hiding St
open L2
section
variable {prog : Program} {w : World} {z TI TO i1 i2 : Addr} {fp1 fp2 : List Addr} {n1 n2 : Nat} {P1 P2 : Nat → Value → Prop} {St1 St2 : Nat → Heap → Prop}
end
section
variable {X : Cx}
end
section
variable {K : PySem.W.Frag} {CA : Nat → Addr}
end
section
variable {sc : Scope} {X : Cx} {nm : Nm} {G : Glo} {CA : Nat → Addr} {cf : Runs} {np : Nat → Option Nat} {bl : List Str} {W : WX}
end
end Vy

namespace Vy
section
variable (G : Glo) (cf : Runs) (L : List Nat) (ρ : Env)
@[simp] theorem exS_rai (c : Nat) (fs : List Cs) (es : List C) : exS G cf L ρ (.rai c fs es) = onE (evs G cf ρ es) ρ fun ps => if ps.all (fun p => decide (p.1.mdep = 0)) = true then .exc (mkX c fs (ps.map (·.1))) ρ else .bad := by rw [exS]
def triR (o : OS) (hs : List Hdl) : OS := match o with
  | .exc e ρ => handle G cf.io e ρ hs
  | o => o
@[simp] theorem triR_nx (hs : List Hdl) : triR G cf (.nx ρ) hs = .nx ρ := id rfl
@[simp] theorem triR_rt (p : D × Nat) (hs : List Hdl) : triR G cf (.rt p ρ) hs = .rt p ρ := id rfl
@[simp] theorem triR_exc (e : Exn) (hs : List Hdl) : triR G cf (.exc e ρ) hs = handle G cf.io e ρ hs := id rfl
@[simp] theorem triR_bad (hs : List Hdl) : triR G cf .bad hs = .bad := id rfl
theorem exS_triR (b : List S) (hs : List Hdl) : exS G cf L ρ (.tri b hs) = triR G cf (exB G cf L ρ b) hs := by rw [exS]; cases exB G cf L ρ b <;> rfl
@[simp] theorem mkX_nil (c : Nat) (vs : List D) : mkX c [] vs = ⟨c, [], []⟩ := id rfl
@[simp] theorem mkX_cons (c : Nat) (f : Cs) (fs : List Cs) (vs : List D) : mkX c (f :: fs) vs = ⟨c, f :: fs, vs⟩ := id rfl
@[simp] theorem handle_nil (J : List Nat) (e : Exn) : handle G J e ρ [] = .exc e ρ := id rfl
@[simp] theorem handle_0 (J : List Nat) (e : Exn) (cs : List Nat) (su : Sui) (hs : List Hdl) : handle G J e ρ (⟨cs, none, su⟩ :: hs) = if G.cm e.c = [] then .bad else if ((G.cm e.c).any fun c => cs.contains c) = true then exSu G e J ρ su else handle G J e ρ hs := by rw [handle]
@[simp] theorem handle_1 (J : List Nat) (e : Exn) (cs : List Nat) (i : Nat) (su : Sui) (hs : List Hdl) : handle G J e ρ (⟨cs, some i, su⟩ :: hs) = if G.cm e.c = [] then .bad else if ((G.cm e.c).any fun c => cs.contains c) = true then (if i ∈ J then .bad else goneS i (exSu G e J (ρ.set i none) su)) else handle G J e ρ hs := by rw [handle]
@[simp] theorem exSu_ret (e : Exn) (J : List Nat) (c : Ce) : exSu G e J ρ (.ret c) = osOf ((evC G e ρ c).map fun d => .rt (d, 9) ρ) := id rfl
@[simp] theorem exSu_asg (e : Exn) (J : List Nat) (i : Nat) (c : Ce) : exSu G e J ρ (.asg i c) = osOf ((evC G e ρ c).map fun d => onJ J [i] (.nx (setV ρ i (d, 9)))) := id rfl
@[simp] theorem exSu_rai (e : Exn) (J : List Nat) (c : Nat) (fs : List Cs) (es : List Ce) : exSu G e J ρ (.rai c fs es) = osOf ((evCs G e ρ es).map fun ds => .exc (mkX c fs ds) ρ) := id rfl
@[simp] theorem exSu_blk (e : Exn) (J : List Nat) (l : List (Nat × Ce)) (c : Ce) : exSu G e J ρ (.blk l c) = blkS G e J l c ρ := id rfl
@[simp] theorem blkS_nil (e : Exn) (J : List Nat) (c : Ce) : blkS G e J [] c ρ = osOf ((evC G e ρ c).map fun d => .rt (d, 9) ρ) := id rfl
@[simp] theorem blkS_cons (e : Exn) (J : List Nat) (j : Nat) (a : Ce) (r : List (Nat × Ce)) (c : Ce) : blkS G e J ((j, a) :: r) c ρ = osOf ((evC G e ρ a).map fun d => onJ J [j] (blkS G e J r c (setV ρ j (d, 9)))) := id rfl
@[simp] theorem goneS_nx (i : Nat) : goneS i (.nx ρ) = .nx (ρ.set i none) := id rfl
@[simp] theorem goneS_rt (i : Nat) (p : D × Nat) : goneS i (.rt p ρ) = .rt p (ρ.set i none) := id rfl
@[simp] theorem goneS_exc (i : Nat) (e : Exn) : goneS i (.exc e ρ) = .exc e (ρ.set i none) := id rfl
@[simp] theorem goneS_bad (i : Nat) : goneS i .bad = .bad := id rfl
variable (e : Exn)
@[simp] theorem evC_cst (d : D) : evC G e ρ (.cst d) = immO d := by rw [evC]
@[simp] theorem evC_var (i : Nat) : evC G e ρ (.var i) = ((ρ[i]?).bind id).bind fun p => immO p.1 := by rw [evC]
@[simp] theorem evC_fl (c : Nat) (f : Cs) : evC G e ρ (.fl c f) = if e.c = c then (lookD f e.fs e.vs).bind immO else none := by rw [evC]
@[simp] theorem evC_tup (es : List Ce) : evC G e ρ (.tup es) = (evCs G e ρ es).bind fun ds => if ds.length ≤ SZ then some (.tup ds) else none := by rw [evC]
@[simp] theorem evC_add (a b : Ce) : evC G e ρ (.add a b) = (evC G e ρ a).bind fun x => (evC G e ρ b).bind fun y => (binD .add (x, 9) (y, 9)).bind fun p => immO p.1 := by rw [evC]
@[simp] theorem evC_str (a : Ce) : evC G e ρ (.str a) = (evC G e ρ a).bind fun x => (bifD .str [(x, 9)]).bind fun p => immO p.1 := by rw [evC]
@[simp] theorem evC_isi (c : Nat) : evC G e ρ (.isi c) = if G.cm e.c = [] then none else some (.bl ((G.cm e.c).contains c)) := by rw [evC]
@[simp] theorem evC_isv : evC G e ρ .isv = if G.cm e.c = [] then none else some (.bl true) := by rw [evC]
def i01D : D → Option D
  | .bl b => some (.int (if b = true then 1 else 0))
  | _ => none
@[simp] theorem i01D_bl (b : Bool) : i01D (.bl b) = some (.int (if b = true then 1 else 0)) := id rfl
@[simp] theorem evC_i01 (a : Ce) : evC G e ρ (.i01 a) = (evC G e ρ a).bind i01D := by rw [evC]; cases evC G e ρ a <;> rfl
def eqqD : D → D → Option D
  | .int i, .int j => some (.bl (i == j))
  | _, _ => none
@[simp] theorem eqqD_int (i j : Int) : eqqD (.int i) (.int j) = some (.bl (i == j)) := id rfl
@[simp] theorem evC_eqq (a b : Ce) : evC G e ρ (.eqq a b) = (evC G e ρ a).bind fun x => (evC G e ρ b).bind fun y => eqqD x y := by rw [evC]; cases evC G e ρ a <;> cases evC G e ρ b <;> rfl
def andD (x : D) (y : Option D) : Option D := match x with
  | .bl b => if b = true then y else some (.bl false)
  | _ => none
@[simp] theorem andD_bl (b : Bool) (y : Option D) : andD (.bl b) y = if b = true then y else some (.bl false) := id rfl
@[simp] theorem evC_and (a b : Ce) : evC G e ρ (.and a b) = (evC G e ρ a).bind fun x => andD x (evC G e ρ b) := by rw [evC]; cases evC G e ρ a <;> rfl
@[simp] theorem ninD_dct (d : D) (ks vs : List D) : ninD d (.dct ks vs) = (inD d (.dct ks vs)).map fun b => .bl (!b) := id rfl
@[simp] theorem evC_nin (i j : Nat) : evC G e ρ (.nin i j) = ((ρ[i]?).bind id).bind fun p => ((ρ[j]?).bind id).bind fun q => ninD p.1 q.1 := by rw [evC]
@[simp] theorem evCs_nil : evCs G e ρ [] = some [] := by rw [evCs]
@[simp] theorem evCs_cons (a : Ce) (r : List Ce) : evCs G e ρ (a :: r) = (evC G e ρ a).bind fun d => (evCs G e ρ r).map fun ds => d :: ds := by rw [evCs]
end
@[simp] theorem immO_int (i : Int) : immO (.int i) = some (.int i) := id rfl
@[simp] theorem immO_str (i : Cs) : immO (.str i) = some (.str i) := id rfl
@[simp] theorem immO_bl (i : Bool) : immO (.bl i) = some (.bl i) := id rfl
@[simp] theorem immO_non : immO .non = some .non := id rfl
@[simp] theorem setV_int (ρ : Env) (i : Nat) (j : Int) (n : Nat) : setV ρ i (.int j, n) = ρ.set i (some (.int j, 9)) := by simp [setV, norm, D.mdep]
@[simp] theorem setV_str (ρ : Env) (i : Nat) (j : Cs) (n : Nat) : setV ρ i (.str j, n) = ρ.set i (some (.str j, 9)) := by simp [setV, norm, D.mdep]
@[simp] theorem setV_bl (ρ : Env) (i : Nat) (j : Bool) (n : Nat) : setV ρ i (.bl j, n) = ρ.set i (some (.bl j, 9)) := by simp [setV, norm, D.mdep]
@[simp] theorem setV_non (ρ : Env) (i n : Nat) : setV ρ i (.non, n) = ρ.set i (some (.non, 9)) := by simp [setV, norm, D.mdep]
def Ends (X : Out (D × Nat)) : Post := ⟨fun _ => X = .ok (.non, 9), fun p _ => X = .ok p, fun e _ => X = .exc e⟩
namespace W
@[scoped simp high] theorem R_tri (G : Glo) (cf : Runs) (L : List Nat) (ρ : Env) (b : List S) (hs : List Hdl) : exS G cf L ρ (.tri b hs) = triR G cf (exB G cf L ρ b) hs := exS_triR G cf L ρ b hs
end W
end Vy

namespace K53
open PySem PySem.Spec
open PyProof.Rows hiding St
open L2 Vy
def topS (i : Nat) : Stmt := PySem.Challenge.pw_thingyard_k53_keys_in_order.main.body.getD i (.Pass ⟨0, 0, 0, 0⟩)
abbrev s187 : Stmt := topS 5
abbrev N187 : List Str := ["bound"]
abbrev P187 : List Str := ["bound"]
def c187 : List Vy.S := [.ife (.or (.not (.isi (.var 0) .int)) (.or (.isi (.var 0) .bool) (.not (.chn .le .le (.cst (.int 0)) (.var 0) (.glb 13))))) [.rai 6 [] [.cst (.str [110, 111, 32, 98, 111, 117, 110, 100])]] []]
theorem sc187 : FnScope N187 P187 (defScope s187) := ⟨rfl, rfl, rfl, by decide +kernel, rfl, by decide +kernel, by decide +kernel⟩
abbrev s188 : Stmt := topS 6
abbrev N188 : List Str := ["rows", "key", "at"]
abbrev P188 : List Str := ["rows", "key"]
def c188 : List Vy.S := [.asg 2 (.cst (.int 0)), .whl 100000 (.and (.cmp .lt (.var 2) (.bif .len [.var 0])) (.cmp .ne (.sub (.sub (.var 0) (.var 2)) (.cst (.int 0))) (.var 1))) [.asg 2 (.bin .add (.var 2) (.cst (.int 1)))], .retv 2]
theorem sc188 : FnScope N188 P188 (defScope s188) := ⟨rfl, rfl, rfl, by decide +kernel, rfl, by decide +kernel, by decide +kernel⟩
abbrev s189 : Stmt := clsS (topS 7) 0
abbrev N189 : List Str := ["self", "bound"]
abbrev P189 : List Str := ["self", "bound"]
def c189 : List Vy.S := [.exp (.cal 187 [.var 1]), .stf ⟨0, []⟩ [98, 111, 117, 110, 100] (.var 1), .stf ⟨0, []⟩ [114, 111, 119, 115] (.lst [])]
theorem sc189 : FnScope N189 P189 (defScope s189) := ⟨rfl, rfl, rfl, by decide +kernel, rfl, by decide +kernel, by decide +kernel⟩
abbrev s190 : Stmt := clsS (topS 7) 1
abbrev N190 : List Str := ["self", "key", "at", "row"]
abbrev P190 : List Str := ["self", "key"]
def c190 : List Vy.S := [.asg 2 (.cal 188 [.fld (.var 0) [114, 111, 119, 115], .var 1]), .ife (.cmp .eq (.var 2) (.bif .len [.fld (.var 0) [114, 111, 119, 115]])) [.ret (.cst .non)] [], .asgX 3 (.mop ⟨0, [.fld [114, 111, 119, 115]]⟩ .popi [.var 2]), .expX (.mop ⟨0, [.fld [114, 111, 119, 115]]⟩ .app [.var 3]), .ret (.sub (.var 3) (.cst (.int 1)))]
theorem sc190 : FnScope N190 P190 (defScope s190) := ⟨rfl, rfl, rfl, by decide +kernel, rfl, by decide +kernel, by decide +kernel⟩
abbrev s197 : Stmt := clsS (topS 7) 2
abbrev N197 : List Str := ["self", "key", "thing", "at"]
abbrev P197 : List Str := ["self", "key", "thing"]
def c197 : List Vy.S := [.asg 3 (.cal 188 [.fld (.var 0) [114, 111, 119, 115], .var 1]), .ife (.cmp .lt (.var 3) (.bif .len [.fld (.var 0) [114, 111, 119, 115]])) [.expX (.mop ⟨0, [.fld [114, 111, 119, 115]]⟩ .popi [.var 3])] [], .expX (.mop ⟨0, [.fld [114, 111, 119, 115]]⟩ .app [.tup [.var 1, .var 2]]), .ife (.cmp .gt (.bif .len [.fld (.var 0) [114, 111, 119, 115]]) (.fld (.var 0) [98, 111, 117, 110, 100])) [.expX (.mop ⟨0, [.fld [114, 111, 119, 115]]⟩ .popi [.cst (.int 0)])] []]
theorem sc197 : FnScope N197 P197 (defScope s197) := ⟨rfl, rfl, rfl, by decide +kernel, rfl, by decide +kernel, by decide +kernel⟩
abbrev s192 : Stmt := clsS (topS 7) 3
abbrev N192 : List Str := ["self", "row"]
abbrev P192 : List Str := ["self"]
def c192 : List Vy.S := [.ret (.lc (.fld (.var 0) [114, 111, 119, 115]) (.one 1) none (.sub (.var 1) (.cst (.int 0))))]
theorem sc192 : FnScope N192 P192 (defScope s192) := ⟨rfl, rfl, rfl, by decide +kernel, rfl, by decide +kernel, by decide +kernel⟩
abbrev s4 : Stmt := topS 9
abbrev N4 : List Str := ["_law_script", "_law_k"]
abbrev P4 : List Str := ["_law_script", "_law_k"]
def c4 : List Vy.S := [.ife (.cmp .lt (.var 1) (.bif .len [.var 0])) [.ret (.sub (.var 0) (.var 1))] [], .ret (.cst (.int 0))]
theorem sc4 : FnScope N4 P4 (defScope s4) := ⟨rfl, rfl, rfl, by decide +kernel, rfl, by decide +kernel, by decide +kernel⟩
abbrev s199 : Stmt := topS 10
abbrev N199 : List Str := ["_law_cell_here", "_law_k"]
abbrev P199 : List Str := ["_law_cell_here", "_law_k"]
def c199 : List Vy.S := [.ret (.bin .mod (.bin .mul (.bin .add (.var 0) (.bin .mul (.cst (.int 7919)) (.var 1))) (.cst (.int 48271))) (.cst (.int 2147483647)))]
theorem sc199 : FnScope N199 P199 (defScope s199) := ⟨rfl, rfl, rfl, by decide +kernel, rfl, by decide +kernel, by decide +kernel⟩
abbrev s200 : Stmt := topS 11
abbrev N200 : List Str := ["_law_cell_here", "_law_deep", "_law_way", "_law_number", "_law_j", "_law_size", "_law_at"]
abbrev P200 : List Str := ["_law_cell_here", "_law_deep"]
def c200 : List Vy.S := [.asg 2 (.bin .mod (.var 0) (.cst (.int 8))), .asg 3 (.bin .sub (.bin .mod (.bin .fdv (.var 0) (.cst (.int 8))) (.cst (.int 2001))) (.cst (.int 1000))), .ife (.cmp .eq (.var 2) (.cst (.int 0))) [.retv 3] [], .ife (.cmp .eq (.var 2) (.cst (.int 1))) [.ret (.bif .str [.var 3])] [], .ife (.cmp .eq (.var 2) (.cst (.int 2))) [.ret (.sub (.lst [.cst .non, .cst (.str [78, 111, 110, 101]), .cst (.str []), .tup []]) (.bin .mod (.bin .fdv (.var 0) (.cst (.int 8))) (.cst (.int 4))))] [], .ife (.and (.cmp .eq (.var 2) (.cst (.int 3))) (.cmp .lt (.var 1) (.cst (.int 3)))) [.ret (.tup [.cal 200 [.bin .fdv (.var 0) (.cst (.int 8)), .bin .add (.var 1) (.cst (.int 1))]])] [], .ife (.and (.cmp .eq (.var 2) (.cst (.int 4))) (.cmp .lt (.var 1) (.cst (.int 3)))) [.ret (.bif .tuple [.lc (.rng [.bin .mod (.bin .fdv (.var 0) (.cst (.int 8))) (.cst (.int 7))]) (.one 4) none (.cal 200 [.cal 199 [.var 0, .var 4], .bin .add (.var 1) (.cst (.int 1))])])] [], .ife (.cmp .eq (.var 2) (.cst (.int 5))) [.ret (.sub (.lst [.cst (.int 0), .cst (.int 1), .cst (.int 2), .bin .pow (.cst (.int 10)) (.cst (.int 20)), .bin .add (.bin .pow (.cst (.int 10)) (.cst (.int 20))) (.cst (.int 1))]) (.bin .mod (.bin .fdv (.var 0) (.cst (.int 8))) (.cst (.int 5))))] [], .ife (.cmp .eq (.var 2) (.cst (.int 6))) [.asg 5 (.bin .mod (.bin .fdv (.var 0) (.cst (.int 8))) (.cst (.int 90))), .ife (.cmp .eq (.bin .mod (.bin .fdv (.var 0) (.cst (.int 720))) (.cst (.int 8))) (.cst (.int 1))) [.asg 5 (.bin .mod (.bin .fdv (.var 0) (.cst (.int 5760))) (.cst (.int 900)))] [], .asg 6 (.bin .mod (.bin .fdv (.var 0) (.cst (.int 7))) (.bin .add (.var 5) (.cst (.int 1)))), .ret (.bin .add (.bin .add (.bin .mul (.cst (.str [97])) (.var 6)) (.cst (.str [98]))) (.bin .mul (.cst (.str [97])) (.bin .sub (.var 5) (.var 6))))] [], .ret (.mth .join (.cst (.str [])) [.lc (.rng [.bin .mod (.bin .fdv (.var 0) (.cst (.int 512))) (.cst (.int 4))]) (.one 4) none (.sub (.cst (.str [97, 98, 49, 32])) (.bin .mod (.bin .fdv (.var 0) (.sub (.lst [.cst (.int 8), .cst (.int 32), .cst (.int 128)]) (.var 4))) (.cst (.int 4))))])]
theorem sc200 : FnScope N200 P200 (defScope s200) := ⟨rfl, rfl, rfl, by decide +kernel, rfl, by decide +kernel, by decide +kernel⟩
abbrev s201 : Stmt := topS 12
abbrev N201 : List Str := ["_law_cell_here", "_law_j"]
abbrev P201 : List Str := ["_law_cell_here"]
def c201 : List Vy.S := [.ret (.bif .tuple [.lc (.rng [.bin .mod (.var 0) (.cst (.int 4))]) (.one 1) none (.cal 200 [.cal 199 [.var 0, .var 1], .cst (.int 1)])])]
theorem sc201 : FnScope N201 P201 (defScope s201) := ⟨rfl, rfl, rfl, by decide +kernel, rfl, by decide +kernel, by decide +kernel⟩
abbrev s202 : Stmt := topS 13
abbrev N202 : List Str := ["_law_cell_here", "_law_some"]
abbrev P202 : List Str := ["_law_cell_here"]
def c202 : List Vy.S := [.asg 1 (.lst [.cst (.int 0), .cst (.str []), .tup [], .tup [.cst .non], .cst (.str [78, 111, 110, 101]), .tup [.cst (.str [116, 101, 120, 116]), .cst (.str [])], .bin .mod (.bin .fdv (.var 0) (.cst (.int 8))) (.cst (.int 1000)), .tup [.cst (.str [102, 97, 105, 108, 115]), .bif .str [.bin .mod (.bin .fdv (.var 0) (.cst (.int 8))) (.cst (.int 7))]]]), .ret (.sub (.var 1) (.bin .mod (.var 0) (.cst (.int 8))))]
theorem sc202 : FnScope N202 P202 (defScope s202) := ⟨rfl, rfl, rfl, by decide +kernel, rfl, by decide +kernel, by decide +kernel⟩
abbrev s206 : Stmt := topS 14
abbrev N206 : List Str := ["_law_cell_here"]
abbrev P206 : List Str := ["_law_cell_here"]
def c206 : List Vy.S := [.ife (.cmp .eq (.bin .mod (.var 0) (.cst (.int 3))) (.cst (.int 1))) [.ret (.bin .mod (.bin .fdv (.var 0) (.cst (.int 3))) (.cst (.int 41)))] [], .ret (.bin .mod (.bin .fdv (.var 0) (.cst (.int 3))) (.cst (.int 8)))]
theorem sc206 : FnScope N206 P206 (defScope s206) := ⟨rfl, rfl, rfl, by decide +kernel, rfl, by decide +kernel, by decide +kernel⟩
abbrev s207 : Stmt := topS 15
abbrev N207 : List Str := ["_law_cell_here", "_law_many_here", "_law_found", "_law_k", "_law_key_here"]
abbrev P207 : List Str := ["_law_cell_here", "_law_many_here"]
def c207 : List Vy.S := [.asg 2 (.lst []), .for_ (.one 3) (.rng [.var 1]) [.asg 4 (.cal 201 [.cal 199 [.var 0, .var 3]]), .whl 100000 (.cmp .isin (.var 4) (.var 2)) [.asg 4 (.bin .add (.var 4) (.tup [.var 3]))], .app 2 (.var 4)], .retv 2]
theorem sc207 : FnScope N207 P207 (defScope s207) := ⟨rfl, rfl, rfl, by decide +kernel, rfl, by decide +kernel, by decide +kernel⟩
abbrev s208 : Stmt := topS 16
abbrev N208 : List Str := ["_law_cell_here"]
abbrev P208 : List Str := ["_law_cell_here"]
def c208 : List Vy.S := [.ife (.cmp .eq (.bin .mod (.var 0) (.cst (.int 3))) (.cst (.int 1))) [.ret (.bin .add (.cst (.int 12)) (.bin .mod (.bin .fdv (.var 0) (.cst (.int 3))) (.cst (.int 49))))] [], .ret (.bin .add (.cst (.int 1)) (.bin .mod (.bin .fdv (.var 0) (.cst (.int 3))) (.cst (.int 11))))]
theorem sc208 : FnScope N208 P208 (defScope s208) := ⟨rfl, rfl, rfl, by decide +kernel, rfl, by decide +kernel, by decide +kernel⟩
abbrev s209 : Stmt := topS 17
abbrev N209 : List Str := ["_law_script", "_law_cell_here", "_law_k"]
abbrev P209 : List Str := ["_law_script"]
def c209 : List Vy.S := [.asg 1 (.bin .fdv (.cal 4 [.var 0, .cst (.int 2)]) (.cst (.int 147))), .ife (.cmp .eq (.bin .mod (.var 1) (.cst (.int 3))) (.cst (.int 1))) [.ret (.lc (.rng [.bin .mod (.bin .fdv (.var 1) (.cst (.int 3))) (.cst (.int 100))]) (.one 2) none (.cal 199 [.cal 4 [.var 0, .bin .add (.cst (.int 3)) (.bin .mod (.var 2) (.cst (.int 5)))], .var 2]))] [], .ret (.slc (.var 0) (some (.cst (.int 3))) none)]
theorem sc209 : FnScope N209 P209 (defScope s209) := ⟨rfl, rfl, rfl, by decide +kernel, rfl, by decide +kernel, by decide +kernel⟩
abbrev s213 : Stmt := topS 18
abbrev N213 : List Str := ["_law_used", "_law_bound_here", "_law_row", "_law_key_here"]
abbrev P213 : List Str := ["_law_used", "_law_bound_here"]
def c213 : List Vy.S := [.asg 2 (.lst []), .for_ (.one 3) (.rvl (.var 0)) [.ife (.cmp .eq (.bif .len [.var 2]) (.var 1)) [.ret (.rvl (.var 2))] [], .ife (.cmp .notin (.var 3) (.var 2)) [.app 2 (.var 3)] []], .ret (.rvl (.var 2))]
theorem sc213 : FnScope N213 P213 (defScope s213) := ⟨rfl, rfl, rfl, by decide +kernel, rfl, by decide +kernel, by decide +kernel⟩
abbrev s214 : Stmt := topS 19
abbrev N214 : List Str := ["_law_shelf", "_law_due_here", "_law_held", "_law_first", "_law_second"]
abbrev P214 : List Str := ["_law_shelf", "_law_due_here", "_law_held"]
def c214 : List Vy.S := [.asg 3 (.cal 192 [.var 0]), .ife (.or (.not (.isi (.var 3) .list)) (.cmp .ne (.var 3) (.var 1))) [.ret (.cst (.bl false))] [], .amv 2 3, .asg 4 (.cal 192 [.var 0]), .app 4 (.tup [.cst (.str [97])]), .ret (.cmp .eq (.cal 192 [.var 0]) (.var 1))]
theorem sc214 : FnScope N214 P214 (defScope s214) := ⟨rfl, rfl, rfl, by decide +kernel, rfl, by decide +kernel, by decide +kernel⟩
abbrev s215 : Stmt := topS 20
abbrev N215 : List Str := ["_law_script", "_law_bounds", "_law_keys_here", "_law_shelves", "_law_used", "_law_held", "_law_deeds_here", "_law_k", "_law_cell_here", "_law_at", "_law_key_here", "_law_due_here", "_law_pair"]
abbrev P215 : List Str := ["_law_script"]
def c215 : List Vy.S := [.asg 1 (.lst [.cal 206 [.cal 4 [.var 0, .cst (.int 0)]], .cal 206 [.bin .fdv (.cal 4 [.var 0, .cst (.int 0)]) (.cst (.int 123))]]), .asg 2 (.cal 207 [.cal 4 [.var 0, .cst (.int 1)], .cal 208 [.cal 4 [.var 0, .cst (.int 2)]]]), .asg 3 (.lst [.cal 1098 [.sub (.var 1) (.cst (.int 0))], .cal 1098 [.sub (.var 1) (.cst (.int 1))]]), .asg 4 (.lst [.lst [], .lst []]), .asg 5 (.lst []), .asg 6 (.cal 209 [.var 0]), .ife (.cmp .eq (.bin .mod (.bin .fdv (.cal 4 [.var 0, .cst (.int 2)]) (.cst (.int 441))) (.cst (.int 8))) (.cst (.int 1))) [.st ⟨1, []⟩ (.cst (.int 0)) (.bin .add (.cst (.int 41)) (.bin .mod (.bin .fdv (.cal 4 [.var 0, .cst (.int 2)]) (.cst (.int 3528))) (.cst (.int 90)))), .st ⟨3, []⟩ (.cst (.int 0)) (.cal 1098 [.sub (.var 1) (.cst (.int 0))]), .asg 2 (.cal 207 [.cal 4 [.var 0, .cst (.int 1)], .bin .add (.sub (.var 1) (.cst (.int 0))) (.cst (.int 9))]), .for_ (.one 7) (.rng [.bif .len [.var 2]]) [.expX (.ioc (some (98, [108, 97, 121])) 197 [⟨3, [.ix (.cst (.int 0))]⟩] [.io 13, .pu (.sub (.var 2) (.var 7)), .pu (.var 7)]), .expX (.mop ⟨4, [.ix (.cst (.int 0))]⟩ .app [.sub (.var 2) (.var 7)]), .ife (.cmp .eq (.bin .mod (.var 7) (.cst (.int 9))) (.cst (.int 4))) [.expX (.ioc (some (98, [108, 111, 111, 107])) 190 [⟨3, [.ix (.cst (.int 0))]⟩] [.io 13, .pu (.sub (.var 2) (.bin .fdv (.var 7) (.cst (.int 2))))]), .ife (.cmp .isin (.sub (.var 2) (.bin .fdv (.var 7) (.cst (.int 2)))) (.cal 213 [.sub (.var 4) (.cst (.int 0)), .sub (.var 1) (.cst (.int 0))])) [.expX (.mop ⟨4, [.ix (.cst (.int 0))]⟩ .app [.sub (.var 2) (.bin .fdv (.var 7) (.cst (.int 2)))])] []] []]] [], .for_ (.one 8) (.var 6) [.asg 9 (.bif .int [.cmp .eq (.bin .mod (.var 8) (.cst (.int 7))) (.cst (.int 3))]), .asg 10 (.sub (.var 2) (.bin .mod (.bin .fdv (.var 8) (.cst (.int 35))) (.bif .len [.var 2]))), .ife (.cmp .lt (.bin .mod (.bin .fdv (.var 8) (.cst (.int 7))) (.cst (.int 5))) (.cst (.int 3))) [.expX (.ioc (some (98, [108, 97, 121])) 197 [⟨3, [.ix (.var 9)]⟩] [.io 13, .pu (.var 10), .pu (.cal 202 [.bin .fdv (.var 8) (.cst (.int 35))])]), .expX (.mop ⟨4, [.ix (.var 9)]⟩ .app [.var 10])] [.expX (.ioc (some (98, [108, 111, 111, 107])) 190 [⟨3, [.ix (.var 9)]⟩] [.io 13, .pu (.var 10)]), .ife (.cmp .isin (.var 10) (.cal 213 [.sub (.var 4) (.var 9), .sub (.var 1) (.var 9)])) [.expX (.mop ⟨4, [.ix (.var 9)]⟩ .app [.var 10])] []], .asg 11 (.cal 213 [.sub (.var 4) (.var 9), .sub (.var 1) (.var 9)]), .ifX (.and (.pu (.cmp .eq (.bin .mod (.bin .fdv (.var 8) (.cst (.int 35))) (.cst (.int 4))) (.cst (.int 1)))) (.not (.iow 214 [.pu (.sub (.var 3) (.var 9)), .pu (.var 11), .io 5]))) [.ret (.cst (.bl false))] []], .for_ (.one 9) (.rng [.cst (.int 2)]) [.asg 11 (.cal 213 [.sub (.var 4) (.var 9), .sub (.var 1) (.var 9)]), .ifX (.not (.iow 214 [.pu (.sub (.var 3) (.var 9)), .pu (.var 11), .io 5])) [.ret (.cst (.bl false))] []], .ret (.bif .all [.lc (.var 5) (.one 12) none (.cmp .eq (.sub (.var 12) (.cst (.int 0))) (.sub (.var 12) (.cst (.int 1))))])]
theorem sc215 : FnScope N215 P215 (defScope s215) := ⟨rfl, rfl, rfl, by decide +kernel, rfl, by decide +kernel, by decide +kernel⟩
def nioT : List (Nat × (Nat × List Nat)) := [(187, (1, [])), (188, (2, [])), (189, (2, [0])), (190, (2, [0])), (197, (3, [0])), (192, (1, [])), (4, (2, [])), (199, (2, [])), (200, (2, [])), (201, (1, [])), (202, (1, [])), (206, (1, [])), (207, (2, [])), (208, (1, [])), (209, (1, [])), (213, (2, [])), (214, (3, [2])), (215, (1, [])), (1098, (1, []))]
def nio (f : Nat) : Option (Nat × List Nat) := lk nioT f
def coldF (_ : Nat) : Bool := true
def np (m : Bool) (f : Nat) : Option Nat := plainN (nioM coldF m nio) f
def PrT : List (Nat × Def) := [(187, ⟨1, 1, c187, [], .fn⟩), (188, ⟨2, 3, c188, [], .fn⟩), (189, ⟨2, 2, c189, [0], .me 98 [95, 95, 105, 110, 105, 116, 95, 95]⟩), (190, ⟨2, 4, c190, [0], .me 98 [108, 111, 111, 107]⟩), (197, ⟨3, 4, c197, [0], .me 98 [108, 97, 121]⟩), (192, ⟨1, 2, c192, [], .me 98 [107, 101, 121, 115, 95, 107, 101, 112, 116]⟩), (4, ⟨2, 2, c4, [], .fn⟩), (199, ⟨2, 2, c199, [], .fn⟩), (200, ⟨2, 7, c200, [], .fn⟩), (201, ⟨1, 2, c201, [], .fn⟩), (202, ⟨1, 2, c202, [], .fn⟩), (206, ⟨1, 1, c206, [], .fn⟩), (207, ⟨2, 5, c207, [], .fn⟩), (208, ⟨1, 1, c208, [], .fn⟩), (209, ⟨1, 3, c209, [], .fn⟩), (213, ⟨2, 4, c213, [], .fn⟩), (214, ⟨3, 5, c214, [2], .fn⟩), (215, ⟨1, 13, c215, [], .fn⟩), (1098, ⟨1, 0, [], [], .mk 98 189⟩)]
def Pr (f : Nat) : Option Def := lk PrT f
def fnT : List (Nat × Str) := [(187, "need_bound"), (188, "place_of"), (189, "Shelf.__init__"), (190, "Shelf.look"), (197, "Shelf.lay"), (192, "Shelf.keys_kept"), (4, "_law_cell"), (199, "_law_mixed"), (200, "_law_part"), (201, "_law_key"), (202, "_law_thing"), (206, "_law_bound"), (207, "_law_keys"), (208, "_law_many"), (209, "_law_deeds"), (213, "_law_due"), (214, "_law_stands"), (215, "law"), (1098, "Shelf")]
def mtT : List (Nat × Rc) := [(189, .me 98 [95, 95, 105, 110, 105, 116, 95, 95]), (190, .me 98 [108, 111, 111, 107]), (197, .me 98 [108, 97, 121]), (192, .me 98 [107, 101, 121, 115, 95, 107, 101, 112, 116]), (1098, .mk 98 189)]
def gnT : List (Nat × Str) := [(13, "MOST_BOUND")]
def gvT : List (Nat × D) := [(13, .int 1000)]
def exT : List (Nat × ExI) := [(1, ⟨"YardError", []⟩), (6, ⟨"BadBound", []⟩)]
def cmT : List (Nat × List Nat) := [(1, [1]), (6, [6, 1])]
def Tn : Tb := ⟨fun f => (lk fnT f).getD "", fun g => (lk gnT g).getD "", fun c => lk exT c, fun f => (lk mtT f).getD .fn, coldF, false, [[98, 111, 117, 110, 100], [114, 111, 119, 115]]⟩
def G : Glo := ⟨fun g => lk gvT g, fun c => (lk cmT c).getD []⟩
@[simp] theorem cm1 : G.cm 1 = [1] := rfl
@[simp] theorem cm6 : G.cm 6 = [6, 1] := rfl
@[simp] theorem gv13 : G.gv 13 = some (.int 1000) := rfl
def bl : List Str := ["all", "bool", "int", "isinstance", "len", "list", "range", "str", "tuple"]
set_option maxHeartbeats 4000000 in
theorem body187 {m : Bool} {CA : Nat → Addr} {X : Cx} {cf : Runs} {W : WX} (Y : Body (defScope s187) X (Tn.nm m N187) G CA cf (np m) bl W) (I : CtxI X (Tn.nm m N187) CA cf (nioM Tn.cold m nio)) (hio : cf.io = []) : PSs X (defBody s187) (tB X G CA cf W [] c187) :=
  have B := Y.en; have pas := Y.pas; have hk := Y.kd; have stk := Y.stk; have frm := Y.frm; (b_cons (s_if (PW.pt (t_or (t_not (t_val (x_isi B .int rfl rfl rfl rfl rfl rfl rfl rfl (x_var B 0 rfl rfl rfl)) (fun _ => rfl))) (t_or (t_val (x_isi B .bool rfl rfl rfl rfl rfl rfl rfl rfl (x_var B 0 rfl rfl rfl)) (fun _ => rfl)) (t_or1 (t_not (y_chn B .le .le e_int (x_var B 0 rfl rfl rfl) (x_glb B 13 rfl rfl rfl rfl) rfl)))))) (b_cons (z_rai0 B 6 rfl rfl rfl rfl rfl (by decide) (a_c rfl (e_str (s := [110, 111, 32, 98, 111, 117, 110, 100]) rfl rfl) a_nil)) b_nil) b_nil) b_nil)
set_option maxHeartbeats 4000000 in
theorem body188 {m : Bool} {CA : Nat → Addr} {X : Cx} {cf : Runs} {W : WX} (Y : Body (defScope s188) X (Tn.nm m N188) G CA cf (np m) bl W) (I : CtxI X (Tn.nm m N188) CA cf (nioM Tn.cold m nio)) (hio : cf.io = []) : PSs X (defBody s188) (tB X G CA cf W [] c188) :=
  have B := Y.en; have pas := Y.pas; have hk := Y.kd; have stk := Y.stk; have frm := Y.frm; (b_cons (z_asg B 2 rfl rfl rfl e_int) (b_cons (s_while pas (PW.pt (t_and (y_cmp B .lt (x_var B 2 rfl rfl rfl) (x_bif B .len rfl rfl rfl rfl rfl rfl (a_c rfl (x_var B 0 rfl rfl rfl) a_nil)) rfl) (t_and1 (y_cmp B .ne (x_sub B (x_sub B (x_var B 0 rfl rfl rfl) (x_var B 2 rfl rfl rfl) (fun _ _ => rfl)) e_int (fun _ _ => rfl)) (x_var B 1 rfl rfl rfl) rfl)))) (b_cons (z_asg B 2 rfl rfl rfl (e_bin (o := .add) (x_var B 2 rfl rfl rfl) e_int)) b_nil)) (b_cons (z_retv B 2 rfl rfl rfl) b_nil)))
set_option maxHeartbeats 4000000 in
theorem body189 {m : Bool} {CA : Nat → Addr} {X : Cx} {cf : Runs} {W : WX} (Y : Body (defScope s189) X (Tn.nm m N189) G CA cf (np m) bl W) (I : CtxI X (Tn.nm m N189) CA cf (nioM Tn.cold m nio)) (hio : cf.io = [0]) : PSs X (defBody s189) (tB X G CA cf W [] c189) :=
  have B := Y.en; have pas := Y.pas; have hk := Y.kd; have stk := Y.stk; have frm := Y.frm; (b_cons (s_exp (x_cal B 187 1 rfl rfl rfl rfl rfl rfl rfl (a_c rfl (x_var B 1 rfl rfl rfl) a_nil)) rfl) (b_cons (z_stf B [98, 111, 117, 110, 100] rfl rfl rfl (q_var B 0 rfl rfl rfl) (x_var B 1 rfl rfl rfl)) (b_cons (z_stf B [114, 111, 119, 115] rfl rfl rfl (q_var B 0 rfl rfl rfl) (e_lst a_nil)) b_nil)))
set_option maxHeartbeats 4000000 in
theorem body190 {m : Bool} {CA : Nat → Addr} {X : Cx} {cf : Runs} {W : WX} (Y : Body (defScope s190) X (Tn.nm m N190) G CA cf (np m) bl W) (I : CtxI X (Tn.nm m N190) CA cf (nioM Tn.cold m nio)) (hio : cf.io = [0]) : PSs X (defBody s190) (tB X G CA cf W [] c190) :=
  have B := Y.en; have pas := Y.pas; have hk := Y.kd; have stk := Y.stk; have frm := Y.frm; (b_cons (z_asg B 2 rfl rfl rfl (x_cal B 188 2 rfl rfl rfl rfl rfl rfl rfl (a_c rfl (y_fld B [114, 111, 119, 115] rfl rfl rfl (x_var B 0 rfl rfl rfl)) (a_c rfl (x_var B 1 rfl rfl rfl) a_nil)))) (b_cons (s_if (y_cmp B .eq (x_var B 2 rfl rfl rfl) (x_bif B .len rfl rfl rfl rfl rfl rfl (a_c rfl (y_fld B [114, 111, 119, 115] rfl rfl rfl (x_var B 0 rfl rfl rfl)) a_nil)) rfl) (b_cons (s_ret e_non) b_nil) b_nil) (b_cons (z_asgX B 3 rfl rfl rfl (x_mpopi (q_fld B [] [114, 111, 119, 115] rfl rfl rfl (q_var B 0 rfl rfl rfl)) (x_var B 2 rfl rfl rfl) rfl rfl rfl)) (b_cons (s_expX (x_mapp (q_fld B [] [114, 111, 119, 115] rfl rfl rfl (q_var B 0 rfl rfl rfl)) (x_var B 3 rfl rfl rfl) rfl rfl rfl) rfl) (b_cons (s_ret (x_sub B (x_var B 3 rfl rfl rfl) e_int (fun _ _ => rfl))) b_nil)))))
set_option maxHeartbeats 4000000 in
theorem body197 {m : Bool} {CA : Nat → Addr} {X : Cx} {cf : Runs} {W : WX} (Y : Body (defScope s197) X (Tn.nm m N197) G CA cf (np m) bl W) (I : CtxI X (Tn.nm m N197) CA cf (nioM Tn.cold m nio)) (hio : cf.io = [0]) : PSs X (defBody s197) (tB X G CA cf W [] c197) :=
  have B := Y.en; have pas := Y.pas; have hk := Y.kd; have stk := Y.stk; have frm := Y.frm; (b_cons (z_asg B 3 rfl rfl rfl (x_cal B 188 2 rfl rfl rfl rfl rfl rfl rfl (a_c rfl (y_fld B [114, 111, 119, 115] rfl rfl rfl (x_var B 0 rfl rfl rfl)) (a_c rfl (x_var B 1 rfl rfl rfl) a_nil)))) (b_cons (s_if (y_cmp B .lt (x_var B 3 rfl rfl rfl) (x_bif B .len rfl rfl rfl rfl rfl rfl (a_c rfl (y_fld B [114, 111, 119, 115] rfl rfl rfl (x_var B 0 rfl rfl rfl)) a_nil)) rfl) (b_cons (s_expX (x_mpopi (q_fld B [] [114, 111, 119, 115] rfl rfl rfl (q_var B 0 rfl rfl rfl)) (x_var B 3 rfl rfl rfl) rfl rfl rfl) rfl) b_nil) b_nil) (b_cons (s_expX (x_mapp (q_fld B [] [114, 111, 119, 115] rfl rfl rfl (q_var B 0 rfl rfl rfl)) (e_tup (a_c rfl (x_var B 1 rfl rfl rfl) (a_c rfl (x_var B 2 rfl rfl rfl) a_nil))) rfl rfl rfl) rfl) (b_cons (s_if (y_cmp B .gt (x_bif B .len rfl rfl rfl rfl rfl rfl (a_c rfl (y_fld B [114, 111, 119, 115] rfl rfl rfl (x_var B 0 rfl rfl rfl)) a_nil)) (y_fld B [98, 111, 117, 110, 100] rfl rfl rfl (x_var B 0 rfl rfl rfl)) rfl) (b_cons (s_expX (x_mpopi (q_fld B [] [114, 111, 119, 115] rfl rfl rfl (q_var B 0 rfl rfl rfl)) e_int rfl rfl rfl) rfl) b_nil) b_nil) b_nil))))
set_option maxHeartbeats 4000000 in
theorem body192 {m : Bool} {CA : Nat → Addr} {X : Cx} {cf : Runs} {W : WX} (Y : Body (defScope s192) X (Tn.nm m N192) G CA cf (np m) bl W) (I : CtxI X (Tn.nm m N192) CA cf (nioM Tn.cold m nio)) (hio : cf.io = []) : PSs X (defBody s192) (tB X G CA cf W [] c192) :=
  have B := Y.en; have pas := Y.pas; have hk := Y.kd; have stk := Y.stk; have frm := Y.frm; (b_cons (s_ret (x_lc1 B 1 rfl rfl rfl rfl (i_val (y_fld B [114, 111, 119, 115] rfl rfl rfl (x_var B 0 rfl rfl rfl))) (fun _ _ _ _ _ _ => ts_nil) (fun _ _ _ _ _ I => (x_sub I (x_var I 1 rfl rfl rfl) e_int (fun _ _ => rfl))))) b_nil)
set_option maxHeartbeats 4000000 in
theorem body4 {m : Bool} {CA : Nat → Addr} {X : Cx} {cf : Runs} {W : WX} (Y : Body (defScope s4) X (Tn.nm m N4) G CA cf (np m) bl W) (I : CtxI X (Tn.nm m N4) CA cf (nioM Tn.cold m nio)) (hio : cf.io = []) : PSs X (defBody s4) (tB X G CA cf W [] c4) :=
  have B := Y.en; have pas := Y.pas; have hk := Y.kd; have stk := Y.stk; have frm := Y.frm; (b_cons (s_if (y_cmp B .lt (x_var B 1 rfl rfl rfl) (x_bif B .len rfl rfl rfl rfl rfl rfl (a_c rfl (x_var B 0 rfl rfl rfl) a_nil)) rfl) (b_cons (s_ret (x_sub B (x_var B 0 rfl rfl rfl) (x_var B 1 rfl rfl rfl) (fun _ _ => rfl))) b_nil) b_nil) (b_cons (s_ret e_int) b_nil))
set_option maxHeartbeats 4000000 in
theorem body199 {m : Bool} {CA : Nat → Addr} {X : Cx} {cf : Runs} {W : WX} (Y : Body (defScope s199) X (Tn.nm m N199) G CA cf (np m) bl W) (I : CtxI X (Tn.nm m N199) CA cf (nioM Tn.cold m nio)) (hio : cf.io = []) : PSs X (defBody s199) (tB X G CA cf W [] c199) :=
  have B := Y.en; have pas := Y.pas; have hk := Y.kd; have stk := Y.stk; have frm := Y.frm; (b_cons (s_ret (e_bin (o := .mod) (e_bin (o := .mul) (e_bin (o := .add) (x_var B 0 rfl rfl rfl) (e_bin (o := .mul) e_int (x_var B 1 rfl rfl rfl))) e_int) e_int)) b_nil)
set_option maxHeartbeats 4000000 in
theorem body200 {m : Bool} {CA : Nat → Addr} {X : Cx} {cf : Runs} {W : WX} (Y : Body (defScope s200) X (Tn.nm m N200) G CA cf (np m) bl W) (I : CtxI X (Tn.nm m N200) CA cf (nioM Tn.cold m nio)) (hio : cf.io = []) : PSs X (defBody s200) (tB X G CA cf W [] c200) :=
  have B := Y.en; have pas := Y.pas; have hk := Y.kd; have stk := Y.stk; have frm := Y.frm; (b_cons (z_asg B 2 rfl rfl rfl (e_bin (o := .mod) (x_var B 0 rfl rfl rfl) e_int)) (b_cons (z_asg B 3 rfl rfl rfl (e_bin (o := .sub) (e_bin (o := .mod) (e_bin (o := .fdv) (x_var B 0 rfl rfl rfl) e_int) e_int) e_int)) (b_cons (s_if (y_cmp B .eq (x_var B 2 rfl rfl rfl) e_int rfl) (b_cons (z_retv B 3 rfl rfl rfl) b_nil) b_nil) (b_cons (s_if (y_cmp B .eq (x_var B 2 rfl rfl rfl) e_int rfl) (b_cons (s_ret (x_bif B .str rfl rfl rfl rfl rfl rfl (a_c rfl (x_var B 3 rfl rfl rfl) a_nil))) b_nil) b_nil) (b_cons (s_if (y_cmp B .eq (x_var B 2 rfl rfl rfl) e_int rfl) (b_cons (s_ret (x_sub B (e_lst (a_c rfl e_non (a_c rfl (e_str (s := [78, 111, 110, 101]) rfl rfl) (a_c rfl (e_str (s := []) rfl rfl) (a_c rfl (e_tup a_nil) a_nil))))) (e_bin (o := .mod) (e_bin (o := .fdv) (x_var B 0 rfl rfl rfl) e_int) e_int) (fun _ _ => rfl))) b_nil) b_nil) (b_cons (s_if (PW.pt (t_and (y_cmp B .eq (x_var B 2 rfl rfl rfl) e_int rfl) (t_and1 (y_cmp B .lt (x_var B 1 rfl rfl rfl) e_int rfl)))) (b_cons (s_ret (e_tup (a_c rfl (x_cal B 200 2 rfl rfl rfl rfl rfl rfl rfl (a_c rfl (e_bin (o := .fdv) (x_var B 0 rfl rfl rfl) e_int) (a_c rfl (e_bin (o := .add) (x_var B 1 rfl rfl rfl) e_int) a_nil))) a_nil))) b_nil) b_nil) (b_cons (s_if (PW.pt (t_and (y_cmp B .eq (x_var B 2 rfl rfl rfl) e_int rfl) (t_and1 (y_cmp B .lt (x_var B 1 rfl rfl rfl) e_int rfl)))) (b_cons (s_ret (x_bif B .tuple rfl rfl rfl rfl rfl rfl (a_c rfl (x_lc1 B 4 rfl rfl rfl rfl (r_1 B rfl rfl rfl (e_bin (o := .mod) (e_bin (o := .fdv) (x_var B 0 rfl rfl rfl) e_int) e_int)) (fun _ _ _ _ _ _ => ts_nil) (fun _ _ _ _ _ I => (x_cal I 200 2 rfl rfl rfl rfl rfl rfl rfl (a_c rfl (x_cal I 199 2 rfl rfl rfl rfl rfl rfl rfl (a_c rfl (x_var I 0 rfl rfl rfl) (a_c rfl (x_var I 4 rfl rfl rfl) a_nil))) (a_c rfl (e_bin (o := .add) (x_var I 1 rfl rfl rfl) e_int) a_nil))))) a_nil))) b_nil) b_nil) (b_cons (s_if (y_cmp B .eq (x_var B 2 rfl rfl rfl) e_int rfl) (b_cons (s_ret (x_sub B (e_lst (a_c rfl e_int (a_c rfl e_int (a_c rfl e_int (a_c rfl (e_bin (o := .pow) e_int e_int) (a_c rfl (e_bin (o := .add) (e_bin (o := .pow) e_int e_int) e_int) a_nil)))))) (e_bin (o := .mod) (e_bin (o := .fdv) (x_var B 0 rfl rfl rfl) e_int) e_int) (fun _ _ => rfl))) b_nil) b_nil) (b_cons (s_if (y_cmp B .eq (x_var B 2 rfl rfl rfl) e_int rfl) (b_cons (z_asg B 5 rfl rfl rfl (e_bin (o := .mod) (e_bin (o := .fdv) (x_var B 0 rfl rfl rfl) e_int) e_int)) (b_cons (s_if (y_cmp B .eq (e_bin (o := .mod) (e_bin (o := .fdv) (x_var B 0 rfl rfl rfl) e_int) e_int) e_int rfl) (b_cons (z_asg B 5 rfl rfl rfl (e_bin (o := .mod) (e_bin (o := .fdv) (x_var B 0 rfl rfl rfl) e_int) e_int)) b_nil) b_nil) (b_cons (z_asg B 6 rfl rfl rfl (e_bin (o := .mod) (e_bin (o := .fdv) (x_var B 0 rfl rfl rfl) e_int) (e_bin (o := .add) (x_var B 5 rfl rfl rfl) e_int))) (b_cons (s_ret (e_bin (o := .add) (e_bin (o := .add) (e_bin (o := .mul) (e_str (s := [97]) rfl rfl) (x_var B 6 rfl rfl rfl)) (e_str (s := [98]) rfl rfl)) (e_bin (o := .mul) (e_str (s := [97]) rfl rfl) (e_bin (o := .sub) (x_var B 5 rfl rfl rfl) (x_var B 6 rfl rfl rfl))))) b_nil)))) b_nil) (b_cons (s_ret (e_join (e_str (s := []) rfl rfl) (x_lc1 B 4 rfl rfl rfl rfl (r_1 B rfl rfl rfl (e_bin (o := .mod) (e_bin (o := .fdv) (x_var B 0 rfl rfl rfl) e_int) e_int)) (fun _ _ _ _ _ _ => ts_nil) (fun _ _ _ _ _ I => (x_sub I (e_str (s := [97, 98, 49, 32]) rfl rfl) (e_bin (o := .mod) (e_bin (o := .fdv) (x_var I 0 rfl rfl rfl) (x_sub I (e_lst (a_c rfl e_int (a_c rfl e_int (a_c rfl e_int a_nil)))) (x_var I 4 rfl rfl rfl) (fun _ _ => rfl))) e_int) (fun _ _ => rfl)))) rfl rfl rfl)) b_nil))))))))))
set_option maxHeartbeats 4000000 in
theorem body201 {m : Bool} {CA : Nat → Addr} {X : Cx} {cf : Runs} {W : WX} (Y : Body (defScope s201) X (Tn.nm m N201) G CA cf (np m) bl W) (I : CtxI X (Tn.nm m N201) CA cf (nioM Tn.cold m nio)) (hio : cf.io = []) : PSs X (defBody s201) (tB X G CA cf W [] c201) :=
  have B := Y.en; have pas := Y.pas; have hk := Y.kd; have stk := Y.stk; have frm := Y.frm; (b_cons (s_ret (x_bif B .tuple rfl rfl rfl rfl rfl rfl (a_c rfl (x_lc1 B 1 rfl rfl rfl rfl (r_1 B rfl rfl rfl (e_bin (o := .mod) (x_var B 0 rfl rfl rfl) e_int)) (fun _ _ _ _ _ _ => ts_nil) (fun _ _ _ _ _ I => (x_cal I 200 2 rfl rfl rfl rfl rfl rfl rfl (a_c rfl (x_cal I 199 2 rfl rfl rfl rfl rfl rfl rfl (a_c rfl (x_var I 0 rfl rfl rfl) (a_c rfl (x_var I 1 rfl rfl rfl) a_nil))) (a_c rfl e_int a_nil))))) a_nil))) b_nil)
set_option maxHeartbeats 4000000 in
theorem body202 {m : Bool} {CA : Nat → Addr} {X : Cx} {cf : Runs} {W : WX} (Y : Body (defScope s202) X (Tn.nm m N202) G CA cf (np m) bl W) (I : CtxI X (Tn.nm m N202) CA cf (nioM Tn.cold m nio)) (hio : cf.io = []) : PSs X (defBody s202) (tB X G CA cf W [] c202) :=
  have B := Y.en; have pas := Y.pas; have hk := Y.kd; have stk := Y.stk; have frm := Y.frm; (b_cons (z_asg B 1 rfl rfl rfl (e_lst (a_c rfl e_int (a_c rfl (e_str (s := []) rfl rfl) (a_c rfl (e_tup a_nil) (a_c rfl (e_tup (a_c rfl e_non a_nil)) (a_c rfl (e_str (s := [78, 111, 110, 101]) rfl rfl) (a_c rfl (e_tup (a_c rfl (e_str (s := [116, 101, 120, 116]) rfl rfl) (a_c rfl (e_str (s := []) rfl rfl) a_nil))) (a_c rfl (e_bin (o := .mod) (e_bin (o := .fdv) (x_var B 0 rfl rfl rfl) e_int) e_int) (a_c rfl (e_tup (a_c rfl (e_str (s := [102, 97, 105, 108, 115]) rfl rfl) (a_c rfl (x_bif B .str rfl rfl rfl rfl rfl rfl (a_c rfl (e_bin (o := .mod) (e_bin (o := .fdv) (x_var B 0 rfl rfl rfl) e_int) e_int) a_nil)) a_nil))) a_nil)))))))))) (b_cons (s_ret (x_sub B (x_var B 1 rfl rfl rfl) (e_bin (o := .mod) (x_var B 0 rfl rfl rfl) e_int) (fun _ _ => rfl))) b_nil))
set_option maxHeartbeats 4000000 in
theorem body206 {m : Bool} {CA : Nat → Addr} {X : Cx} {cf : Runs} {W : WX} (Y : Body (defScope s206) X (Tn.nm m N206) G CA cf (np m) bl W) (I : CtxI X (Tn.nm m N206) CA cf (nioM Tn.cold m nio)) (hio : cf.io = []) : PSs X (defBody s206) (tB X G CA cf W [] c206) :=
  have B := Y.en; have pas := Y.pas; have hk := Y.kd; have stk := Y.stk; have frm := Y.frm; (b_cons (s_if (y_cmp B .eq (e_bin (o := .mod) (x_var B 0 rfl rfl rfl) e_int) e_int rfl) (b_cons (s_ret (e_bin (o := .mod) (e_bin (o := .fdv) (x_var B 0 rfl rfl rfl) e_int) e_int)) b_nil) b_nil) (b_cons (s_ret (e_bin (o := .mod) (e_bin (o := .fdv) (x_var B 0 rfl rfl rfl) e_int) e_int)) b_nil))
set_option maxHeartbeats 4000000 in
theorem body207 {m : Bool} {CA : Nat → Addr} {X : Cx} {cf : Runs} {W : WX} (Y : Body (defScope s207) X (Tn.nm m N207) G CA cf (np m) bl W) (I : CtxI X (Tn.nm m N207) CA cf (nioM Tn.cold m nio)) (hio : cf.io = []) : PSs X (defBody s207) (tB X G CA cf W [] c207) :=
  have B := Y.en; have pas := Y.pas; have hk := Y.kd; have stk := Y.stk; have frm := Y.frm; (b_cons (z_asg B 2 rfl rfl rfl (e_lst a_nil)) (b_cons (z_for1 B pas 3 rfl rfl rfl (r_1 B rfl rfl rfl (x_var B 1 rfl rfl rfl)) (fun _ => (b_cons (z_asg B 4 rfl rfl rfl (x_cal B 201 1 rfl rfl rfl rfl rfl rfl rfl (a_c rfl (x_cal B 199 2 rfl rfl rfl rfl rfl rfl rfl (a_c rfl (x_var B 0 rfl rfl rfl) (a_c rfl (x_var B 3 rfl rfl rfl) a_nil))) a_nil))) (b_cons (s_while pas (y_cmp B .isin (x_var B 4 rfl rfl rfl) (x_var B 2 rfl rfl rfl) rfl) (b_cons (z_asg B 4 rfl rfl rfl (e_bin (o := .add) (x_var B 4 rfl rfl rfl) (e_tup (a_c rfl (x_var B 3 rfl rfl rfl) a_nil)))) b_nil)) (b_cons (z_app B 2 rfl rfl rfl rfl rfl (x_var B 4 rfl rfl rfl)) b_nil))))) (b_cons (z_retv B 2 rfl rfl rfl) b_nil)))
set_option maxHeartbeats 4000000 in
theorem body208 {m : Bool} {CA : Nat → Addr} {X : Cx} {cf : Runs} {W : WX} (Y : Body (defScope s208) X (Tn.nm m N208) G CA cf (np m) bl W) (I : CtxI X (Tn.nm m N208) CA cf (nioM Tn.cold m nio)) (hio : cf.io = []) : PSs X (defBody s208) (tB X G CA cf W [] c208) :=
  have B := Y.en; have pas := Y.pas; have hk := Y.kd; have stk := Y.stk; have frm := Y.frm; (b_cons (s_if (y_cmp B .eq (e_bin (o := .mod) (x_var B 0 rfl rfl rfl) e_int) e_int rfl) (b_cons (s_ret (e_bin (o := .add) e_int (e_bin (o := .mod) (e_bin (o := .fdv) (x_var B 0 rfl rfl rfl) e_int) e_int))) b_nil) b_nil) (b_cons (s_ret (e_bin (o := .add) e_int (e_bin (o := .mod) (e_bin (o := .fdv) (x_var B 0 rfl rfl rfl) e_int) e_int))) b_nil))
set_option maxHeartbeats 4000000 in
theorem body209 {m : Bool} {CA : Nat → Addr} {X : Cx} {cf : Runs} {W : WX} (Y : Body (defScope s209) X (Tn.nm m N209) G CA cf (np m) bl W) (I : CtxI X (Tn.nm m N209) CA cf (nioM Tn.cold m nio)) (hio : cf.io = []) : PSs X (defBody s209) (tB X G CA cf W [] c209) :=
  have B := Y.en; have pas := Y.pas; have hk := Y.kd; have stk := Y.stk; have frm := Y.frm; (b_cons (z_asg B 1 rfl rfl rfl (e_bin (o := .fdv) (x_cal B 4 2 rfl rfl rfl rfl rfl rfl rfl (a_c rfl (x_var B 0 rfl rfl rfl) (a_c rfl e_int a_nil))) e_int)) (b_cons (s_if (y_cmp B .eq (e_bin (o := .mod) (x_var B 1 rfl rfl rfl) e_int) e_int rfl) (b_cons (s_ret (x_lc1 B 2 rfl rfl rfl rfl (r_1 B rfl rfl rfl (e_bin (o := .mod) (e_bin (o := .fdv) (x_var B 1 rfl rfl rfl) e_int) e_int)) (fun _ _ _ _ _ _ => ts_nil) (fun _ _ _ _ _ I => (x_cal I 199 2 rfl rfl rfl rfl rfl rfl rfl (a_c rfl (x_cal I 4 2 rfl rfl rfl rfl rfl rfl rfl (a_c rfl (x_var I 0 rfl rfl rfl) (a_c rfl (e_bin (o := .add) e_int (e_bin (o := .mod) (x_var I 2 rfl rfl rfl) e_int)) a_nil))) (a_c rfl (x_var I 2 rfl rfl rfl) a_nil)))))) b_nil) b_nil) (b_cons (s_ret (e_slc (x_var B 0 rfl rfl rfl) (o_some e_int) o_none)) b_nil)))
set_option maxHeartbeats 4000000 in
theorem body213 {m : Bool} {CA : Nat → Addr} {X : Cx} {cf : Runs} {W : WX} (Y : Body (defScope s213) X (Tn.nm m N213) G CA cf (np m) bl W) (I : CtxI X (Tn.nm m N213) CA cf (nioM Tn.cold m nio)) (hio : cf.io = []) : PSs X (defBody s213) (tB X G CA cf W [] c213) :=
  have B := Y.en; have pas := Y.pas; have hk := Y.kd; have stk := Y.stk; have frm := Y.frm; (b_cons (z_asg B 2 rfl rfl rfl (e_lst a_nil)) (b_cons (z_for1 B pas 3 rfl rfl rfl (i_val (e_rvl (x_var B 0 rfl rfl rfl))) (fun _ => (b_cons (s_if (y_cmp B .eq (x_bif B .len rfl rfl rfl rfl rfl rfl (a_c rfl (x_var B 2 rfl rfl rfl) a_nil)) (x_var B 1 rfl rfl rfl) rfl) (b_cons (s_ret (e_rvl (x_var B 2 rfl rfl rfl))) b_nil) b_nil) (b_cons (s_if (y_cmp B .notin (x_var B 3 rfl rfl rfl) (x_var B 2 rfl rfl rfl) rfl) (b_cons (z_app B 2 rfl rfl rfl rfl rfl (x_var B 3 rfl rfl rfl)) b_nil) b_nil) b_nil)))) (b_cons (s_ret (e_rvl (x_var B 2 rfl rfl rfl))) b_nil)))
set_option maxHeartbeats 4000000 in
theorem body214 {m : Bool} {CA : Nat → Addr} {X : Cx} {cf : Runs} {W : WX} (Y : Body (defScope s214) X (Tn.nm m N214) G CA cf (np m) bl W) (I : CtxI X (Tn.nm m N214) CA cf (nioM Tn.cold m nio)) (hio : cf.io = [2]) : PSs X (defBody s214) (tB X G CA cf W [] c214) :=
  have B := Y.en; have pas := Y.pas; have hk := Y.kd; have stk := Y.stk; have frm := Y.frm; (b_cons (z_asg B 3 rfl rfl rfl (x_me0 B 192 98 [107, 101, 121, 115, 95, 107, 101, 112, 116] rfl rfl rfl (x_var B 0 rfl rfl rfl) rfl)) (b_cons (s_if (PW.pt (t_or (t_not (t_val (x_isi B .list rfl rfl rfl rfl rfl rfl rfl rfl (x_var B 3 rfl rfl rfl)) (fun _ => rfl))) (t_or1 (y_cmp B .ne (x_var B 3 rfl rfl rfl) (x_var B 1 rfl rfl rfl) rfl)))) (b_cons (s_ret e_bl) b_nil) b_nil) (b_cons (z_amv B 2 3 rfl rfl rfl rfl rfl rfl rfl rfl rfl) (b_cons (z_asg B 4 rfl rfl rfl (x_me0 B 192 98 [107, 101, 121, 115, 95, 107, 101, 112, 116] rfl rfl rfl (x_var B 0 rfl rfl rfl) rfl)) (b_cons (z_app B 4 rfl rfl rfl rfl rfl (e_tup (a_c rfl (e_str (s := [97]) rfl rfl) a_nil))) (b_cons (s_ret (x_cmp B .eq (x_me0 B 192 98 [107, 101, 121, 115, 95, 107, 101, 112, 116] rfl rfl rfl (x_var B 0 rfl rfl rfl) rfl) (x_var B 1 rfl rfl rfl) rfl)) b_nil))))))
set_option maxHeartbeats 4000000 in
theorem body215 {m : Bool} {CA : Nat → Addr} {X : Cx} {cf : Runs} {W : WX} (Y : Body (defScope s215) X (Tn.nm m N215) G CA cf (np m) bl W) (I : CtxI X (Tn.nm m N215) CA cf (nioM Tn.cold m nio)) (hio : cf.io = []) : PSs X (defBody s215) (tB X G CA cf W [] c215) :=
  have B := Y.en; have pas := Y.pas; have hk := Y.kd; have stk := Y.stk; have frm := Y.frm; (b_cons (z_asg B 1 rfl rfl rfl (e_lst (a_c rfl (x_cal B 206 1 rfl rfl rfl rfl rfl rfl rfl (a_c rfl (x_cal B 4 2 rfl rfl rfl rfl rfl rfl rfl (a_c rfl (x_var B 0 rfl rfl rfl) (a_c rfl e_int a_nil))) a_nil)) (a_c rfl (x_cal B 206 1 rfl rfl rfl rfl rfl rfl rfl (a_c rfl (e_bin (o := .fdv) (x_cal B 4 2 rfl rfl rfl rfl rfl rfl rfl (a_c rfl (x_var B 0 rfl rfl rfl) (a_c rfl e_int a_nil))) e_int) a_nil)) a_nil)))) (b_cons (z_asg B 2 rfl rfl rfl (x_cal B 207 2 rfl rfl rfl rfl rfl rfl rfl (a_c rfl (x_cal B 4 2 rfl rfl rfl rfl rfl rfl rfl (a_c rfl (x_var B 0 rfl rfl rfl) (a_c rfl e_int a_nil))) (a_c rfl (x_cal B 208 1 rfl rfl rfl rfl rfl rfl rfl (a_c rfl (x_cal B 4 2 rfl rfl rfl rfl rfl rfl rfl (a_c rfl (x_var B 0 rfl rfl rfl) (a_c rfl e_int a_nil))) a_nil)) a_nil)))) (b_cons (z_asg B 3 rfl rfl rfl (e_lst (a_c rfl (x_mk B 1098 1 98 189 rfl rfl rfl rfl rfl rfl rfl (a_c rfl (x_sub B (x_var B 1 rfl rfl rfl) e_int (fun _ _ => rfl)) a_nil)) (a_c rfl (x_mk B 1098 1 98 189 rfl rfl rfl rfl rfl rfl rfl (a_c rfl (x_sub B (x_var B 1 rfl rfl rfl) e_int (fun _ _ => rfl)) a_nil)) a_nil)))) (b_cons (z_asg B 4 rfl rfl rfl (e_lst (a_c rfl (e_lst a_nil) (a_c rfl (e_lst a_nil) a_nil)))) (b_cons (z_asg B 5 rfl rfl rfl (e_lst a_nil)) (b_cons (z_asg B 6 rfl rfl rfl (x_cal B 209 1 rfl rfl rfl rfl rfl rfl rfl (a_c rfl (x_var B 0 rfl rfl rfl) a_nil))) (b_cons (s_if (y_cmp B .eq (e_bin (o := .mod) (e_bin (o := .fdv) (x_cal B 4 2 rfl rfl rfl rfl rfl rfl rfl (a_c rfl (x_var B 0 rfl rfl rfl) (a_c rfl e_int a_nil))) e_int) e_int) e_int rfl) (b_cons (z_st B (q_var B 1 rfl rfl rfl) e_int (e_bin (o := .add) e_int (e_bin (o := .mod) (e_bin (o := .fdv) (x_cal B 4 2 rfl rfl rfl rfl rfl rfl rfl (a_c rfl (x_var B 0 rfl rfl rfl) (a_c rfl e_int a_nil))) e_int) e_int)) rfl (fun _ => rfl)) (b_cons (z_st B (q_var B 3 rfl rfl rfl) e_int (x_mk B 1098 1 98 189 rfl rfl rfl rfl rfl rfl rfl (a_c rfl (x_sub B (x_var B 1 rfl rfl rfl) e_int (fun _ _ => rfl)) a_nil)) rfl (fun _ => rfl)) (b_cons (z_asg B 2 rfl rfl rfl (x_cal B 207 2 rfl rfl rfl rfl rfl rfl rfl (a_c rfl (x_cal B 4 2 rfl rfl rfl rfl rfl rfl rfl (a_c rfl (x_var B 0 rfl rfl rfl) (a_c rfl e_int a_nil))) (a_c rfl (e_bin (o := .add) (x_sub B (x_var B 1 rfl rfl rfl) e_int (fun _ _ => rfl)) e_int) a_nil)))) (b_cons (z_for1 B pas 7 rfl rfl rfl (r_1 B rfl rfl rfl (x_bif B .len rfl rfl rfl rfl rfl rfl (a_c rfl (x_var B 2 rfl rfl rfl) a_nil))) (fun _ => (b_cons (s_expX (x_iom B I 197 3 98 [108, 97, 121] (N := 13) (ps := [⟨3, [.ix (.cst (.int 0))]⟩]) rfl rfl rfl rfl rfl rfl (.ip (t := 0) rfl (q_ix B [] (q_var B 3 rfl rfl rfl) e_int (fun _ _ => rfl))) (.pu rfl (x_sub B (x_var B 2 rfl rfl rfl) (x_var B 7 rfl rfl rfl) (fun _ _ => rfl)) (.pu rfl (x_var B 7 rfl rfl rfl) .nil)) rfl) rfl) (b_cons (s_expX (x_mapp (q_ix B [] (q_var B 4 rfl rfl rfl) e_int (fun _ _ => rfl)) (x_sub B (x_var B 2 rfl rfl rfl) (x_var B 7 rfl rfl rfl) (fun _ _ => rfl)) rfl rfl rfl) rfl) (b_cons (s_if (y_cmp B .eq (e_bin (o := .mod) (x_var B 7 rfl rfl rfl) e_int) e_int rfl) (b_cons (s_expX (x_iom B I 190 2 98 [108, 111, 111, 107] (N := 13) (ps := [⟨3, [.ix (.cst (.int 0))]⟩]) rfl rfl rfl rfl rfl rfl (.ip (t := 0) rfl (q_ix B [] (q_var B 3 rfl rfl rfl) e_int (fun _ _ => rfl))) (.pu rfl (x_sub B (x_var B 2 rfl rfl rfl) (e_bin (o := .fdv) (x_var B 7 rfl rfl rfl) e_int) (fun _ _ => rfl)) .nil) rfl) rfl) (b_cons (s_if (y_cmp B .isin (x_sub B (x_var B 2 rfl rfl rfl) (e_bin (o := .fdv) (x_var B 7 rfl rfl rfl) e_int) (fun _ _ => rfl)) (x_cal B 213 2 rfl rfl rfl rfl rfl rfl rfl (a_c rfl (x_sub B (x_var B 4 rfl rfl rfl) e_int (fun _ _ => rfl)) (a_c rfl (x_sub B (x_var B 1 rfl rfl rfl) e_int (fun _ _ => rfl)) a_nil))) rfl) (b_cons (s_expX (x_mapp (q_ix B [] (q_var B 4 rfl rfl rfl) e_int (fun _ _ => rfl)) (x_sub B (x_var B 2 rfl rfl rfl) (e_bin (o := .fdv) (x_var B 7 rfl rfl rfl) e_int) (fun _ _ => rfl)) rfl rfl rfl) rfl) b_nil) b_nil) b_nil)) b_nil) b_nil))))) b_nil)))) b_nil) (b_cons (z_for1 B pas 8 rfl rfl rfl (i_val (x_var B 6 rfl rfl rfl)) (fun _ => (b_cons (z_asg B 9 rfl rfl rfl (x_bif B .int rfl rfl rfl rfl rfl rfl (a_c rfl (x_cmp B .eq (e_bin (o := .mod) (x_var B 8 rfl rfl rfl) e_int) e_int rfl) a_nil))) (b_cons (z_asg B 10 rfl rfl rfl (x_sub B (x_var B 2 rfl rfl rfl) (e_bin (o := .mod) (e_bin (o := .fdv) (x_var B 8 rfl rfl rfl) e_int) (x_bif B .len rfl rfl rfl rfl rfl rfl (a_c rfl (x_var B 2 rfl rfl rfl) a_nil))) (fun _ _ => rfl))) (b_cons (s_if (y_cmp B .lt (e_bin (o := .mod) (e_bin (o := .fdv) (x_var B 8 rfl rfl rfl) e_int) e_int) e_int rfl) (b_cons (s_expX (x_iom B I 197 3 98 [108, 97, 121] (N := 13) (ps := [⟨3, [.ix (.var 9)]⟩]) rfl rfl rfl rfl rfl rfl (.ip (t := 0) rfl (q_ix B [] (q_var B 3 rfl rfl rfl) (x_var B 9 rfl rfl rfl) (fun _ _ => rfl))) (.pu rfl (x_var B 10 rfl rfl rfl) (.pu rfl (x_cal B 202 1 rfl rfl rfl rfl rfl rfl rfl (a_c rfl (e_bin (o := .fdv) (x_var B 8 rfl rfl rfl) e_int) a_nil)) .nil)) rfl) rfl) (b_cons (s_expX (x_mapp (q_ix B [] (q_var B 4 rfl rfl rfl) (x_var B 9 rfl rfl rfl) (fun _ _ => rfl)) (x_var B 10 rfl rfl rfl) rfl rfl rfl) rfl) b_nil)) (b_cons (s_expX (x_iom B I 190 2 98 [108, 111, 111, 107] (N := 13) (ps := [⟨3, [.ix (.var 9)]⟩]) rfl rfl rfl rfl rfl rfl (.ip (t := 0) rfl (q_ix B [] (q_var B 3 rfl rfl rfl) (x_var B 9 rfl rfl rfl) (fun _ _ => rfl))) (.pu rfl (x_var B 10 rfl rfl rfl) .nil) rfl) rfl) (b_cons (s_if (y_cmp B .isin (x_var B 10 rfl rfl rfl) (x_cal B 213 2 rfl rfl rfl rfl rfl rfl rfl (a_c rfl (x_sub B (x_var B 4 rfl rfl rfl) (x_var B 9 rfl rfl rfl) (fun _ _ => rfl)) (a_c rfl (x_sub B (x_var B 1 rfl rfl rfl) (x_var B 9 rfl rfl rfl) (fun _ _ => rfl)) a_nil))) rfl) (b_cons (s_expX (x_mapp (q_ix B [] (q_var B 4 rfl rfl rfl) (x_var B 9 rfl rfl rfl) (fun _ _ => rfl)) (x_var B 10 rfl rfl rfl) rfl rfl rfl) rfl) b_nil) b_nil) b_nil))) (b_cons (z_asg B 11 rfl rfl rfl (x_cal B 213 2 rfl rfl rfl rfl rfl rfl rfl (a_c rfl (x_sub B (x_var B 4 rfl rfl rfl) (x_var B 9 rfl rfl rfl) (fun _ _ => rfl)) (a_c rfl (x_sub B (x_var B 1 rfl rfl rfl) (x_var B 9 rfl rfl rfl) (fun _ _ => rfl)) a_nil)))) (b_cons (s_ifX (PW.pt (tt_and (tt_pu (y_cmp B .eq (e_bin (o := .mod) (e_bin (o := .fdv) (x_var B 8 rfl rfl rfl) e_int) e_int) e_int rfl)) (tt_and1 (tt_not (tt_val (x_iow B I 214 3 rfl rfl rfl rfl rfl rfl rfl rfl (.pu rfl (x_sub B (x_var B 3 rfl rfl rfl) (x_var B 9 rfl rfl rfl) (fun _ _ => rfl)) (.pu rfl (x_var B 11 rfl rfl rfl) (aw_io B 5 rfl rfl rfl .nil)))) (fun _ => rfl)))))) (b_cons (s_ret e_bl) b_nil) b_nil) b_nil))))))) (b_cons (z_for1 B pas 9 rfl rfl rfl (r_1 B rfl rfl rfl e_int) (fun _ => (b_cons (z_asg B 11 rfl rfl rfl (x_cal B 213 2 rfl rfl rfl rfl rfl rfl rfl (a_c rfl (x_sub B (x_var B 4 rfl rfl rfl) (x_var B 9 rfl rfl rfl) (fun _ _ => rfl)) (a_c rfl (x_sub B (x_var B 1 rfl rfl rfl) (x_var B 9 rfl rfl rfl) (fun _ _ => rfl)) a_nil)))) (b_cons (s_ifX (tt_not (tt_val (x_iow B I 214 3 rfl rfl rfl rfl rfl rfl rfl rfl (.pu rfl (x_sub B (x_var B 3 rfl rfl rfl) (x_var B 9 rfl rfl rfl) (fun _ _ => rfl)) (.pu rfl (x_var B 11 rfl rfl rfl) (aw_io B 5 rfl rfl rfl .nil)))) (fun _ => rfl))) (b_cons (s_ret e_bl) b_nil) b_nil) b_nil)))) (b_cons (s_ret (x_bif B .all rfl rfl rfl rfl rfl rfl (a_c rfl (x_lc1 B 12 rfl rfl rfl rfl (i_val (x_var B 5 rfl rfl rfl)) (fun _ _ _ _ _ _ => ts_nil) (fun _ _ _ _ _ I => (x_cmp I .eq (x_sub I (x_var I 12 rfl rfl rfl) e_int (fun _ _ => rfl)) (x_sub I (x_var I 12 rfl rfl rfl) e_int (fun _ _ => rfl)) rfl))) a_nil))) b_nil))))))))))
theorem r187 (k : Nat) (a0 : D) : run G Pr (k+1) 187 [a0] = outS (exB G (run G Pr k) [] [some (norm (a0, 0))] c187) := run_eq G Pr k 187 [a0] ⟨1, 1, c187, [], .fn⟩ rfl rfl rfl rfl
theorem r188 (k : Nat) (a0 a1 : D) : run G Pr (k+1) 188 [a0, a1] = outS (exB G (run G Pr k) [] [some (norm (a0, 0)), some (norm (a1, 0)), none] c188) := run_eq G Pr k 188 [a0, a1] ⟨2, 3, c188, [], .fn⟩ rfl rfl rfl rfl
theorem ri189 (k : Nat) (ps : List (D × Nat)) (h : ps.length = 2) (hg : gdB (.me 98 [95, 95, 105, 110, 105, 116, 95, 95]) ps = true) : runI G Pr (k+1) 189 ps = outI [0] (exB G ((run G Pr k).wio [0]) [] (initI 2 ps) c189) := runI_g G Pr k 189 ps ⟨2, 2, c189, [0], .me 98 [95, 95, 105, 110, 105, 116, 95, 95]⟩ rfl h (fun _ _ h => nomatch h) hg
theorem ri190 (k : Nat) (ps : List (D × Nat)) (h : ps.length = 2) (hg : gdB (.me 98 [108, 111, 111, 107]) ps = true) : runI G Pr (k+1) 190 ps = outI [0] (exB G ((run G Pr k).wio [0]) [] (initI 4 ps) c190) := runI_g G Pr k 190 ps ⟨2, 4, c190, [0], .me 98 [108, 111, 111, 107]⟩ rfl h (fun _ _ h => nomatch h) hg
theorem ri197 (k : Nat) (ps : List (D × Nat)) (h : ps.length = 3) (hg : gdB (.me 98 [108, 97, 121]) ps = true) : runI G Pr (k+1) 197 ps = outI [0] (exB G ((run G Pr k).wio [0]) [] (initI 4 ps) c197) := runI_g G Pr k 197 ps ⟨3, 4, c197, [0], .me 98 [108, 97, 121]⟩ rfl h (fun _ _ h => nomatch h) hg
theorem r192 (k : Nat) (a0 : D) (hg : gdB (.me 98 [107, 101, 121, 115, 95, 107, 101, 112, 116]) ([a0].map fun x => (x, 0)) = true) : run G Pr (k+1) 192 [a0] = outS (exB G (run G Pr k) [] [some (norm (a0, 0)), none] c192) := run_g G Pr k 192 [a0] ⟨1, 2, c192, [], .me 98 [107, 101, 121, 115, 95, 107, 101, 112, 116]⟩ rfl rfl rfl (fun _ _ h => nomatch h) hg
theorem r4 (k : Nat) (a0 a1 : D) : run G Pr (k+1) 4 [a0, a1] = outS (exB G (run G Pr k) [] [some (norm (a0, 0)), some (norm (a1, 0))] c4) := run_eq G Pr k 4 [a0, a1] ⟨2, 2, c4, [], .fn⟩ rfl rfl rfl rfl
theorem r199 (k : Nat) (a0 a1 : D) : run G Pr (k+1) 199 [a0, a1] = outS (exB G (run G Pr k) [] [some (norm (a0, 0)), some (norm (a1, 0))] c199) := run_eq G Pr k 199 [a0, a1] ⟨2, 2, c199, [], .fn⟩ rfl rfl rfl rfl
theorem r200 (k : Nat) (a0 a1 : D) : run G Pr (k+1) 200 [a0, a1] = outS (exB G (run G Pr k) [] [some (norm (a0, 0)), some (norm (a1, 0)), none, none, none, none, none] c200) := run_eq G Pr k 200 [a0, a1] ⟨2, 7, c200, [], .fn⟩ rfl rfl rfl rfl
theorem r201 (k : Nat) (a0 : D) : run G Pr (k+1) 201 [a0] = outS (exB G (run G Pr k) [] [some (norm (a0, 0)), none] c201) := run_eq G Pr k 201 [a0] ⟨1, 2, c201, [], .fn⟩ rfl rfl rfl rfl
theorem r202 (k : Nat) (a0 : D) : run G Pr (k+1) 202 [a0] = outS (exB G (run G Pr k) [] [some (norm (a0, 0)), none] c202) := run_eq G Pr k 202 [a0] ⟨1, 2, c202, [], .fn⟩ rfl rfl rfl rfl
theorem r206 (k : Nat) (a0 : D) : run G Pr (k+1) 206 [a0] = outS (exB G (run G Pr k) [] [some (norm (a0, 0))] c206) := run_eq G Pr k 206 [a0] ⟨1, 1, c206, [], .fn⟩ rfl rfl rfl rfl
theorem r207 (k : Nat) (a0 a1 : D) : run G Pr (k+1) 207 [a0, a1] = outS (exB G (run G Pr k) [] [some (norm (a0, 0)), some (norm (a1, 0)), none, none, none] c207) := run_eq G Pr k 207 [a0, a1] ⟨2, 5, c207, [], .fn⟩ rfl rfl rfl rfl
theorem r208 (k : Nat) (a0 : D) : run G Pr (k+1) 208 [a0] = outS (exB G (run G Pr k) [] [some (norm (a0, 0))] c208) := run_eq G Pr k 208 [a0] ⟨1, 1, c208, [], .fn⟩ rfl rfl rfl rfl
theorem r209 (k : Nat) (a0 : D) : run G Pr (k+1) 209 [a0] = outS (exB G (run G Pr k) [] [some (norm (a0, 0)), none, none] c209) := run_eq G Pr k 209 [a0] ⟨1, 3, c209, [], .fn⟩ rfl rfl rfl rfl
theorem r213 (k : Nat) (a0 a1 : D) : run G Pr (k+1) 213 [a0, a1] = outS (exB G (run G Pr k) [] [some (norm (a0, 0)), some (norm (a1, 0)), none, none] c213) := run_eq G Pr k 213 [a0, a1] ⟨2, 4, c213, [], .fn⟩ rfl rfl rfl rfl
theorem ri214 (k : Nat) (ps : List (D × Nat)) (h : ps.length = 3) : runI G Pr (k+1) 214 ps = outI [2] (exB G ((run G Pr k).wio [2]) [] (initI 5 ps) c214) := runI_eq G Pr k 214 ps ⟨3, 5, c214, [2], .fn⟩ rfl h rfl
theorem r215 (k : Nat) (a0 : D) : run G Pr (k+1) 215 [a0] = outS (exB G (run G Pr k) [] [some (norm (a0, 0)), none, none, none, none, none, none, none, none, none, none, none, none] c215) := run_eq G Pr k 215 [a0] ⟨1, 13, c215, [], .fn⟩ rfl rfl rfl rfl
theorem r1098 (k : Nat) (a0 : D) : run G Pr (k+1) 1098 [a0] = plainO (mkO (runI G Pr k 189 ((.ins 98 [] [], 9) :: [(a0, 0)]))) := run_mk G Pr k 1098 [a0] ⟨1, 0, [], [], .mk 98 189⟩ 98 189 rfl rfl rfl
end K53

namespace K53
open Vy
def cellN (ns : List Int) (i : Int) : Int := if i < ns.length then ns.getD i.toNat 0 else 0
theorem cell (k : Nat) (ns : List Int) (i : Int) (h : 0 ≤ i) : run G Pr (k+1) 4 [.scr ns, .int i] = .ok (.int (cellN ns i), 9) := by
  rw [r4, c4]
  unfold cellN
  by_cases hi : i < ns.length
  · simp [hi, sub_scr h hi]
  · simp [hi]

end K53

namespace K53
open Vy
section
open Vy.W
structure Pk (d : D) : Prop where
  ok : eqOk d = true
  dp : d.dep ≤ 60
  im : d.mdep = 0
abbrev fBound : Cs := [98, 111, 117, 110, 100]
abbrev fRows : Cs := [114, 111, 119, 115]
def RW (rs : List (D × D)) : D := .lst (rs.map fun p => .tup [p.1, p.2])
def SH (b : Int) (rs : List (D × D)) : D := .ins 98 [fBound, fRows] [.int b, RW rs]
def at_ (rs : List (D × D)) (key : D) : Nat := rs.findIdx fun p => pyEq p.1 key
structure RwOk (rs : List (D × D)) : Prop where
  key : ∀ p ∈ rs, Pk p.1
  im : ∀ p ∈ rs, p.2.mdep = 0
  len : rs.length ≤ 2000
theorem RW_md (rs : List (D × D)) (h : RwOk rs) : mdepL (rs.map fun p => D.tup [p.1, p.2]) = 0 := by
  have : ∀ l : List (D × D), (∀ p ∈ l, p.1.mdep = 0 ∧ p.2.mdep = 0) → mdepL (l.map fun p => D.tup [p.1, p.2]) = 0 := by
    intro l
    induction l with
    | nil => intro _; rfl
    | cons p l ih =>
      intro h
      have h0 := h p (by simp)
      rw [List.map_cons, mdepL, ih fun q hq => h q (by simp [hq])]
      simp [D.mdep, mdepL, h0.1, h0.2]
  exact this rs fun p hp => ⟨(h.key p hp).im, h.im p hp⟩
theorem SH_ne (b : Int) (rs : List (D × D)) : (SH b rs).mdep ≠ 0 := by simp [SH, D.mdep]
theorem RW_ne (rs : List (D × D)) : (RW rs).mdep ≠ 0 := by simp [RW, D.mdep]
theorem SH_full (b : Int) (rs : List (D × D)) (h : RwOk rs) (n : Nat) : full (SH b rs, n + 2) = true := by
  have : (SH b rs).mdep = 2 := by simp [SH, D.mdep, mdepL, RW, RW_md rs h]
  simp [full, this]
theorem at2_0 (x y : D) : at? [x, y] 0 = some x := by simp [at?, ix]
theorem at2_1 (x y : D) : at? [x, y] 1 = some y := by simp [at?, ix]
theorem ne_Pk {d e : D} (hd : Pk d) (he : Pk e) : cmpD .ne d e = some (!pyEq d e) := by
  have h1 := hd.ok
  have h2 : min d.dep e.dep ≤ 60 := Nat.le_trans (Nat.min_le_left _ _) hd.dp
  have key : go (eqOk d = true ∧ eqOk e = true ∧ min d.dep e.dep ≤ 60) (some (!pyEq d e)) = some (!pyEq d e) := go_pos ⟨hd.ok, he.ok, h2⟩
  cases d <;> first | (simp [eqOk] at h1; done) | exact key
theorem at_le (rs : List (D × D)) (key : D) : at_ rs key ≤ rs.length := List.findIdx_le_length
theorem place_run (k : Nat) (rs : List (D × D)) (key : D) (h : RwOk rs) (hk : Pk key) : run G Pr (k+1) 188 [RW rs, key] = .ok (.int (at_ rs key), 9) := by
  suffices h : ∀ Q, Q = Gives (fun p => p = (D.int (at_ rs key), 9)) → Sat (exB G (run G Pr k) [] [some (norm (RW rs, 0)), some (norm (key, 0)), none] c188) Q by
    obtain ⟨p, e, rfl⟩ := some_of h
    rw [r188, e]
  intro Q hQ
  unfold c188
  rw [norm_mut (RW_ne rs), norm, if_pos hk.im]
  simp (disch := first | omega | simp) [-exS_st]
  refine v_whl (fun n ρ => ∃ a : Nat, ρ = [some (RW rs, 0), some (key, 9), some (.int (a : Int), 9)] ∧ a ≤ at_ rs key ∧ n = rs.length - a) rs.length (by have := h.len; omega) ⟨0, rfl, by simp, by simp⟩ (fun n ρ hI => ?_)
  obtain ⟨a, rfl, ha, hn⟩ := hI
  have hle := at_le rs key
  have hlen : (RW rs) = .lst (rs.map fun p => .tup [p.1, p.2]) := rfl
  by_cases hal : a < rs.length
  · have hget : at? (rs.map fun p => D.tup [p.1, p.2]) (a : Int) = some (.tup [rs[a].1, rs[a].2]) := by
      unfold at? ix
      simp [hal]
    have e1 : evB G (run G Pr k) [some (RW rs, 0), some (key, 9), some (.int (a : Int), 9)] (.and (.cmp .lt (.var 2) (.bif .len [.var 0])) (.cmp .ne (.sub (.sub (.var 0) (.var 2)) (.cst (.int 0))) (.var 1))) = .ok (!pyEq rs[a].1 key) := by
      unfold evB
      simp [hlen, subD, hget, at2_0, ne_Pk (h.key _ (List.getElem_mem hal)) hk, hal]
    cases hb : pyEq rs[a].1 key with
    | true =>
      left
      have ha' : at_ rs key = a := by
        unfold at_
        exact (List.findIdx_eq hal).mpr ⟨hb, fun j hj => by
          have := List.not_of_lt_findIdx (p := fun p : D × D => pyEq p.1 key) (xs := rs) (i := j) (Nat.lt_of_lt_of_le hj ha)
          simpa using this⟩
      refine ⟨by rw [e1, hb]; rfl, ?_⟩
      simp
      refine giv hQ ?_
      rw [ha']
    | false =>
      right
      refine ⟨by rw [e1, hb]; rfl, fun Q' hQ' => ?_⟩
      have hne : a ≠ at_ rs key := fun z => by
        have hw : at_ rs key < rs.length := by omega
        have : pyEq (rs[at_ rs key]'hw).1 key = true := List.findIdx_getElem (p := fun p : D × D => pyEq p.1 key) (w := hw)
        subst z
        rw [hb] at this; cases this
      simp
      refine fin_nx hQ' ⟨n - 1, by omega, a + 1, by simp, by omega, by omega⟩
  · have ha' : at_ rs key = a := by omega
    left
    have e1 : evB G (run G Pr k) [some (RW rs, 0), some (key, 9), some (.int (a : Int), 9)] (.and (.cmp .lt (.var 2) (.bif .len [.var 0])) (.cmp .ne (.sub (.sub (.var 0) (.var 2)) (.cst (.int 0))) (.var 1))) = .ok false := by
      unfold evB
      simp [hlen, hal]
    refine ⟨e1, ?_⟩
    simp
    refine giv hQ ?_
    rw [ha']
end
section
open Vy.W
theorem map_eraseIdx {α β : Type} (f : α → β) : ∀ (l : List α) (j : Nat), (l.map f).eraseIdx j = (l.eraseIdx j).map f
  | [], _ => rfl
  | _ :: _, 0 => rfl
  | a :: l, j + 1 => by simp [map_eraseIdx f l j]
theorem opPopi_eq {xs : List D} {n m j : Nat} {x : D} (hx : ix xs.length (j : Int) = some j) (hq : xs[j]? = some x) (hm : x.mdep ≤ n) (hb : j ≤ 2000) : opPopi (D.lst xs, n + 1) [(D.int (j : Int), m)] = some ((D.lst (xs.eraseIdx j), n + 1), (x, n)) := by
  rw [opPopi, go_pos (by constructor <;> omega), hx, Option.bind_some, hq, Option.bind_some, go_pos hm]
theorem opApp_eq {xs : List D} {n m : Nat} {x : D} (hb : xs.length + 1 ≤ SZ) (hm : x.mdep = 0) : opApp (D.lst xs, n + 1) [(x, m)] = some ((D.lst (xs ++ [x]), n + 1), (D.non, 9)) := by
  rw [opApp, go_pos hb, lvIn, if_pos hm]
theorem SH_bound {cf : Runs} {ρ : Env} {b : Int} {rs : List (D × D)} {n : Nat} {i : Nat} (h : (ρ[i]?).bind id = some (SH b rs, n)) : ev G cf ρ (.fld (.var i) fBound) = .ok (.int b, 0) :=
  ev_fldA (n := 0) (by rw [ev, h]; rfl) (by decide) rfl
theorem SH_rows {cf : Runs} {ρ : Env} {b : Int} {rs : List (D × D)} {n : Nat} {i : Nat} (h : (ρ[i]?).bind id = some (SH b rs, n)) : ev G cf ρ (.fld (.var i) fRows) = .ok (RW rs, 0) :=
  ev_fldA (n := 0) (by rw [ev, h]; rfl) (by decide) rfl
theorem SH_popi {cf : Runs} {L : List Nat} {ρ : Env} {b : Int} {rs : List (D × D)} {n j m : Nat} {i : Nat} {e : C} (h : (ρ[i]?).bind id = some (SH b rs, n + 2)) (hL : i ∉ L) (hr : RwOk rs) (hj : j < rs.length) (he : ev G cf ρ e = .ok (.int (j : Int), m)) :
    exX G cf L ρ (.mop ⟨i, [.fld fRows]⟩ .popi [e]) = .ok (.tup [rs[j].1, rs[j].2], n) (ρ.set i (some (SH b (rs.eraseIdx j), n + 2))) := by
  have hl := hr.len
  have hx : ix (rs.map fun p => D.tup [p.1, p.2]).length (j : Int) = some j := by unfold ix; simp [hj]
  have hm : (D.tup [rs[j].1, rs[j].2]).mdep = 0 := by
    have := hr.key _ (List.getElem_mem hj); have h2 := hr.im _ (List.getElem_mem hj)
    simp [D.mdep, mdepL, this.im, h2]
  have hu : nodeOp .popi (RW rs, n + 1) [(.int (j : Int), m)] = some ((RW (rs.eraseIdx j), n + 1), (.tup [rs[j].1, rs[j].2], n)) := by
    have := opPopi_eq (xs := rs.map fun p => D.tup [p.1, p.2]) (n := n) (m := m) (x := D.tup [rs[j].1, rs[j].2]) hx (by simp [hj]) (by rw [hm]; exact Nat.zero_le _) (show j ≤ 2000 by omega)
    rw [map_eraseIdx] at this
    exact this
  exact mop_fld (c := 98) (n := n + 1) (j := 1) h (by decide) rfl rfl hL (by simp [mTy, RW]) (by rw [evs, he]; simp [evs]) hu (by simp) rfl
theorem SH_app {cf : Runs} {L : List Nat} {ρ : Env} {b : Int} {rs : List (D × D)} {n m : Nat} {i : Nat} {e : C} {p : D × D} (h : (ρ[i]?).bind id = some (SH b rs, n + 2)) (hL : i ∉ L) (hr : RwOk rs) (hp : p.1.mdep = 0 ∧ p.2.mdep = 0) (he : ev G cf ρ e = .ok (.tup [p.1, p.2], m)) :
    exX G cf L ρ (.mop ⟨i, [.fld fRows]⟩ .app [e]) = .ok (.non, 9) (ρ.set i (some (SH b (rs ++ [p]), n + 2))) := by
  have hl := hr.len
  have hm : (D.tup [p.1, p.2]).mdep = 0 := by simp [D.mdep, mdepL, hp.1, hp.2]
  have hu : nodeOp .app (RW rs, n + 1) [(.tup [p.1, p.2], m)] = some ((RW (rs ++ [p]), n + 1), (.non, 9)) := by
    have := opApp_eq (xs := rs.map fun p => D.tup [p.1, p.2]) (n := n) (m := m) (x := D.tup [p.1, p.2]) (by simpa using Nat.le_trans (Nat.succ_le_succ hl) (by decide)) hm
    have e : rs.map (fun p => D.tup [p.1, p.2]) ++ [D.tup [p.1, p.2]] = (rs ++ [p]).map fun p => D.tup [p.1, p.2] := by simp
    rw [e] at this
    exact this
  exact mop_fld (c := 98) (n := n + 1) (j := 1) h (by decide) rfl rfl hL (by simp [mTy, RW]) (by rw [evs, he]; simp [evs]) hu (by simp [full, hm]) rfl
@[simp] theorem norm_SH (b : Int) (rs : List (D × D)) (n : Nat) : norm (SH b rs, n) = (SH b rs, n) := norm_mut (q := (SH b rs, n)) (SH_ne b rs)
theorem norm_im {d : D} {n : Nat} (h : d.mdep = 0) : norm (d, n) = (d, 9) := by rw [norm, if_pos h]
theorem bindV_im {ρ : Env} {i n : Nat} {d : D} {ns : List Nat} (h : d.mdep = 0) : bindV ρ i (d, n) ns = ρ.set i (some (d, 9)) := by
  rw [bindV, if_pos (by simp [full, h]), setV, norm_im h]
def lookR (rs : List (D × D)) (key : D) : List (D × D) := match rs[at_ rs key]? with
  | some p => rs.eraseIdx (at_ rs key) ++ [p]
  | none => rs
def lookV (rs : List (D × D)) (key : D) : D := match rs[at_ rs key]? with
  | some p => p.2
  | none => .non
theorem look_run (k : Nat) (b : Int) (rs : List (D × D)) (key : D) (n : Nat) (h : RwOk rs) (hk : Pk key) : ∃ l, runI G Pr (k+2) 190 [(SH b rs, n + 2), (key, 9)] = .ok (lookV rs key, l) [(SH b (lookR rs key), n + 2)] := by
  have hl := h.len
  have e0 := place_run k rs key h hk
  rw [ri190 (k + 1) _ rfl (by simp [gdB, SH])]
  have ei : initI 4 [(SH b rs, n + 2), (key, 9)] = [some (SH b rs, n + 2), some (key, 9), none, none] := by
    simp [initI, norm_im hk.im]
  rw [ei]
  generalize run G Pr (k + 1) = cf at *
  have e1 : ∀ r2 r3, ev G (cf.wio [0]) [some (SH b rs, n + 2), some (key, 9), r2, r3] (.cal 188 [.fld (.var 0) fRows, .var 1]) = .ok (.int (at_ rs key), 9) := fun r2 r3 => by
    have e2 := SH_rows (cf := cf.wio [0]) (ρ := [some (SH b rs, n + 2), some (key, 9), r2, r3]) (i := 0) rfl
    simp [e2, e0]
    done
  have e2 := fun r2 r3 => SH_rows (cf := cf.wio [0]) (ρ := [some (SH b rs, n + 2), some (key, 9), r2, r3]) (i := 0) rfl
  have hR : RW rs = .lst (rs.map fun p => .tup [p.1, p.2]) := rfl
  unfold c190
  by_cases ha : at_ rs key < rs.length
  · have hg : rs[at_ rs key]? = some rs[at_ rs key] := List.getElem?_eq_getElem ha
    have e3 := SH_popi (cf := cf.wio [0]) (L := []) (ρ := [some (SH b rs, n + 2), some (key, 9), some (.int (at_ rs key), 9), none]) (b := b) (n := n) (i := 0) (e := .var 2) (m := 0) rfl (by simp) h ha (by simp)
    have hne : ¬ ((at_ rs key : Int) = (rs.length : Int)) := by omega
    have ok2 : RwOk (rs.eraseIdx (at_ rs key)) := ⟨fun p hp => h.key p (List.mem_of_mem_eraseIdx hp), fun p hp => h.im p (List.mem_of_mem_eraseIdx hp), by rw [List.length_eraseIdx]; split <;> omega⟩
    generalize hp : rs[at_ rs key] = p at *
    have pk := h.key p (hp ▸ List.getElem_mem ha)
    have pm := h.im p (hp ▸ List.getElem_mem ha)
    have e4 := SH_app (cf := cf.wio [0]) (L := []) (ρ := [some (SH b (rs.eraseIdx (at_ rs key)), n + 2), some (key, 9), some (.int (at_ rs key), 9), some (.tup [p.1, p.2], 9)]) (b := b) (n := n) (i := 0) (e := .var 3) (m := 0) rfl (by simp) ok2 ⟨pk.im, pm⟩ (by simp)
    have hmt : (D.tup [p.1, p.2]).mdep = 0 := by simp [D.mdep, mdepL, pk.im, pm]
    refine ⟨0, ?_⟩
    simp only [hR] at e1 e2
    simp [e1, e2, onJ, okJ, hne, e3, bindV_im hmt, e4, -exX_mop, at2_1, outI, iosOf, full, pm, lookV, lookR, hg, subD]
    done
  · have hg : rs[at_ rs key]? = none := List.getElem?_eq_none (by omega)
    have hne : ((at_ rs key : Int) = (rs.length : Int)) := by have := at_le rs key; omega
    refine ⟨9, ?_⟩
    simp [e1, e2, onJ, okJ, hR, hne, lookV, lookR, hg, outI, iosOf]
end
section
open Vy.W
theorem RwOk.erase {rs : List (D × D)} (h : RwOk rs) (j : Nat) : RwOk (rs.eraseIdx j) := ⟨fun p hp => h.key p (List.mem_of_mem_eraseIdx hp), fun p hp => h.im p (List.mem_of_mem_eraseIdx hp), by have := h.len; rw [List.length_eraseIdx]; split <;> omega⟩
theorem RwOk.add {rs : List (D × D)} (h : RwOk rs) {p : D × D} (h1 : Pk p.1) (h2 : p.2.mdep = 0) (hl : rs.length + 1 ≤ 2000) : RwOk (rs ++ [p]) := ⟨fun q hq => by
  rcases List.mem_append.mp hq with z | z
  · exact h.key q z
  · rw [List.mem_singleton.mp z]; exact h1, fun q hq => by
  rcases List.mem_append.mp hq with z | z
  · exact h.im q z
  · rw [List.mem_singleton.mp z]; exact h2, by simpa using hl⟩
def cutR (rs : List (D × D)) (key : D) : List (D × D) := if at_ rs key < rs.length then rs.eraseIdx (at_ rs key) else rs
def layR (b : Int) (rs : List (D × D)) (key t : D) : List (D × D) := if b < ((cutR rs key ++ [(key, t)]).length : Int) then (cutR rs key ++ [(key, t)]).eraseIdx 0 else cutR rs key ++ [(key, t)]
theorem cutR_ok {rs : List (D × D)} (h : RwOk rs) (key : D) : RwOk (cutR rs key) := by
  unfold cutR
  split
  · exact h.erase _
  · exact h
theorem cutR_len (rs : List (D × D)) (key : D) : (cutR rs key).length ≤ rs.length := by
  unfold cutR
  split
  · rw [List.length_eraseIdx]; split <;> omega
  · exact Nat.le_refl _
theorem lay_run (k : Nat) (b : Int) (rs : List (D × D)) (key t : D) (n : Nat) (h : RwOk rs) (hl : rs.length < 2000) (hk : Pk key) (ht : t.mdep = 0) : runI G Pr (k+2) 197 [(SH b rs, n + 2), (key, 9), (t, 9)] = .ok (.non, 9) [(SH b (layR b rs key t), n + 2)] := by
  have e0 := place_run k rs key h hk
  rw [ri197 (k + 1) _ rfl (by simp [gdB, SH])]
  have ei : initI 4 [(SH b rs, n + 2), (key, 9), (t, 9)] = [some (SH b rs, n + 2), some (key, 9), some (t, 9), none] := by
    simp [initI, norm_im hk.im, norm_im ht]
  rw [ei]
  generalize run G Pr (k + 1) = cf at *
  have e2 := fun rs r3 => SH_rows (cf := cf.wio [0]) (ρ := [some (SH b rs, n + 2), some (key, 9), some (t, 9), r3]) (i := 0) rfl
  have eb := fun rs r3 => SH_bound (cf := cf.wio [0]) (ρ := [some (SH b rs, n + 2), some (key, 9), some (t, 9), r3]) (i := 0) rfl
  have e1 : ∀ r3, ev G (cf.wio [0]) [some (SH b rs, n + 2), some (key, 9), some (t, 9), r3] (.cal 188 [.fld (.var 0) fRows, .var 1]) = .ok (.int (at_ rs key), 9) := fun r3 => by
    simp [e2, e0]
  have hok := cutR_ok h key
  have hcl := cutR_len rs key
  have hadd := hok.add (p := (key, t)) hk ht (by omega)
  have el : ∀ (rs : List (D × D)) r3, ev G (cf.wio [0]) [some (SH b rs, n + 2), some (key, 9), some (t, 9), r3] (.bif .len [.fld (.var 0) fRows]) = .ok (.int (rs.length : Int), 9) := fun rs r3 => by
    have e3 := e2 rs r3
    simp only [RW] at e3
    simp [e3]
  have e4 := fun r3 => SH_app (cf := cf.wio [0]) (L := []) (ρ := [some (SH b (cutR rs key), n + 2), some (key, 9), some (t, 9), r3]) (b := b) (n := n) (i := 0) (e := .tup [.var 1, .var 2]) (m := 9) (p := (key, t)) rfl (by simp) hok ⟨hk.im, ht⟩ (by simp [lvL, hk.im, ht, gd_pos (show 2 ≤ SZ by decide)])
  have e5 : ∀ r3, exX G (cf.wio [0]) [] [some (SH b (cutR rs key ++ [(key, t)]), n + 2), some (key, 9), some (t, 9), r3] (.mop ⟨0, [.fld fRows]⟩ .popi [.cst (.int 0)]) = .ok (.tup [(cutR rs key ++ [(key, t)])[0].1, (cutR rs key ++ [(key, t)])[0].2], n) [some (SH b ((cutR rs key ++ [(key, t)]).eraseIdx 0), n + 2), some (key, 9), some (t, 9), r3] := fun r3 =>
    SH_popi (j := 0) (m := 9) rfl (by simp) hadd (by simp) (by simp)
  have fin : ∀ r3, outI [0] (exB G (cf.wio [0]) [] [some (SH b (cutR rs key), n + 2), some (key, 9), some (t, 9), r3] (c197.drop 2)) = .ok (.non, 9) [(SH b (layR b rs key t), n + 2)] := fun r3 => by
    show outI [0] (exB G (cf.wio [0]) [] _ [.expX (.mop ⟨0, [.fld fRows]⟩ .app [.tup [.var 1, .var 2]]), .ife (.cmp .gt (.bif .len [.fld (.var 0) fRows]) (.fld (.var 0) fBound)) [.expX (.mop ⟨0, [.fld fRows]⟩ .popi [.cst (.int 0)])] []]) = _
    unfold layR
    by_cases hb : b < ((cutR rs key ++ [(key, t)]).length : Int)
    · rw [if_pos hb]
      have hb' : b < ((cutR rs key).length : Int) + 1 := by simpa using hb
      simp [e4, el, eb, hb', e5, -exX_mop, outI, iosOf]
      done
    · rw [if_neg hb]
      have hb' : ¬ b < ((cutR rs key).length : Int) + 1 := by simpa using hb
      simp [e4, el, eb, hb', -exX_mop, outI, iosOf]
      done
  rw [show c197 = [.asg 3 (.cal 188 [.fld (.var 0) fRows, .var 1]), .ife (.cmp .lt (.var 3) (.bif .len [.fld (.var 0) fRows])) [.expX (.mop ⟨0, [.fld fRows]⟩ .popi [.var 3])] []] ++ c197.drop 2 from rfl]
  generalize c197.drop 2 = rest at fin
  unfold cutR at fin
  by_cases ha : at_ rs key < rs.length
  · have e3 := SH_popi (cf := cf.wio [0]) (L := []) (ρ := [some (SH b rs, n + 2), some (key, 9), some (t, 9), some (.int (at_ rs key), 9)]) (b := b) (n := n) (i := 0) (e := .var 3) (m := 0) rfl (by simp) h ha (by simp)
    simp only [if_pos ha] at fin
    simp [e1, el, onJ, okJ, ha, e3, -exX_mop, fin]
    done
  · simp only [if_neg ha] at fin
    simp [e1, el, onJ, okJ, ha, -exX_mop, fin]
    done
end
section
open Vy.W
theorem made_run (k : Nat) (b : Int) (hb : 0 ≤ b ∧ b ≤ 1000) : run G Pr (k+3) 1098 [.int b] = .ok (SH b [], 9) := by
  have e0 : run G Pr (k+1) 187 [.int b] = .ok (.non, 9) := by
    rw [r187, c187]
    simp [hb.1, hb.2]
    done
  rw [r1098, ri189 (k + 1) _ rfl (by simp [gdB])]
  generalize run G Pr (k + 1) = cf at *
  simp [c189, initI, e0, exS_stf, onJ, okJ, outI, iosOf, mopX, chgP, stfOp, getP, putP, setV, norm, lvIn, go, D.mdep, mdepL, mkO, plainO, SH, RW, full, lvL]
  done
theorem kept_run (k : Nat) (b : Int) (rs : List (D × D)) (h : RwOk rs) : run G Pr (k+1) 192 [SH b rs] = .ok (.lst (rs.map (·.1)), 10) := by
  rw [r192 _ _ (by simp [gdB, SH]), c192]
  have e2 := SH_rows (cf := run G Pr k) (ρ := [some (SH b rs, 0), none]) (b := b) (rs := rs) (i := 0) rfl
  have e3 : itemsOf (RW rs) = some (rs.map fun p => D.tup [p.1, p.2]) := rfl
  have e4 : compL (turnF G (run G Pr k) [some (SH b rs, 0), none] (Tg.one 1) none ((C.var 1).sub (C.cst (D.int 0)))) (rs.map fun p => D.tup [p.1, p.2]) = .ok (rs.map fun p => (p.1, 0)) := by
    refine compL_mp (fun p hp => ?_) (Nat.le_trans h.len (by decide))
    have hmt : (D.tup [p.1, p.2]).mdep = 0 := by simp [D.mdep, mdepL, (h.key p hp).im, h.im p hp]
    simp [turnF, Tg.put, setV, norm_im hmt, subD, at2_0]
  have e5 : ∀ l : List (D × D), (∀ p ∈ l, p.1.mdep = 0) → lvL (l.map fun p => (p.1, 0)) = 9 := by
    intro l
    induction l with
    | nil => intro _; rfl
    | cons p l ih => intro h; rw [List.map_cons, lvL, if_pos (h p (by simp)), ih fun q hq => h q (by simp [hq])]
  simp [e2, e3, e4, e5 rs fun p hp => (h.key p hp).im, Function.comp_def]
  done
end

end K53

namespace K53
open Vy
section
open Vy.W
def mx (a j : Int) : Int := (a + 7919 * j) * 48271 % 2147483647
theorem mixed (k : Nat) (a j : Int) : run G Pr (k+1) 199 [.int a, .int j] = .ok (.int (mx a j), 9) := by
  rw [r199, c199]
  have m1 : mulOk 7919 j := .inl ⟨by omega, by omega⟩
  have m2 : ∀ i, mulOk i 48271 := fun i => .inr ⟨by omega, by omega⟩
  simp [mul_int m1, mul_int (m2 _), mod_int, mx]
mutual
def plain : D → Bool
  | .non => true
  | .int _ => true
  | .str _ => true
  | .tup xs => plainL xs
  | _ => false
def plainL : List D → Bool
  | [] => true
  | d :: r => plain d && plainL r
end
theorem plainL_iff : ∀ {l : List D}, plainL l = true ↔ ∀ d ∈ l, plain d = true
  | [] => by simp [plainL]
  | d :: r => by simp [plainL, plainL_iff (l := r)]
mutual
theorem plain_eq : ∀ {x y : D}, plain x = true → plain y = true → (pyEq x y = true ↔ x = y)
  | .non, y, _, hy => by cases y <;> simp_all [plain, pyEq]
  | .int i, y, _, hy => by cases y <;> simp_all [plain, pyEq]
  | .str s, y, _, hy => by cases y <;> simp_all [plain, pyEq]
  | .tup xs, y, hx, hy => by
    cases y with
    | tup ys =>
      rw [plain] at hx hy
      rw [pyEq, plain_eqL hx hy]
      simp
    | _ => simp_all [plain, pyEq]
  | .bl _, _, h, _ => by simp [plain] at h
  | .lst _, _, h, _ => by simp [plain] at h
  | .dct _ _, _, h, _ => by simp [plain] at h
  | .ins _ _ _, _, h, _ => by simp [plain] at h
  | .cls _, _, h, _ => by simp [plain] at h
  | .scr _, _, h, _ => by simp [plain] at h
  | .fz _, _, h, _ => by simp [plain] at h
  | .hol, _, h, _ => by simp [plain] at h
theorem plain_eqL : ∀ {xs ys : List D}, plainL xs = true → plainL ys = true → (pyEqL xs ys = true ↔ xs = ys)
  | [], [], _, _ => by simp [pyEqL]
  | [], _ :: _, _, _ => by simp [pyEqL]
  | _ :: _, [], _, _ => by simp [pyEqL]
  | x :: xs, y :: ys, hx, hy => by
    rw [plainL, Bool.and_eq_true] at hx hy
    rw [pyEqL, Bool.and_eq_true, plain_eq hx.1 hy.1, plain_eqL hx.2 hy.2]
    simp
end
mutual
theorem plain_ok : ∀ {x : D}, plain x = true → eqOk x = true ∧ x.mdep = 0
  | .non, _ => ⟨rfl, rfl⟩
  | .int _, _ => ⟨rfl, rfl⟩
  | .str _, _ => ⟨rfl, rfl⟩
  | .tup xs, h => by
    rw [plain] at h
    have := plain_okL h
    rw [eqOk, D.mdep]
    exact this
  | .bl _, h => by simp [plain] at h
  | .lst _, h => by simp [plain] at h
  | .dct _ _, h => by simp [plain] at h
  | .ins _ _ _, h => by simp [plain] at h
  | .cls _, h => by simp [plain] at h
  | .scr _, h => by simp [plain] at h
  | .fz _, h => by simp [plain] at h
  | .hol, h => by simp [plain] at h
theorem plain_okL : ∀ {xs : List D}, plainL xs = true → eqOkL xs = true ∧ mdepL xs = 0
  | [], _ => ⟨rfl, rfl⟩
  | x :: xs, h => by
    rw [plainL, Bool.and_eq_true] at h
    have h1 := plain_ok h.1
    have h2 := plain_okL h.2
    rw [eqOkL, mdepL, h1.1, h1.2, h2.1, h2.2]
    exact ⟨rfl, rfl⟩
end
structure Ky (d : D) : Prop where
  pl : plain d = true
  dp : d.dep ≤ 10
theorem Ky.pk {d : D} (h : Ky d) : Pk d := ⟨(plain_ok h.pl).1, Nat.le_trans h.dp (by decide), (plain_ok h.pl).2⟩
theorem Ky.eq {x y : D} (h : Ky x) (g : Ky y) : pyEq x y = true ↔ x = y := plain_eq h.pl g.pl
theorem depL_le {l : List D} {n : Nat} (h : ∀ d ∈ l, d.dep ≤ n) : depL l ≤ n := by
  induction l with
  | nil => exact Nat.zero_le _
  | cons d l ih => rw [depL]; exact Nat.max_le.mpr ⟨h d (by simp), ih fun e he => h e (by simp [he])⟩
theorem SZv : SZ = 16777216 := rfl
theorem sub_any {xs : List D} {i : Int} (h : 0 ≤ i) (h2 : i < xs.length) : ∃ d ∈ xs, subD (.lst xs) (.int i) = some (d, 0) := by
  have hi : i.toNat < xs.length := by omega
  refine ⟨xs[i.toNat], List.getElem_mem hi, ?_⟩
  have : ix xs.length i = some i.toNat := by unfold ix; rw [if_pos h, if_pos h2]
  show ((at? xs i).map (·, 0)) = _
  unfold at?
  rw [this]
  simp [hi]
theorem partW {cf : Runs} (hio : cf.io = []) (h199 : ∀ a j : Int, cf 199 [.int a, .int j] = .ok (.int (mx a j), 9)) (deep : Int) (m : Nat) (hr : deep < 3 → ∀ c : Int, ∃ d l, cf 200 [.int c, .int (deep + 1)] = .ok (d, l) ∧ plain d = true ∧ d.dep ≤ m) (c : Int) {Q : Post} (hQ : Q = Gives fun p => plain p.1 = true ∧ p.1.dep ≤ m + 1) :
    Sat (exB G cf [] [some (.int c, 9), some (.int deep, 9), none, none, none, none, none] c200) Q := by
  unfold c200
  have hn : 0 ≤ c / 8 % 2001 - 1000 + 1000 ∧ c / 8 % 2001 - 1000 ≤ 1000 := by omega
  simp (disch := first | omega | simp) [mod_int, fdv_int, hio, -exS_st]
  generalize c / 8 % 2001 - 1000 = num at hn
  refine w_if (fun q => ?_) (fun q => ?_)
  · simp
    exact giv hQ ⟨rfl, by simp [D.dep]⟩
  simp
  refine w_if (fun q => ?_) (fun q => ?_)
  · have hs : ∀ n, bifD .str [(D.int num, n)] = some (D.str (codesOfInt num), 9) := fun n => by
      show go (num.natAbs.log2 < 1920) (some (D.str (codesOfInt num), 9)) = _
      exact go_pos (Nat.lt_of_le_of_lt (Nat.log2_le_self _) (by omega))
    simp [hs]
    exact giv hQ ⟨rfl, by simp [D.dep]⟩
  simp
  refine w_if (fun q => ?_) (fun q => ?_)
  · obtain ⟨d, hd, e⟩ := sub_any (xs := [D.non, D.str [78, 111, 110, 101], D.str [], D.tup []]) (i := c / 8 % 4) (by omega) (by simp; omega)
    simp (disch := first | omega | simp) [mod_int, fdv_int, gd, SZv, e]
    refine giv hQ ?_
    simp at hd
    rcases hd with rfl | rfl | rfl | rfl <;> simp [plain, plainL, D.dep, depL]
  simp (disch := first | omega | simp)
  refine w_if (fun q => ?_) (fun q => ?_)
  · simp at q
    obtain ⟨d, l, e1, e2, e3⟩ := hr q.2 (c / 8)
    simp (disch := first | omega | simp) [mod_int, fdv_int, e1, gd, SZv]
    refine giv hQ ⟨?_, ?_⟩
    · simp [plain, plainL, e2]
    · simp [D.dep, depL, e3]
  simp (disch := first | omega | simp)
  refine w_if (fun q => ?_) (fun q => ?_)
  · simp at q
    have hd : ∀ c : Int, ∃ p : D × Nat, cf 200 [.int c, .int (deep + 1)] = .ok p ∧ plain p.1 = true ∧ p.1.dep ≤ m := fun c => let ⟨d, l, a, b, e⟩ := hr q.2 c; ⟨(d, l), a, b, e⟩
    obtain ⟨F, hF⟩ := Classical.axiomOfChoice hd
    have h1 := fun c => (hF c).1
    have hn : c / 8 % 7 = ((c / 8 % 7).toNat : Nat) := by omega
    have hlt : (c / 8 % 7).toNat ≤ 6 := by omega
    generalize (c / 8 % 7).toNat = z at hn hlt
    have er := rng_nat (n := z) (by omega)
    have hc : compL (turnF G cf [some (.int c, 9), some (.int deep, 9), some (.int (c % 8), 9), some (.int num, 9), none, none, none] (.one 4) none (.cal 200 [.cal 199 [.var 0, .var 4], .bin .add (.var 1) (.cst (.int 1))])) ((List.range z).map fun (j : Nat) => D.int (j : Int)) = .ok ((List.range z).map fun (j : Nat) => F (mx c j)) := by
      refine compL_mp (fun j hj => ?_) (by rw [List.length_range]; exact Nat.le_trans hlt (by decide))
      simp [turnF, h199, h1]
      done
    have hi : ∀ xs : List D, itemsOf (.lst xs) = some xs := fun _ => rfl
    have ht : ∀ (xs : List D) (n : Nat), plainL xs = true → bifD .tuple [(.lst xs, n)] = some (.tup xs, 9) := fun xs n h => by
      show go (mdepL xs = 0) (some (D.tup xs, 9)) = _
      exact go_pos (plain_okL h).2
    have hp : plainL ((List.range z).map fun (j : Nat) => (F (mx c j)).1) = true := plainL_iff.mpr fun d hd => by
      obtain ⟨j, _, rfl⟩ := List.mem_map.mp hd
      exact (hF _).2.1
    simp (disch := first | omega | simp) [mod_int, fdv_int, hn, er, hi, hc, Function.comp_def, ht _ _ hp]
    refine giv hQ ⟨by rw [plain]; exact hp, ?_⟩
    rw [D.dep]
    refine Nat.succ_le_succ (depL_le fun d hd => ?_)
    obtain ⟨j, _, rfl⟩ := List.mem_map.mp hd
    exact (hF _).2.2
  simp (disch := first | omega | simp)
  refine w_if (fun q => ?_) (fun q => ?_)
  · have hp : ∀ n m, binD .pow (.int 10, n) (.int 20, m) = some (.int 100000000000000000000, 9) := fun n m => by
      show go (powOk 10 20) (some (D.int (10 ^ 20), 9)) = _
      rw [go_pos (by decide)]
      simp
    obtain ⟨d, hd, e⟩ := sub_any (xs := [D.int 0, D.int 1, D.int 2, D.int 100000000000000000000, D.int 100000000000000000001]) (i := c / 8 % 5) (by omega) (by simp; omega)
    simp (disch := first | omega | simp) [mod_int, fdv_int, gd, SZv, hp, e]
    refine giv hQ ?_
    simp at hd
    rcases hd with rfl | rfl | rfl | rfl | rfl <;> simp [plain, D.dep]
  simp (disch := first | omega | simp)
  refine w_if (fun q => ?_) (fun q => ?_)
  · simp (disch := first | omega | simp) [mod_int, fdv_int, hio]
    have ad : ∀ (x y : Cs) (n m : Nat), x.length ≤ 2000 → y.length ≤ 2000 → binD .add (.str x, n) (.str y, m) = some (.str (x ++ y), 9) := fun x y n m h1 h2 => add_str (by rw [SZv]; omega)
    have tail : ∀ (sz a : Int) (env : Env) (rest : List S), 0 ≤ a → a ≤ sz → sz < 900 → Sat (thenR G cf [] (onE (((Out.of (binD .mul (.str [97], 9) (.int a, 0))).bind fun x => Out.of (binD .add x (.str [98], 9))).bind fun x => (Out.of (binD .mul (.str [97], 9) (.int (sz - a), 9))).bind fun y => Out.of (binD .add x y)) env fun p => OS.rt p env) rest) Q := fun sz a env rest h1 h2 h3 => by
      simp (disch := first | omega | simp) [mul_str, hio]
      rw [ad _ _ _ _ (by simp; omega) (by simp)]
      simp
      rw [ad _ _ _ _ (by simp; omega) (by simp; omega)]
      simp
      exact giv hQ ⟨rfl, by simp [D.dep]⟩
    have bd : ∀ sz : Int, 0 ≤ sz → 0 ≤ c / 7 % (sz + 1) ∧ c / 7 % (sz + 1) ≤ sz := fun sz h => by
      have h1 := Int.emod_nonneg (c / 7) (show sz + 1 ≠ 0 by omega)
      have h2 := Int.emod_lt_of_pos (c / 7) (show 0 < sz + 1 by omega)
      exact ⟨h1, by omega⟩
    refine w_if (fun q => ?_) (fun q => ?_)
    · simp (disch := first | omega | simp) [mod_int, fdv_int, hio]
      exact tail _ _ _ _ (bd _ (by omega)).1 (bd _ (by omega)).2 (by omega)
    · simp (disch := first | omega | simp) [mod_int, fdv_int, hio]
      exact tail _ _ _ _ (bd _ (by omega)).1 (bd _ (by omega)).2 (by omega)
  simp (disch := first | omega | simp)
  have hn : c / 512 % 4 = ((c / 512 % 4).toNat : Nat) := by omega
  have hlt : (c / 512 % 4).toNat ≤ 3 := by omega
  generalize (c / 512 % 4).toNat = z at hn hlt
  have er := rng_nat (n := z) (by omega)
  have hi : ∀ xs : List D, itemsOf (.lst xs) = some xs := fun _ => rfl
  have hc : ∃ f : Nat → Nat, compL (turnF G cf [some (.int c, 9), some (.int deep, 9), some (.int (c % 8), 9), some (.int num, 9), none, none, none] (.one 4) none (.sub (.cst (.str [97, 98, 49, 32])) (.bin .mod (.bin .fdv (.var 0) (.sub (.lst [.cst (.int 8), .cst (.int 32), .cst (.int 128)]) (.var 4))) (.cst (.int 4))))) ((List.range z).map fun (j : Nat) => D.int (j : Int)) = .ok ((List.range z).map fun (j : Nat) => (D.str [f j], 9)) := by
    have key : ∀ j : Nat, ∃ ch : Nat, j < 3 → turnF G cf [some (.int c, 9), some (.int deep, 9), some (.int (c % 8), 9), some (.int num, 9), none, none, none] (.one 4) none (.sub (.cst (.str [97, 98, 49, 32])) (.bin .mod (.bin .fdv (.var 0) (.sub (.lst [.cst (.int 8), .cst (.int 32), .cst (.int 128)]) (.var 4))) (.cst (.int 4)))) (.int (j : Int)) = .ok (some (D.str [ch], 9)) := fun j => by
      have st : ∀ i : Int, subD (.str [97, 98, 49, 32]) (.int (i % 4)) = some (.str [[97, 98, 49, 32].getD (i % 4).toNat 0], 9) := fun i => sub_str (by decide) (by omega) (by simp; omega)
      rcases j with _ | _ | _ | j
      · exact ⟨_, fun _ => by simp (disch := first | omega | simp) [turnF, gd, SZv, mod_int, fdv_int, st]; rfl⟩
      · exact ⟨_, fun _ => by simp (disch := first | omega | simp) [turnF, gd, SZv, mod_int, fdv_int, st]; rfl⟩
      · exact ⟨_, fun _ => by simp (disch := first | omega | simp) [turnF, gd, SZv, mod_int, fdv_int, st]; rfl⟩
      · exact ⟨0, fun h => by omega⟩
    obtain ⟨f, hf⟩ := Classical.axiomOfChoice key
    exact ⟨f, compL_mp (fun j hj => hf j (by have := List.mem_range.mp hj; omega)) (by rw [List.length_range]; exact Nat.le_trans hlt (by decide))⟩
  obtain ⟨f, hc⟩ := hc
  have hj : ∀ m, methD .join (.str [], 9) [(.lst ((List.range z).map fun (j : Nat) => D.str [f j]), m)] = some (.str ((List.range z).map f), 9) := fun m => by
    have := joinC ((List.range z).map f) 9 m (by simp; omega)
    simpa [Function.comp_def] using this
  simp (disch := first | omega | simp) [mod_int, fdv_int, hn, er, hi, hc, Function.comp_def, hj, gd, show recvOk Me.join (D.str []) = true from rfl]
  exact giv hQ ⟨rfl, by simp [D.dep]⟩
theorem part (k : Nat) : ∀ (m : Nat) (c : Int), m ≤ 2 → ∃ d l, run G Pr (k + m + 2) 200 [.int c, .int (3 - (m : Int))] = .ok (d, l) ∧ plain d = true ∧ d.dep ≤ m + 1 := by
  intro m
  induction m with
  | zero =>
    intro c _
    obtain ⟨⟨d, l⟩, e, h1, h2⟩ := some_of fun Q hQ => partW (cf := run G Pr (k + 1)) rfl (fun a j => mixed k a j) 3 0 (fun h => by omega) c hQ
    refine ⟨d, l, ?_, h1, h2⟩
    show run G Pr ((k + 1) + 1) 200 _ = _
    rw [r200, ← e]
    simp
  | succ m ih =>
    intro c hm
    have h := fun Q hQ => partW (Q := Q) (cf := run G Pr (k + m + 2)) rfl (fun a j => mixed (k + m + 1) a j) (3 - ((m + 1 : Nat) : Int)) (m + 1) (fun _ c => by
      obtain ⟨d, l, e, h1, h2⟩ := ih c (by omega)
      refine ⟨d, l, ?_, h1, h2⟩
      rw [← e]
      congr 3
      simp
      omega) c hQ
    obtain ⟨⟨d, l⟩, e, h1, h2⟩ := some_of h
    refine ⟨d, l, ?_, h1, h2⟩
    show run G Pr ((k + m + 2) + 1) 200 _ = _
    rw [r200, ← e]
    simp
structure Kt (d : D) (n : Nat) : Prop where
  tp : ∃ xs, d = .tup xs ∧ xs.length ≤ n
  ky : Ky d
theorem key (k : Nat) (c : Int) : ∃ d, run G Pr (k + 6) 201 [.int c] = .ok (d, 9) ∧ Kt d 3 := by
  have hd : ∀ c : Int, ∃ p : D × Nat, run G Pr (k + 5) 200 [.int c, .int 1] = .ok p ∧ plain p.1 = true ∧ p.1.dep ≤ 3 := fun c => by
    obtain ⟨d, l, h1, h2, h3⟩ := part (k + 1) 2 c (by omega)
    exact ⟨(d, l), h1, h2, h3⟩
  obtain ⟨F, hF⟩ := Classical.axiomOfChoice hd
  have h1 := fun c => (hF c).1
  have h199 := fun a j => mixed (k + 4) a j
  have hn : c % 4 = ((c % 4).toNat : Nat) := by omega
  have hlt : (c % 4).toNat ≤ 3 := by omega
  generalize (c % 4).toNat = z at hn hlt
  have er := rng_nat (n := z) (by omega)
  have hi : ∀ xs : List D, itemsOf (.lst xs) = some xs := fun _ => rfl
  have hp : plainL ((List.range z).map fun (j : Nat) => (F (mx c j)).1) = true := plainL_iff.mpr fun d hd => by
    obtain ⟨j, _, rfl⟩ := List.mem_map.mp hd
    exact (hF _).2.1
  have ht : ∀ (n : Nat), bifD .tuple [(.lst ((List.range z).map fun (j : Nat) => (F (mx c j)).1), n)] = some (.tup ((List.range z).map fun (j : Nat) => (F (mx c j)).1), 9) := fun n => by
    show go (mdepL _ = 0) (some (D.tup _, 9)) = _
    exact go_pos (plain_okL hp).2
  rw [r201, c201]
  generalize run G Pr (k + 5) = cf at *
  have hc : compL (turnF G cf [some (.int c, 9), none] (.one 1) none (.cal 200 [.cal 199 [.var 0, .var 1], .cst (.int 1)])) ((List.range z).map fun (j : Nat) => D.int (j : Int)) = .ok ((List.range z).map fun (j : Nat) => F (mx c j)) := by
    refine compL_mp (fun j hj => ?_) (by rw [List.length_range]; exact Nat.le_trans hlt (by decide))
    simp [turnF, h199, h1]
  refine ⟨.tup ((List.range z).map fun (j : Nat) => (F (mx c j)).1), ?_, ⟨_, rfl, by simpa using hlt⟩, by rw [plain]; exact hp, ?_⟩
  · simp (disch := first | omega | simp) [mod_int, fdv_int, hn, er, hi, hc, Function.comp_def, ht]
  · rw [D.dep]
    refine Nat.le_trans (Nat.succ_le_succ (depL_le (n := 3) fun d hd => ?_)) (by decide)
    obtain ⟨j, _, rfl⟩ := List.mem_map.mp hd
    exact (hF _).2.2
theorem bindV_l {ρ : Env} {i n : Nat} {xs : List D} {ns : List Nat} (h : mdepL xs + 1 ≤ n) : bindV ρ i (.lst xs, n) ns = ρ.set i (some (.lst xs, n)) := by
  rw [bindV, if_pos (show full (D.lst xs, n) = true by show decide ((D.lst xs).mdep ≤ n) = true; rw [D.mdep]; exact decide_eq_true h), setV, norm_lst]
theorem thing (k : Nat) (c : Int) : ∃ d l, run G Pr (k + 1) 202 [.int c] = .ok (d, l) ∧ d.mdep = 0 := by
  suffices h : ∀ Q, Q = Gives (fun p => p.1.mdep = 0) → Sat (exB G (run G Pr k) [] [some (.int c, 9), none] c202) Q by
    obtain ⟨⟨d, l⟩, e, h1⟩ := some_of h
    refine ⟨d, l, ?_, h1⟩
    rw [r202, ← e]
    simp
  intro Q hQ
  unfold c202
  have hn : 0 ≤ c / 8 % 7 ∧ c / 8 % 7 < 7 := by omega
  have hs : ∀ n, bifD .str [(D.int (c / 8 % 7), n)] = some (D.str (codesOfInt (c / 8 % 7)), 9) := fun n => by
    show go ((c / 8 % 7).natAbs.log2 < 1920) (some (D.str (codesOfInt (c / 8 % 7)), 9)) = _
    exact go_pos (Nat.lt_of_le_of_lt (Nat.log2_le_self _) (by omega))
  simp (disch := first | omega | simp) [mod_int, fdv_int, gd, SZv, hs]
  generalize codesOfInt (c / 8 % 7) = t
  generalize c / 8 % 1000 = u
  obtain ⟨d, hd, e⟩ := sub_any (xs := [D.int 0, D.str [], D.tup [], D.tup [D.non], D.str [78, 111, 110, 101], D.tup [D.str [116, 101, 120, 116], D.str []], D.int u, D.tup [D.str [102, 97, 105, 108, 115], D.str t]]) (i := c % 8) (by omega) (by simp; omega)
  rw [bindV_l (by simp [mdepL, D.mdep])]
  simp (disch := first | omega | simp) [mod_int, e]
  refine giv hQ ?_
  simp at hd
  rcases hd with rfl | rfl | rfl | rfl | rfl | rfl | rfl | rfl <;> simp [D.mdep, mdepL]
theorem bound_ (k : Nat) (c : Int) : ∃ b : Int, run G Pr (k + 1) 206 [.int c] = .ok (.int b, 9) ∧ 0 ≤ b ∧ b ≤ 40 := by
  rw [r206, c206]
  by_cases h : c % 3 = 1
  · exact ⟨c / 3 % 41, by simp (disch := first | omega | simp) [mod_int, fdv_int, h], by omega, by omega⟩
  · exact ⟨c / 3 % 8, by simp (disch := first | omega | simp) [mod_int, fdv_int, h], by omega, by omega⟩
theorem many_ (k : Nat) (c : Int) : ∃ b : Nat, run G Pr (k + 1) 208 [.int c] = .ok (.int (b : Int), 9) ∧ 1 ≤ b ∧ b ≤ 60 := by
  rw [r208, c208]
  by_cases h : c % 3 = 1
  · refine ⟨(12 + c / 3 % 49).toNat, ?_, by omega, by omega⟩
    simp (disch := first | omega | simp) [mod_int, fdv_int, h]
    omega
  · refine ⟨(1 + c / 3 % 11).toNat, ?_, by omega, by omega⟩
    simp (disch := first | omega | simp) [mod_int, fdv_int, h]
    omega
end

end K53

namespace K53
open Vy
section
open Vy.W
theorem app_im {G : Glo} {cf : Runs} {L : List Nat} {ρ : Env} {i m n : Nat} {xs : List D} {d : D} {e : C} (h : (ρ[i]?).bind id = some (.lst xs, m)) (hL : i ∉ L) (hm : 1 ≤ m) (hl : xs.length + 1 ≤ SZ) (he : ev G cf ρ e = .ok (d, n)) (hd : d.mdep = 0) :
    exS G cf L ρ (.app i e) = .nx (ρ.set i (some (.lst (xs ++ [d]), m))) := by
  rw [exS_app, h]
  simp only [he, onE_ok]
  unfold appD
  rw [if_neg hL, h]
  simp only
  rw [if_pos ⟨hm, hl⟩, if_pos (by simp [hd]), setV, norm_lst]
theorem in_Ky {d : D} {F : List D} (h : Ky d) (hF : ∀ x ∈ F, Ky x) : inD d (.lst F) = some (F.any fun y => pyEq y d) := by
  show go (eqOk d = true ∧ eqOkL F = true ∧ min (depL F) d.dep ≤ 60) _ = _
  have hp : plainL F = true := plainL_iff.mpr fun x hx => (hF x hx).pl
  exact go_pos ⟨h.pk.ok, (plain_okL hp).1, Nat.le_trans (Nat.min_le_right _ _) h.pk.dp⟩
def tlen : D → Nat
  | .tup xs => xs.length
  | _ => 0
theorem plainL_add {xs : List D} (h : plainL xs = true) (i : Int) : plainL (xs ++ [.int i]) = true := plainL_iff.mpr fun d hd => by
  rcases List.mem_append.mp hd with z | z
  · exact plainL_iff.mp h d z
  · rw [List.mem_singleton.mp z]; rfl
theorem depL_add (xs : List D) (i : Int) : depL (xs ++ [.int i]) = depL xs := by
  induction xs with
  | nil => rfl
  | cons x xs ih => rw [List.cons_append, depL, depL, ih]
theorem Ky.add {xs : List D} (h : Ky (.tup xs)) (i : Int) : Ky (.tup (xs ++ [.int i])) := by
  have hp : plainL xs = true := by have := h.pl; rwa [plain] at this
  refine ⟨by rw [plain]; exact plainL_add hp i, ?_⟩
  have := h.dp
  rw [D.dep] at this ⊢
  rw [depL_add]; exact this
theorem filter_less {F : List D} {d : D} (hd : d ∈ F) (n : Nat) (h : tlen d = n) : (F.filter fun e => decide (n + 1 ≤ tlen e)).length < (F.filter fun e => decide (n ≤ tlen e)).length := by
  induction F with
  | nil => cases hd
  | cons e F ih =>
    have le : (F.filter fun e => decide (n + 1 ≤ tlen e)).length ≤ (F.filter fun e => decide (n ≤ tlen e)).length := by
      clear ih hd
      induction F with
      | nil => simp
      | cons e F ih =>
        rw [List.filter_cons, List.filter_cons]
        by_cases h1 : n + 1 ≤ tlen e
        · rw [if_pos (by simpa using h1), if_pos (by simp; omega)]; simpa using ih
        · rw [if_neg (by simpa using h1)]
          split
          · simp; omega
          · exact ih
    rw [List.filter_cons, List.filter_cons]
    rcases List.mem_cons.mp hd with rfl | hd
    · rw [if_neg (by simp; omega), if_pos (by simp; omega)]
      simp; omega
    · have := ih hd
      by_cases h1 : n + 1 ≤ tlen e
      · rw [if_pos (by simpa using h1), if_pos (by simp; omega)]; simpa using this
      · rw [if_neg (by simpa using h1)]
        split
        · simp; omega
        · exact this
theorem keys (k : Nat) (c : Int) (m : Nat) (hm : m ≤ 200) : ∃ K : List D, run G Pr (k + 7) 207 [.int c, .int (m : Int)] = .ok (.lst K, 10) ∧ K.length = m ∧ ∀ d ∈ K, Ky d := by
  simp only [r207]
  have h199 := fun a j => mixed (k + 5) a j
  have hk := fun c => key k c
  have hio : (run G Pr (k + 6)).io = [] := rfl
  generalize run G Pr (k + 6) = cf at *
  suffices h : ∀ Q, Q = Gives (fun p => ∃ K : List D, p = (.lst K, 10) ∧ K.length = m ∧ ∀ d ∈ K, Ky d) → Sat (exB G cf [] [some (.int c, 9), some (.int (m : Int), 9), none, none, none] c207) Q by
    obtain ⟨p, e, K, hp, h1, h2⟩ := some_of h
    refine ⟨K, ?_, h1, h2⟩
    rw [← hp, ← e]
    simp
  intro Q hQ
  unfold c207
  have er := rng_nat (n := m) (by omega)
  have hb0 : ∀ (ρ : Env) (i : Nat) (ns : List Nat), bindV ρ i (.lst [], 10) ns = ρ.set i (some (.lst [], 10)) := fun _ _ _ => bindV_l (by simp [mdepL])
  simp (disch := first | omega | simp) [hio, er, hb0, -exS_st]
  refine v_rng (n := m) (fun i ρ => ∃ (F : List D) (r3 r4 : Option (D × Nat)), ρ = [some (.int c, 9), some (.int (m : Int), 9), some (.lst F, 10), r3, r4] ∧ F.length = i ∧ (∀ d ∈ F, Ky d) ∧ ∀ d ∈ F, tlen d ≤ 3 + i) 3 ?_ ?_ (fun i ρ hi hI Q' hQ' => ?_) (fun ρ hI => ?_)
  · rw [hio]; rfl
  · exact ⟨[], none, none, rfl, rfl, by simp, by simp⟩
  · obtain ⟨F, r3, r4, rfl, h1, h2, h3⟩ := hI
    have h199' := h199 c i
    generalize mx c i = ci at h199'
    obtain ⟨d, e1, ⟨⟨xs, hd, hxs⟩, hky⟩⟩ := hk ci
    subst hd
    have hmd := hky.pk.im
    simp (disch := first | omega | simp) [hio, h199', e1, bindV_im hmd, -exS_st]
    have hfl : (F.filter fun e => decide (xs.length ≤ tlen e)).length ≤ F.length := List.length_filter_le _ _
    refine v_whl (fun n ρ => ∃ ys, ρ = [some (.int c, 9), some (.int (m : Int), 9), some (.lst F, 10), some (.int (i : Int), 9), some (.tup ys, 9)] ∧ Ky (.tup ys) ∧ ys.length + n ≤ 3 + F.length ∧ n = (F.filter fun e => decide (ys.length ≤ tlen e)).length) (F.filter fun e => decide (xs.length ≤ tlen e)).length (by omega) ⟨xs, rfl, hky, by omega, rfl⟩ (fun n ρ hI => ?_)
    obtain ⟨ys, hρ, g1, g2, g3⟩ := hI
    subst hρ
    have ein : evB G cf [some (.int c, 9), some (.int (m : Int), 9), some (.lst F, 10), some (.int (i : Int), 9), some (.tup ys, 9)] (.cmp .isin (.var 4) (.var 2)) = .ok (F.any fun y => pyEq y (.tup ys)) := by
      have := in_Ky g1 h2
      unfold evB
      simp [cmpD, this]
      done
    have hm4 := g1.pk.im
    cases hb : F.any fun y => pyEq y (.tup ys) with
    | false =>
      left
      refine ⟨by rw [ein, hb], ?_⟩
      simp only [R_exB]
      rw [app_im (m := 10) (n := 0) (xs := F) (d := .tup ys) (by simp) (by simp) (by omega) (by rw [SZv]; omega) (by simp) hm4]
      simp
      refine fin_nx hQ' ⟨F ++ [.tup ys], _, _, rfl, by simp; omega, fun d hd => ?_, fun d hd => ?_⟩
      · rcases List.mem_append.mp hd with z | z
        · exact h2 d z
        · rw [List.mem_singleton.mp z]; exact g1
      · rcases List.mem_append.mp hd with z | z
        · have := h3 d z; omega
        · rw [List.mem_singleton.mp z]; simp [tlen]; omega
    | true =>
      right
      refine ⟨by rw [ein, hb], fun Q2 hQ2 => ?_⟩
      obtain ⟨y, hy, he⟩ := List.any_eq_true.mp hb
      have hye : y = .tup ys := ((h2 y hy).eq g1).mp he
      subst hye
      have hadd := g1.add (i : Int)
      have hma := hadd.pk.im
      have ea : ∀ n m, binD .add (.tup ys, n) (.tup [.int (i : Int)], m) = some (.tup (ys ++ [.int (i : Int)]), 9) := fun n m => by
        show go (ys.length + 1 ≤ SZ) (some (D.tup (ys ++ [.int (i : Int)]), lvt (ys ++ [.int (i : Int)]))) = _
        have hz : mdepL (ys ++ [D.int (i : Int)]) = 0 := by rw [D.mdep] at hma; exact hma
        rw [go_pos (by rw [SZv]; omega), lvt, if_pos hz]
      simp [gd, SZv, ea, bindV_im hma, hio]
      have hlt := filter_less hy ys.length rfl
      refine fin_nx hQ2 ⟨_, ?_, ys ++ [.int (i : Int)], rfl, hadd, ?_, rfl⟩
      · simp; omega
      · simp; omega
  · obtain ⟨F, r3, r4, rfl, h1, h2, h3⟩ := hI
    simp
    exact giv hQ ⟨F, rfl, h1, h2⟩
theorem deeds (k : Nat) (ns : List Int) (h : ns.length ≤ 63) : ∃ (l : List Int) (n : Nat), run G Pr (k + 2) 209 [.scr ns] = .ok (.lst (l.map .int), n) ∧ 1 ≤ n ∧ l.length ≤ 100 := by
  have h199 := fun a j => mixed k a j
  have hcell := fun i hi => cell k ns i hi
  have hns : (D.scr ns).mdep = 0 := rfl
  rw [r209, c209]
  have hio : (run G Pr (k + 1)).io = [] := rfl
  generalize run G Pr (k + 1) = cf at *
  have hc := hcell 2 (by omega)
  by_cases hb : cellN ns 2 / 147 % 3 = 1
  · have hn : cellN ns 2 / 147 / 3 % 100 = ((cellN ns 2 / 147 / 3 % 100).toNat : Nat) := by omega
    have hlt : (cellN ns 2 / 147 / 3 % 100).toNat ≤ 99 := by omega
    generalize (cellN ns 2 / 147 / 3 % 100).toNat = z at hn hlt
    have er := rng_nat (n := z) (by omega)
    have hi : ∀ xs : List D, itemsOf (.lst xs) = some xs := fun _ => rfl
    have hcm : ∀ r, compL (turnF G cf [some (.scr ns, 9), r, none] (.one 2) none (.cal 199 [.cal 4 [.var 0, .bin .add (.cst (.int 3)) (.bin .mod (.var 2) (.cst (.int 5)))], .var 2])) ((List.range z).map fun (j : Nat) => D.int (j : Int)) = .ok ((List.range z).map fun (j : Nat) => (D.int (mx (cellN ns (3 + (j : Int) % 5)) j), 9)) := fun r => by
      refine compL_mp (fun j hj => ?_) (by rw [List.length_range]; exact Nat.le_trans hlt (by decide))
      have h5 := hcell (3 + (j : Int) % 5) (by omega)
      simp (disch := first | omega | simp) [turnF, mod_int, h199, h5]
    refine ⟨(List.range z).map fun (j : Nat) => mx (cellN ns (3 + (j : Int) % 5)) j, 10, ?_, by omega, by simp; omega⟩
    simp (disch := first | omega | simp) [mod_int, fdv_int, hc, hb, hn, er, hi, hcm, hio, Function.comp_def]
  · refine ⟨cut ns (some 3) none, 9, ?_, by omega, by have := cut_len ns (some 3) none; omega⟩
    simp (disch := first | omega | simp) [mod_int, fdv_int, hc, hb, hio, show slcD (.scr ns) (some 3) none = some (.lst ((cut ns (some 3) none).map .int), 9) from rfl]
end

end K53

namespace K53
open Vy
section
def dd : List D → List D
  | [] => []
  | x :: r => x :: (dd r).filter fun y => !pyEq x y
def dueF (b : Nat) : List D → List D → List D
  | [], row => row
  | x :: r, row => if row.length = b then row else if row.any (fun y => pyEq y x) = true then dueF b r row else dueF b r (row ++ [x])
theorem dd_mem : ∀ {V : List D} {y : D}, y ∈ dd V → y ∈ V
  | x :: V, y, h => by
    rcases List.mem_cons.mp h with rfl | h
    · simp
    · exact List.mem_cons_of_mem _ (dd_mem ((List.mem_filter.mp h).1))
theorem dd_Ky {V : List D} (h : ∀ u ∈ V, Ky u) : ∀ y ∈ dd V, Ky y := fun y hy => h y (dd_mem hy)
theorem any_mem {row : List D} {x : D} (h : ∀ y ∈ row, Ky y) (hx : Ky x) : row.any (fun y => pyEq y x) = true ↔ x ∈ row := by
  rw [List.any_eq_true]
  constructor
  · rintro ⟨y, hy, e⟩
    rw [((h y hy).eq hx).mp e] at hy
    exact hy
  · intro hx'
    exact ⟨x, hx', (hx.eq hx).mpr rfl⟩
theorem Ky.refl {x : D} (h : Ky x) : pyEq x x = true := (h.eq h).mpr rfl
theorem dueF_eq {b : Nat} : ∀ {V row : List D}, (∀ u ∈ V, Ky u) → (∀ u ∈ row, Ky u) → row.length ≤ b → dueF b V row = (row ++ (dd V).filter fun y => !(row.any fun z => pyEq z y)).take b
  | [], row, _, _, hl => by simp [dueF, dd, List.take_of_length_le hl]
  | x :: V, row, hV, hr, hl => by
    have hx := hV x (by simp)
    have hV' : ∀ u ∈ V, Ky u := fun u hu => hV u (by simp [hu])
    rw [dueF]
    by_cases h1 : row.length = b
    · rw [if_pos h1, List.take_append_of_le_length (by omega), List.take_of_length_le hl]
    · rw [if_neg h1]
      by_cases h2 : row.any (fun y => pyEq y x) = true
      · rw [if_pos h2, dueF_eq hV' hr hl, dd, List.filter_cons, if_neg (by simp [h2]), List.filter_filter]
        congr 2
        refine List.filter_congr fun y hy => ?_
        by_cases e : pyEq x y = true
        · have := (hx.eq (dd_Ky hV' y hy)).mp e
          subst this
          simp [h2]
        · simp [e]
      · rw [if_neg h2, dueF_eq hV' (fun u hu => by
          rcases List.mem_append.mp hu with z | z
          · exact hr u z
          · rw [List.mem_singleton.mp z]; exact hx) (by simp; omega), dd, List.filter_cons, if_pos (by simpa using h2), List.filter_filter]
        rw [List.append_assoc]
        congr 2
        show x :: _ = x :: _
        congr 1
        refine List.filter_congr fun y hy => ?_
        simp
theorem cut_one {α : Type} (p : α → Bool) : ∀ {l : List α}, (l.filter p).length ≤ 1 → (if l.findIdx p < l.length then l.eraseIdx (l.findIdx p) else l) = l.filter fun y => !p y
  | [], _ => rfl
  | a :: l, h => by
    cases ha : p a with
    | true =>
      have hl : l.filter p = [] := by
        rw [List.filter_cons, if_pos ha] at h
        simp at h
        exact List.filter_eq_nil_iff.mpr (by simpa using h)
      have hi : (a :: l).findIdx p = 0 := by simp [List.findIdx_cons, ha]
      rw [hi, if_pos (by simp), List.filter_cons, if_neg (by simp [ha])]
      show l = _
      rw [List.filter_eq_self.mpr]
      intro y hy
      have := List.filter_eq_nil_iff.mp hl y hy
      simpa using this
    | false =>
      have hi : (a :: l).findIdx p = l.findIdx p + 1 := by simp [List.findIdx_cons, ha]
      rw [List.filter_cons, if_neg (by simp [ha])] at h
      have ih := cut_one p h
      have hf : (a :: l).filter (fun y => !p y) = a :: l.filter (fun y => !p y) := by rw [List.filter_cons, if_pos (by simp [ha])]
      rw [hf, ← ih, hi]
      by_cases hc : l.findIdx p < l.length
      · rw [if_pos hc, if_pos (show l.findIdx p + 1 < (a :: l).length by rw [List.length_cons]; omega)]; rfl
      · rw [if_neg hc, if_neg (show ¬ l.findIdx p + 1 < (a :: l).length by rw [List.length_cons]; omega)]
theorem len_split {α : Type} (p : α → Bool) : ∀ l : List α, l.length = (l.filter p).length + (l.filter fun y => !p y).length
  | [] => rfl
  | a :: l => by
    have := len_split p l
    rw [List.filter_cons, List.filter_cons]
    cases p a <;> simp <;> omega
theorem take_filter {α : Type} (p : α → Bool) (l : List α) (c : Nat) (h : (l.filter fun y => !p y).length ≤ 1) : ((l.take (c + 1)).filter p).take c = (l.filter p).take c := by
  by_cases hl : l.length ≤ c + 1
  · rw [List.take_of_length_le hl]
  · have e : l.filter p = (l.take (c + 1)).filter p ++ (l.drop (c + 1)).filter p := by rw [← List.filter_append, List.take_append_drop]
    have h1 : ((l.take (c + 1)).filter fun y => !p y).length ≤ 1 := Nat.le_trans ((List.take_sublist _ _).filter _).length_le h
    have h2 := len_split p (l.take (c + 1))
    rw [List.length_take, Nat.min_eq_left (by omega)] at h2
    rw [e, List.take_append_of_le_length (by omega)]
theorem dd_one {V : List D} (hV : ∀ u ∈ V, Ky u) (x : D) (hx : Ky x) : ((dd V).filter fun y => pyEq y x).length ≤ 1 := by
  induction V with
  | nil => simp [dd]
  | cons v V ih =>
    have ih := ih fun u hu => hV u (by simp [hu])
    have hv := hV v (by simp)
    rw [dd, List.filter_cons]
    by_cases e : pyEq v x = true
    · rw [if_pos e]
      have he := (hv.eq hx).mp e
      subst he
      have : ((dd V).filter fun y => !pyEq v y).filter (fun y => pyEq y v) = [] := List.filter_eq_nil_iff.mpr fun y hy => by
        obtain ⟨h1, h2⟩ := List.mem_filter.mp hy
        intro z
        have := ((dd_Ky (fun u hu => hV u (by simp [hu])) y h1).eq hv).mp z
        subst this
        simp [hv.refl] at h2
      rw [this]; simp
    · rw [if_neg e]
      exact Nat.le_trans ((List.filter_sublist).filter _).length_le ih
structure Kept (b : Nat) (rs : List (D × D)) (U : List D) : Prop where
  key : ∀ p ∈ rs, Ky p.1
  im : ∀ p ∈ rs, p.2.mdep = 0
  eq : (rs.map (·.1)).reverse = (dd U.reverse).take b
  uk : ∀ u ∈ U, Ky u
theorem Kept.len {b : Nat} {rs : List (D × D)} {U : List D} (h : Kept b rs U) : rs.length ≤ b := by
  have := congrArg List.length h.eq
  simp at this
  omega
theorem Kept.ok {b : Nat} {rs : List (D × D)} {U : List D} (h : Kept b rs U) (hb : b ≤ 1000) : RwOk rs := ⟨fun p hp => (h.key p hp).pk, h.im, by have := h.len; omega⟩
theorem Kept.zero (b : Nat) : Kept b [] [] := ⟨by simp, by simp, by simp [dd], by simp⟩
theorem Kept.ur {b : Nat} {rs : List (D × D)} {U : List D} (h : Kept b rs U) : ∀ u ∈ U.reverse, Ky u := fun u hu => h.uk u (by simpa using hu)
theorem Kept.one {b : Nat} {rs : List (D × D)} {U : List D} (h : Kept b rs U) {x : D} (hx : Ky x) : (rs.filter fun p => pyEq p.1 x).length ≤ 1 := by
  have h1 : ((rs.map (·.1)).reverse.filter fun y => pyEq y x).length ≤ 1 := by
    rw [h.eq]
    exact Nat.le_trans ((List.take_sublist _ _).filter _).length_le (dd_one h.ur x hx)
  rw [List.filter_reverse, List.length_reverse, List.filter_map, List.length_map] at h1
  exact h1
theorem Kept.cut {b : Nat} {rs : List (D × D)} {U : List D} (h : Kept b rs U) {x : D} (hx : Ky x) : cutR rs x = rs.filter fun p => !pyEq p.1 x := cut_one (fun p : D × D => pyEq p.1 x) (h.one hx)
theorem Kept.next {b : Nat} {rs : List (D × D)} {U : List D} (h : Kept b rs U) {x : D} (hx : Ky x) : (x :: ((cutR rs x).map (·.1)).reverse).take b = (dd (x :: U.reverse)).take b := by
  have e : ((cutR rs x).map (·.1)).reverse = ((dd U.reverse).take b).filter fun y => !pyEq y x := by
    rw [h.cut hx, ← h.eq, List.filter_reverse, List.filter_map]
    rfl
  have hc : (dd U.reverse).filter (fun y => !pyEq x y) = (dd U.reverse).filter fun y => !pyEq y x := List.filter_congr fun y hy => by
    have hy := dd_Ky h.ur y hy
    have : pyEq x y = true ↔ pyEq y x = true := (hx.eq hy).trans (eq_comm.trans (hy.eq hx).symm)
    cases h1 : pyEq x y <;> cases h2 : pyEq y x <;> simp_all
  rw [e, dd, hc]
  cases b with
  | zero => rfl
  | succ c =>
    rw [List.take_succ_cons, List.take_succ_cons]
    congr 1
    refine take_filter _ _ c ?_
    simpa using dd_one h.ur x hx
theorem Kept.lay {b : Nat} {rs : List (D × D)} {U : List D} (h : Kept b rs U) {x t : D} (hx : Ky x) (ht : t.mdep = 0) : Kept b (layR b rs x t) (U ++ [x]) := by
  have hcut : ∀ p ∈ cutR rs x, p ∈ rs := fun p hp => by rw [h.cut hx] at hp; exact (List.mem_filter.mp hp).1
  have hmem : ∀ p ∈ layR b rs x t, p ∈ rs ∨ p = (x, t) := fun p hp => by
    have : p ∈ cutR rs x ++ [(x, t)] := by
      unfold layR at hp
      split at hp
      · exact List.mem_of_mem_eraseIdx hp
      · exact hp
    rcases List.mem_append.mp this with z | z
    · exact .inl (hcut p z)
    · exact .inr (List.mem_singleton.mp z)
  refine ⟨fun p hp => ?_, fun p hp => ?_, ?_, fun u hu => ?_⟩
  · rcases hmem p hp with z | z
    · exact h.key p z
    · rw [z]; exact hx
  · rcases hmem p hp with z | z
    · exact h.im p z
    · rw [z]; exact ht
  · rw [List.reverse_append, List.reverse_singleton, List.singleton_append, ← h.next hx]
    have hl := cutR_len rs x
    have hb := h.len
    unfold layR
    generalize cutR rs x = C at hl
    by_cases hc : (b : Int) < ((C ++ [(x, t)]).length : Int)
    · rw [if_pos hc]
      have hcl : C.length = b := by simp at hc; omega
      cases C with
      | nil =>
        have : b = 0 := by simpa using hcl.symm
        subst this
        rfl
      | cons p C =>
        have hcl : C.length + 1 = b := by simpa using hcl
        show ((C ++ [(x, t)]).map (·.1)).reverse = _
        subst hcl
        simp
        done
    · rw [if_neg hc]
      simp at hc
      rw [List.take_of_length_le (by simp; omega)]
      simp
  · rcases List.mem_append.mp hu with z | z
    · exact h.uk u z
    · rw [List.mem_singleton.mp z]; exact hx
theorem Kept.mem {b : Nat} {rs : List (D × D)} {U : List D} (h : Kept b rs U) {x : D} (hx : Ky x) : at_ rs x < rs.length ↔ x ∈ (dd U.reverse).take b := by
  rw [← h.eq, List.mem_reverse, List.mem_map]
  unfold at_
  rw [List.findIdx_lt_length]
  constructor
  · rintro ⟨p, hp, e⟩
    exact ⟨p, hp, ((h.key p hp).eq hx).mp e⟩
  · rintro ⟨p, hp, e⟩
    exact ⟨p, hp, ((h.key p hp).eq hx).mpr e⟩
theorem Kept.look {b : Nat} {rs : List (D × D)} {U : List D} (h : Kept b rs U) {x : D} (hx : Ky x) (hm : x ∈ (dd U.reverse).take b) : Kept b (lookR rs x) (U ++ [x]) := by
  have ha := (h.mem hx).mpr hm
  have hg : rs[at_ rs x]? = some rs[at_ rs x] := List.getElem?_eq_getElem ha
  have hp : rs[at_ rs x] ∈ rs := List.getElem_mem ha
  have hpx : rs[at_ rs x].1 = x := ((h.key _ hp).eq hx).mp (List.findIdx_getElem (p := fun p : D × D => pyEq p.1 x) (w := ha))
  have hR : lookR rs x = cutR rs x ++ [rs[at_ rs x]] := by unfold lookR cutR; rw [hg, if_pos ha]
  have hcl : (cutR rs x).length + 1 ≤ b := by
    have : (cutR rs x).length + 1 = rs.length := by unfold cutR; rw [if_pos ha, List.length_eraseIdx, if_pos ha]; omega
    have := h.len; omega
  have hmem : ∀ q ∈ lookR rs x, q ∈ rs := fun q hq => by
    rw [hR] at hq
    rcases List.mem_append.mp hq with z | z
    · rw [h.cut hx] at z; exact (List.mem_filter.mp z).1
    · rw [List.mem_singleton.mp z]; exact hp
  refine ⟨fun q hq => h.key q (hmem q hq), fun q hq => h.im q (hmem q hq), ?_, fun u hu => ?_⟩
  · rw [List.reverse_append, List.reverse_singleton, List.singleton_append, ← h.next hx, List.take_of_length_le (by simp; omega), hR]
    simp [hpx]
  · rcases List.mem_append.mp hu with z | z
    · exact h.uk u z
    · rw [List.mem_singleton.mp z]; exact hx
theorem Kept.none {b : Nat} {rs : List (D × D)} {U : List D} (h : Kept b rs U) {x : D} (hx : Ky x) (hm : x ∉ (dd U.reverse).take b) : lookR rs x = rs := by
  have ha : ¬ at_ rs x < rs.length := fun z => hm ((h.mem hx).mp z)
  unfold lookR
  rw [List.getElem?_eq_none (by omega)]
end

end K53

namespace K53
open Vy
section
open Vy.W
theorem plL {U : List D} (h : ∀ u ∈ U, Ky u) : mdepL U = 0 ∧ eqOkL U = true := by
  have := plain_okL (plainL_iff.mpr fun u hu => (h u hu).pl)
  exact ⟨this.2, this.1⟩
theorem due_run (k : Nat) (U : List D) (b : Nat) (hU : ∀ u ∈ U, Ky u) (hl : U.length ≤ 1000) : run G Pr (k+1) 213 [.lst U, .int (b : Int)] = .ok (.lst (dueF b U.reverse []).reverse, 9) := by
  have hmU := (plL hU).1
  have hnm : norm (.lst U, 0) = (.lst U, 0) := norm_lst _ _
  simp only [r213]
  have hio : (run G Pr k).io = [] := rfl
  generalize run G Pr k = cf at *
  suffices h : ∀ Q, Q = Gives (fun p => p = (.lst (dueF b U.reverse []).reverse, 9)) → Sat (exB G cf [] [some (.lst U, 0), some (.int (b : Int), 9), none, none] c213) Q by
    rw [← eq_of h]
    simp
  intro Q hQ
  have hb0 : ∀ (ρ : Env) (i : Nat) (ns : List Nat), bindV ρ i (.lst [], 10) ns = ρ.set i (some (.lst [], 10)) := fun _ _ _ => bindV_l (by simp [mdepL])
  unfold c213
  have hrl : ∀ {X : List D}, (∀ u ∈ X, Ky u) → lv1 X.reverse = 9 := fun {X} h => by
    unfold lv1
    rw [if_pos (plL (U := X.reverse) fun u hu => h u (by simpa using hu)).1]
  have hlq : ∀ xs : List D, lsqOf (.lst xs) = some xs := fun _ => rfl
  have hV : ∀ u ∈ U.reverse, Ky u := fun u hu => hU u (by simpa using hu)
  have hVl : U.reverse.length ≤ 1000 := by simpa using hl
  simp (disch := first | omega | simp) [hio, hb0, hlq, hrl hU, -exS_st]
  generalize U.reverse = V at hV hVl hQ
  refine v_for (xs := V) (fun i ρ => ∃ (row : List D) (r3 : Option (D × Nat)), ρ = [some (.lst U, 0), some (.int (b : Int), 9), some (.lst row, 10), r3] ∧ dueF b V [] = dueF b (V.drop i) row ∧ (∀ u ∈ row, Ky u) ∧ row.length ≤ i) rfl (by simp [full, D.mdep, (plL hV).1]) (by rw [hio]; rfl) ⟨[], none, rfl, rfl, by simp, by simp⟩ (fun i x ρ hx hI Q' hQ' => ?_) (fun ρ hI => ?_)
  · obtain ⟨row, r3, hρ, h1, h2, h3⟩ := hI
    subst hρ
    have hi : i < V.length := (List.getElem?_eq_some_iff.mp hx).1
    have hxk : Ky x := hV x (List.mem_of_getElem? hx)
    have hdr : V.drop i = x :: V.drop (i + 1) := by
      rw [List.drop_eq_getElem_cons hi]
      congr 1
      exact (List.getElem?_eq_some_iff.mp hx).2
    rw [hdr, dueF] at h1
    have hin := in_Ky hxk h2
    have hxm := hxk.pk.im
    have hrow := plL h2
    simp (disch := first | omega | simp) [R_put, norm_im hxm, setV, -exS_st]
    refine w_if (fun q => ?_) (fun q => ?_)
    · have q : row.length = b := by have := q; simp at this; omega
      simp [hlq, hrl h2]
      rw [if_pos q] at h1
      subst hQ'
      subst hQ
      show _ = _
      rw [h1]
    · have q : ¬ row.length = b := by have := q; simp at this; omega
      rw [if_neg q] at h1
      simp (disch := first | omega | simp) [cmpD, hin, -exS_st]
      refine w_if (fun q2 => ?_) (fun q2 => ?_)
      · have q2 : ¬ row.any (fun y => pyEq y x) = true := by have := q2; simp at this ⊢; exact this
        rw [if_neg q2] at h1
        simp only [List.cons_append, List.nil_append, R_exB]
        rw [app_im (m := 10) (n := 0) (d := x) (xs := row) rfl (by simp) (by omega) (by rw [SZv]; omega) (by simp) hxm]
        simp
        exact fin_nx hQ' ⟨_, _, rfl, h1, fun u hu => by
          rcases List.mem_append.mp hu with z | z
          · exact h2 u z
          · rw [List.mem_singleton.mp z]; exact hxk, by simp; omega⟩
      · have q2 : row.any (fun y => pyEq y x) = true := by have := q2; simp at this ⊢; exact this
        rw [if_pos q2] at h1
        simp
        exact fin_nx hQ' ⟨_, _, rfl, h1, h2, by omega⟩
  · obtain ⟨row, r3, hρ, h1, h2, h3⟩ := hI
    subst hρ
    simp [hlq, hrl h2]
    refine giv hQ ?_
    simp at h1
    rw [h1]; rfl
end

end K53

namespace K53
open Vy
section
open Vy.W
theorem cmp_Ky {V : List D} (h : ∀ u ∈ V, Ky u) : cmpD .eq (.lst V) (.lst V) = some true ∧ cmpD .ne (.lst V) (.lst V) = some false := by
  have hr : pyEqL V V = true := by
    have hp := plainL_iff.mpr fun u hu => (h u hu).pl
    exact (plain_eqL hp hp).mpr rfl
  have ho := (plL h).2
  have hd : depL V ≤ 59 := depL_le fun d hd => Nat.le_trans (h d hd).dp (by decide)
  constructor <;> simp [cmpD, hr, ho, pyEq, eqOk, D.dep] <;> exact go_pos hd
theorem due_kept (k : Nat) {b : Nat} {rs : List (D × D)} {U : List D} (h : Kept b rs U) (hl : U.length ≤ 1000) : run G Pr (k+1) 213 [.lst U, .int (b : Int)] = .ok (.lst (rs.map (·.1)), 9) := by
  rw [due_run k U b h.uk hl, dueF_eq h.ur (by simp) (by simp)]
  have : (([] : List D) ++ (dd U.reverse).filter fun y => !(([] : List D).any fun z => pyEq z y)).take b = (rs.map (·.1)).reverse := by
    rw [h.eq, List.nil_append]
    exact congrArg _ (List.filter_eq_self.mpr fun _ _ => rfl)
  rw [this, List.reverse_reverse]
theorem stands (k : Nat) {b : Nat} {rs : List (D × D)} (hr : RwOk rs) (hk : ∀ p ∈ rs, Ky p.1) (xs : List D) (n : Nat) (hn : 2 ≤ n) (hx : xs.length ≤ 1000) : runI G Pr (k+2) 214 [(SH b rs, 0), (.lst (rs.map (·.1)), 0), (.lst xs, n)] = .ok (.bl true, 9) [(.lst (xs ++ [.tup [.lst (rs.map (·.1)), .lst (rs.map (·.1))]]), 2)] := by
  have e0 := kept_run k b rs hr
  have hV : ∀ u ∈ rs.map (·.1), Ky u := fun u hu => by
    obtain ⟨p, hp, e⟩ := List.mem_map.mp hu
    exact e ▸ hk p hp
  have hVl : (rs.map (·.1)).length ≤ 2000 := by rw [List.length_map]; exact hr.len
  generalize rs.map (·.1) = V at *
  obtain ⟨c1, c2⟩ := cmp_Ky hV
  have hz := (plL hV).1
  rw [ri214 (k + 1) _ rfl]
  have ei : initI 5 [(SH b rs, 0), (.lst V, 0), (.lst xs, n)] = [some (SH b rs, 0), some (.lst V, 0), some (.lst xs, n), none, none] := by
    simp [initI]
  rw [ei]
  generalize run G Pr (k + 1) = cf at *
  have hsz : xs.length + 1 ≤ SZ := by rw [SZv]; omega
  have hlv : lvIn n (.tup [.lst V, .lst V], 1) = 2 := by
    have : (D.tup [.lst V, .lst V]).mdep ≠ 0 := by simp [D.mdep, mdepL]
    unfold lvIn
    rw [if_neg this]
    show min n 2 = 2
    omega
  have ha : ∀ ρ, exS G (cf.wio [2]) [] ρ (.amv 2 3) = amvD [2] [] ρ 2 3 := fun ρ => by rw [exS] <;> rfl
  have hd : amvD [2] [] [some (SH b rs, 0), some (.lst V, 0), some (.lst xs, n), some (.lst V, 10), none] 2 3 = .nx [some (SH b rs, 0), some (.lst V, 0), some (.lst (xs ++ [.tup [.lst V, .lst V]]), 2), none, none] := by
    have : 1 ≤ n := by omega
    simp [amvD, hz, this, hsz] at hlv ⊢
    exact hlv
  have hb : ∀ (ρ : Env) (i : Nat) (ns : List Nat), bindV ρ i (.lst V, 10) ns = ρ.set i (some (.lst V, 10)) := fun _ _ _ => bindV_l (by omega)
  have hap : ∀ ρ : Env, (ρ[4]?).bind id = some (.lst V, 10) → exS G (cf.wio [2]) [] ρ (.app 4 (.tup [.cst (.str [97])])) = .nx (ρ.set 4 (some (.lst (V ++ [.tup [.str [97]]]), 10))) := fun ρ h =>
    app_im (m := 10) (n := 9) h (by simp) (by omega) (by rw [SZv]; omega) (by simp [lvL, gd_pos (show 1 ≤ SZ by decide)]) (by simp [D.mdep, mdepL])
  unfold c214
  simp [e0, onJ, okJ, hb, c1, c2, ha, hd, hap, outI, iosOf, isaD, isiOk]
  done
end

end K53

namespace K53
open Vy
section
open Vy.W
theorem exS_ifXD (cf : Runs) (L : List Nat) (ρ : Env) (x : Xp) (a b : List S) : exS G cf L ρ (.ifX x a b) = onX (exX G cf L ρ x) fun p ρ1 => osOf ((truth p.1).map fun c => if c = true then exB G cf L ρ1 a else exB G cf L ρ1 b) := by rw [exS]
theorem slot_get {ρ : Env} {i : Nat} {q : D × Nat} (h : (ρ[i]?).bind id = some q) : ρ[i]? = some (some q) := by
  cases e : ρ[i]? with
  | none => rw [e] at h; cases h
  | some o => rw [e] at h; have : o = some q := h; rw [this]
variable {cf : Runs} {L : List Nat} {ρ : Env} {S W : List D} {n j me : Nat} {b : Int} {rs : List (D × D)} {e : C}
theorem pos_at {S : List D} {j : Nat} (hj : j < S.length) : posP (.lst S) (.at (.int (j : Int))) = some j := by
  show ix S.length (j : Int) = some j
  unfold ix
  rw [if_pos (by omega), if_pos (by omega)]
  simp
theorem get_at {S : List D} {n j : Nat} {d : D} (h : S[j]? = some d) : getP (.lst S, n + 1) [.at (.int (j : Int))] = some (d, n) := by
  rw [getP, pos_at (List.getElem?_eq_some_iff.mp h).1, Option.bind_some]
  show (S[j]?).bind _ = _
  rw [h]; rfl
theorem put_at {S : List D} {j : Nat} {d y : D} (h : S[j]? = some d) : putP (.lst S) [.at (.int (j : Int))] y = .lst (S.set j y) := by
  rw [putP, pos_at (List.getElem?_eq_some_iff.mp h).1]
  show (match S[j]? with | some d' => setK (.lst S) j (putP d' [] y) | none => _) = _
  rw [h]; rfl
theorem ex_lay {c1 c2 : C} {x t : D} {m1 m2 : Nat} (hlen : ρ.length = 13) (h3 : (ρ[3]?).bind id = some (.lst S, n + 3)) (hL : 3 ∉ L) (hL2 : 13 ∉ L) (hj : S[j]? = some (SH b rs)) (he : ev G cf ρ e = .ok (.int (j : Int), me))
    (hv : ∀ y, evs G cf (ρ.set 3 y) [c1, c2] = .ok [(x, m1), (t, m2)]) (hx : x.mdep = 0) (ht : t.mdep = 0) (hc : cf.ci 197 [(SH b rs, n + 2), (x, 9), (t, 9)] = .ok (.non, 9) [(SH b (layR b rs x t), n + 2)]) (hr : RwOk (layR b rs x t)) :
    exS G cf L ρ (.expX (.ioc (some (98, [108, 97, 121])) 197 [⟨3, [.ix e]⟩] [.io 13, .pu c1, .pu c2])) = .nx (ρ.set 3 (some (.lst (S.set j (SH b (layR b rs x t))), n + 3))) := by
  have hrs : rsv G cf ρ [.ix e] = .ok [.at (.int (j : Int))] := by simp [he]
  have := ioc_one (G := G) (cf := cf) (L := L) (ρ := ρ) (rc := some (98, [108, 97, 121])) (f := 197) (p := ⟨3, [.ix e]⟩) (cs := [c1, c2]) (rs := [.at (.int (j : Int))]) (d := .lst S) (n := n + 3) (q := (SH b rs, n + 2)) (q' := (SH b (layR b rs x t), n + 2)) (r := (.non, 9)) (vals := [(x, m1), (t, m2)]) h3 hrs (get_at hj) (SH_ne b rs) hL (by rw [hlen]; exact hL2) (fun c m h => by cases h; exact ⟨_, _, rfl, by decide⟩) (hv _) (by simp [hx, ht]) (by simpa [norm_im hx, norm_im ht] using hc) (SH_ne _ _) rfl (SH_full _ _ hr n)
  rw [put_at hj, hlen] at this
  rw [exS_expX]
  rw [show ([.io 13, .pu c1, .pu c2] : List Aw) = .io 13 :: [c1, c2].map .pu from rfl, this]
  rfl
theorem ex_look {c1 : C} {x : D} {m1 l : Nat} (hlen : ρ.length = 13) (h3 : (ρ[3]?).bind id = some (.lst S, n + 3)) (hL : 3 ∉ L) (hL2 : 13 ∉ L) (hj : S[j]? = some (SH b rs)) (he : ev G cf ρ e = .ok (.int (j : Int), me))
    (hv : ∀ y, evs G cf (ρ.set 3 y) [c1] = .ok [(x, m1)]) (hx : x.mdep = 0) (hc : cf.ci 190 [(SH b rs, n + 2), (x, 9)] = .ok (lookV rs x, l) [(SH b (lookR rs x), n + 2)]) (hr : RwOk (lookR rs x)) :
    exS G cf L ρ (.expX (.ioc (some (98, [108, 111, 111, 107])) 190 [⟨3, [.ix e]⟩] [.io 13, .pu c1])) = .nx (ρ.set 3 (some (.lst (S.set j (SH b (lookR rs x))), n + 3))) := by
  have hrs : rsv G cf ρ [.ix e] = .ok [.at (.int (j : Int))] := by simp [he]
  have := ioc_one (G := G) (cf := cf) (L := L) (ρ := ρ) (rc := some (98, [108, 111, 111, 107])) (f := 190) (p := ⟨3, [.ix e]⟩) (cs := [c1]) (rs := [.at (.int (j : Int))]) (d := .lst S) (n := n + 3) (q := (SH b rs, n + 2)) (q' := (SH b (lookR rs x), n + 2)) (r := (lookV rs x, l)) (vals := [(x, m1)]) h3 hrs (get_at hj) (SH_ne b rs) hL (by rw [hlen]; exact hL2) (fun c m h => by cases h; exact ⟨_, _, rfl, by decide⟩) (hv _) (by simp [hx]) (by simpa [norm_im hx] using hc) (SH_ne _ _) rfl (SH_full _ _ hr n)
  rw [put_at hj, hlen] at this
  rw [exS_expX]
  rw [show ([.io 13, .pu c1] : List Aw) = .io 13 :: [c1].map .pu from rfl, this]
  rfl
theorem ex_app {c : C} {U : List D} {x : D} {m : Nat} (h4 : (ρ[4]?).bind id = some (.lst W, n + 2)) (hL : 4 ∉ L) (hj : W[j]? = some (.lst U)) (hl : U.length + 1 ≤ SZ) (he : ev G cf ρ e = .ok (.int (j : Int), me)) (hc : ev G cf ρ c = .ok (x, m)) (hx : x.mdep = 0) :
    exS G cf L ρ (.expX (.mop ⟨4, [.ix e]⟩ .app [c])) = .nx (ρ.set 4 (some (.lst (W.set j (.lst (U ++ [x]))), n + 2))) := by
  have hty : mTy .app (.lst U, n + 1) = true := by
    show (decide (1 ≤ n + 1) && true) = true
    simp
  have happ : nodeOp .app (.lst U, n + 1) [(x, m)] = some ((.lst (U ++ [x]), n + 1), (.non, 9)) := opApp_eq hl hx
  have hfx : full (x, m) = true := by simp [full, hx]
  have hg : getP (.lst W, n + 2) [.at (.int (j : Int))] = some (.lst U, n + 1) := get_at hj
  rw [exS_expX, exX_mop]
  simp only [rsv_at, rsv_nil, he, noX_ok, Out.bind_ok, onO_ok, nodeP, h4, Option.bind_some, hg, Option.map_some, OX.of_some, hty, if_true, evs_cons, evs_nil, hc]
  unfold mopX
  rw [if_neg hL, h4]
  simp only [Option.bind_some, hg, happ, List.all_cons, List.all_nil, hfx, Bool.and_self, if_true]
  unfold chgP
  rw [h4]
  simp only [Option.bind_some, hg, Option.map_some, OX.of_some, onX_ok, put_at hj]
  have : min (n + 2) (n + 1 + [Rtp.at (D.int (j : Int))].length) = n + 2 := by simp
  rw [this]
  simp [setV]
theorem st_any {i m : Nat} {xs : List D} {d : D} {k : C} (h : (ρ[i]?).bind id = some (.lst xs, n + 1)) (hL : i ∉ L) (hj : j < xs.length) (hk : ev G cf ρ k = .ok (.int (j : Int), me)) (he : ev G cf ρ e = .ok (d, m)) (hf : full (d, m) = true) :
    exS G cf L ρ (.st ⟨i, []⟩ k e) = .nx (ρ.set i (some (.lst (xs.set j d), lvIn (n + 1) (d, m)))) := by
  have hx : ix xs.length (j : Int) = some j := by
    unfold ix
    rw [if_pos (by omega), if_pos (by omega)]
    simp
  rw [exS_st, he]
  simp only [onE_ok, rsv_nil, hk, noX_ok, mopX, if_neg hL, h, Option.bind_some, getP, stOp, hx, Option.map_some, List.all_cons, List.all_nil, hf, Bool.and_self, chgP, OX.of_some, onX_ok, putP, setV, norm_lst]
  simp only [List.length_nil, Nat.add_zero]
  rw [Nat.min_eq_right (by unfold lvIn; split <;> omega)]
  simp
structure Two (B S W : List D) (m : Nat) : Prop where
  ex : ∃ (b0 b1 : Nat) (r0 r1 : List (D × D)) (U0 U1 : List D), B = [.int (b0 : Int), .int (b1 : Int)] ∧ S = [SH b0 r0, SH b1 r1] ∧ W = [.lst U0, .lst U1] ∧ Kept b0 r0 U0 ∧ Kept b1 r1 U1 ∧ b0 ≤ 200 ∧ b1 ≤ 200 ∧ U0.length ≤ m ∧ U1.length ≤ m
theorem Two.at {B S W : List D} {m j : Nat} (h : Two B S W m) (hj : j < 2) : ∃ (b : Nat) (rs : List (D × D)) (U : List D), B[j]? = some (.int (b : Int)) ∧ S[j]? = some (SH b rs) ∧ W[j]? = some (.lst U) ∧ Kept b rs U ∧ b ≤ 200 ∧ U.length ≤ m ∧
    ∀ rs' U' m', Kept b rs' U' → m ≤ m' → U'.length ≤ m' → Two B (S.set j (SH b rs')) (W.set j (.lst U')) m' := by
  obtain ⟨b0, b1, r0, r1, U0, U1, rfl, rfl, rfl, h0, h1, l0, l1, u0, u1⟩ := h.ex
  match j, hj with
  | 0, _ => exact ⟨b0, r0, U0, rfl, rfl, rfl, h0, l0, u0, fun rs' U' m' a c d => ⟨b0, b1, rs', r1, U', U1, rfl, rfl, rfl, a, h1, l0, l1, d, by omega⟩⟩
  | 1, _ => exact ⟨b1, r1, U1, rfl, rfl, rfl, h1, l1, u1, fun rs' U' m' a c d => ⟨b0, b1, r0, rs', U0, U', rfl, rfl, rfl, h0, a, l0, l1, by omega, d⟩⟩
theorem Two.len {B S W : List D} {m : Nat} (h : Two B S W m) : B.length = 2 ∧ S.length = 2 ∧ W.length = 2 := by
  obtain ⟨b0, b1, r0, r1, U0, U1, rfl, rfl, rfl, _⟩ := h.ex
  exact ⟨rfl, rfl, rfl⟩
theorem Two.mono {B S W : List D} {m m' : Nat} (h : Two B S W m) (hm : m ≤ m') : Two B S W m' := by
  obtain ⟨b0, b1, r0, r1, U0, U1, e1, e2, e3, h0, h1, l0, l1, u0, u1⟩ := h.ex
  exact ⟨b0, b1, r0, r1, U0, U1, e1, e2, e3, h0, h1, l0, l1, by omega, by omega⟩
structure Cl (cf : Runs) : Prop where
  io : cf.io = []
  lay : ∀ (b : Int) (rs : List (D × D)) (key t : D) (n : Nat), RwOk rs → rs.length < 2000 → Pk key → t.mdep = 0 → cf.ci 197 [(SH b rs, n + 2), (key, 9), (t, 9)] = .ok (.non, 9) [(SH b (layR b rs key t), n + 2)]
  look : ∀ (b : Int) (rs : List (D × D)) (key : D) (n : Nat), RwOk rs → Pk key → ∃ l, cf.ci 190 [(SH b rs, n + 2), (key, 9)] = .ok (lookV rs key, l) [(SH b (lookR rs key), n + 2)]
  due : ∀ (b : Nat) (rs : List (D × D)) (U : List D), Kept b rs U → U.length ≤ 1000 → cf 213 [.lst U, .int (b : Int)] = .ok (.lst (rs.map (·.1)), 9)
  thing : ∀ c : Int, ∃ d l, cf 202 [.int c] = .ok (d, l) ∧ d.mdep = 0
  made : ∀ b : Int, 0 ≤ b ∧ b ≤ 1000 → cf 1098 [.int b] = .ok (SH b [], 9)
  stands : ∀ (b : Nat) (rs : List (D × D)) (xs : List D) (n : Nat), RwOk rs → (∀ p ∈ rs, Ky p.1) → 2 ≤ n → xs.length ≤ 1000 → cf.ci 214 [(SH b rs, 0), (.lst (rs.map (·.1)), 0), (.lst xs, n)] = .ok (.bl true, 9) [(.lst (xs ++ [.tup [.lst (rs.map (·.1)), .lst (rs.map (·.1))]]), 2)]
theorem two_lay (hC : Cl cf) {B : List D} {m : Nat} (hT : Two B S W m) (hlen : ρ.length = 13) (h3 : (ρ[3]?).bind id = some (.lst S, 10)) (hL : 3 ∉ L) (hL2 : 13 ∉ L) (hL4 : 4 ∉ L) (hj : j < 2) {c1 c2 : C} {x t : D} {m1 m2 wl : Nat}
    (h4 : (ρ[4]?).bind id = some (.lst W, wl + 2))
    (he : ∀ y, ev G cf (ρ.set 3 y) e = .ok (.int (j : Int), me)) (hv : ∀ y, evs G cf (ρ.set 3 y) [c1, c2] = .ok [(x, m1), (t, m2)]) (hx : Ky x) (ht : t.mdep = 0) (hm : m ≤ 1000) :
    ∃ S' W', Two B S' W' (m + 1) ∧ ∀ rest, exB G cf L ρ (.expX (.ioc (some (98, [108, 97, 121])) 197 [⟨3, [.ix e]⟩] [.io 13, .pu c1, .pu c2]) :: .expX (.mop ⟨4, [.ix e]⟩ .app [c1]) :: rest) = exB G cf L ((ρ.set 3 (some (.lst S', 10))).set 4 (some (.lst W', wl + 2))) rest := by
  obtain ⟨b, rs, U, q1, q2, q3, hK, q5, q6, q7⟩ := hT.at hj
  have h3' : ρ.set 3 (some (.lst S, 10)) = ρ := by
    cases e3 : ρ[3]? with
    | none => rw [e3] at h3; cases h3
    | some o =>
      rw [e3] at h3
      have : o = some (.lst S, 10) := h3
      subst this
      exact List.ext_getElem? fun i => by
        rw [List.getElem?_set]
        split
        · rename_i z; subst z; rw [if_pos (by omega), e3]
        · rfl
  have hok := hK.ok (by omega)
  have hK2 := hK.lay hx ht
  refine ⟨_, _, q7 _ _ (m + 1) hK2 (by omega) (by simp; omega), fun rest => ?_⟩
  have he0 := he (some (.lst S, 10))
  rw [h3'] at he0
  have hc1 : ∀ y, ev G cf (ρ.set 3 y) c1 = .ok (x, m1) := fun y => by
    have := hv y
    rw [evs] at this
    obtain ⟨p, a1, a2⟩ := Out.bind_eq_ok this
    obtain ⟨ps, a3, a4⟩ := Out.bind_eq_ok a2
    cases a4
    exact a1
  rw [R_exB, ex_lay (n := 7) hlen h3 hL hL2 q2 he0 hv hx.pk.im ht (hC.lay b rs x t 7 hok (by have := hK.len; omega) hx.pk ht) (hK2.ok (by omega)), thenR_nx]
  rw [R_exB, ex_app (W := W) (U := U) (n := wl) (by rw [List.getElem?_set_ne (by decide)]; exact h4) hL4 q3 (by rw [SZv]; omega) (he _) (hc1 _) hx.pk.im, thenR_nx]
theorem two_look (hC : Cl cf) {B : List D} {m : Nat} (hT : Two B S W m) (hlen : ρ.length = 13) (h3 : (ρ[3]?).bind id = some (.lst S, 10)) (hL : 3 ∉ L) (hL2 : 13 ∉ L) (hL4 : 4 ∉ L) (hj : j < 2) {c1 : C} {x : D} {m1 wl bl : Nat}
    (h1 : (ρ[1]?).bind id = some (.lst B, bl)) (h4 : (ρ[4]?).bind id = some (.lst W, wl + 2))
    (he : ∀ y, ev G cf (ρ.set 3 y) e = .ok (.int (j : Int), me)) (hv : ∀ y, ev G cf (ρ.set 3 y) c1 = .ok (x, m1)) (hx : Ky x) (hm : m ≤ 900) :
    ∃ S' W', Two B S' W' (m + 1) ∧ ∀ rest, exB G cf L ρ (.expX (.ioc (some (98, [108, 111, 111, 107])) 190 [⟨3, [.ix e]⟩] [.io 13, .pu c1]) :: .ife (.cmp .isin c1 (.cal 213 [.sub (.var 4) e, .sub (.var 1) e])) [.expX (.mop ⟨4, [.ix e]⟩ .app [c1])] [] :: rest) = exB G cf L ((ρ.set 3 (some (.lst S', 10))).set 4 (some (.lst W', wl + 2))) rest := by
  obtain ⟨b, rs, U, q1, q2, q3, hK, q5, q6, q7⟩ := hT.at hj
  have h3' : ρ.set 3 (some (.lst S, 10)) = ρ := by
    cases e3 : ρ[3]? with
    | none => rw [e3] at h3; cases h3
    | some o =>
      rw [e3] at h3
      have : o = some (.lst S, 10) := h3
      subst this
      exact List.ext_getElem? fun i => by
        rw [List.getElem?_set]
        split
        · rename_i z; subst z; rw [if_pos (by omega), e3]
        · rfl
  have hok := hK.ok (by omega)
  have he0 := he (some (.lst S, 10))
  rw [h3'] at he0
  obtain ⟨l, hlk⟩ := hC.look b rs x 7 hok hx.pk
  have hdue := hC.due b rs U hK (by omega)
  have hV : ∀ u ∈ rs.map (·.1), Ky u := fun u hu => by
    obtain ⟨p, hp, e⟩ := List.mem_map.mp hu
    exact e ▸ hK.key p hp
  have hin := in_Ky hx hV
  have hmem : (rs.map (·.1)).any (fun y => pyEq y x) = true ↔ x ∈ (dd U.reverse).take b := by
    rw [any_mem hV hx, ← hK.eq, List.mem_reverse]
  have hok2 : RwOk (lookR rs x) := by
    by_cases hq : x ∈ (dd U.reverse).take b
    · exact (hK.look hx hq).ok (by omega)
    · rw [hK.none hx hq]; exact hok
  have hcond : ∀ y, ev G cf (ρ.set 3 y) (.cmp .isin c1 (.cal 213 [.sub (.var 4) e, .sub (.var 1) e])) = .ok (.bl ((rs.map (·.1)).any fun y => pyEq y x), 9) := fun y => by
    have g4 := slot_get h4
    have g1 := slot_get h1
    have s4 : subD (.lst W) (.int (j : Int)) = some (.lst U, 0) := sub_lst (by omega) (by simpa using q3)
    have s1 : subD (.lst B) (.int (j : Int)) = some (.int (b : Int), 0) := sub_lst (by omega) (by simpa using q1)
    simp [hv, he, g4, g1, s4, s1, hdue, cmpD, hin]
  by_cases hq : x ∈ (dd U.reverse).take b
  · have hK2 := hK.look hx hq
    refine ⟨_, _, q7 _ _ (m + 1) hK2 (by omega) (by simp; omega), fun rest => ?_⟩
    rw [R_exB, ex_look (n := 7) (m1 := m1) hlen h3 hL hL2 q2 he0 (fun y => by rw [evs, hv]; simp) hx.pk.im hlk hok2, thenR_nx]
    have hc := hcond (some (.lst (S.set j (SH b (lookR rs x))), 10))
    rw [hmem.mpr hq] at hc
    have ha := ex_app (cf := cf) (L := L) (ρ := ρ.set 3 (some (.lst (S.set j (SH b (lookR rs x))), 10))) (W := W) (U := U) (n := wl) (by rw [List.getElem?_set_ne (by decide)]; exact h4) hL4 q3 (by rw [SZv]; omega) (he _) (hv _) hx.pk.im
    simp [hc, ha, -exX_mop, -exS_expX]
  · refine ⟨_, _, q7 rs U (m + 1) hK (by omega) (by omega), fun rest => ?_⟩
    rw [R_exB, ex_look (n := 7) (m1 := m1) hlen h3 hL hL2 q2 he0 (fun y => by rw [evs, hv]; simp) hx.pk.im hlk hok2, thenR_nx]
    have hc := hcond (some (.lst (S.set j (SH b (lookR rs x))), 10))
    have hf : (rs.map (·.1)).any (fun y => pyEq y x) = false := by
      cases z : (rs.map (·.1)).any (fun y => pyEq y x) with
      | true => exact absurd (hmem.mp z) hq
      | false => rfl
    rw [hf] at hc
    have h4' : ∀ y, (ρ.set 3 y).set 4 (some (.lst (W.set j (.lst U)), wl + 2)) = ρ.set 3 y := fun y => by
      have : W.set j (.lst U) = W := List.ext_getElem? fun i => by
        rw [List.getElem?_set]
        split
        · rename_i z; subst z; rw [if_pos (by have := hT.len; omega), q3]
        · rfl
      rw [this]
      refine List.ext_getElem? fun i => ?_
      rw [List.getElem?_set]
      split
      · rename_i z; subst z
        rw [if_pos (by simp; omega), List.getElem?_set_ne (by decide)]
        cases e4 : ρ[4]? with
        | none => rw [e4] at h4; cases h4
        | some o => rw [e4] at h4; have : o = some (.lst W, wl + 2) := h4; rw [this]
      · rfl
    rw [hK.none hx hq] at hc ⊢
    rw [h4']
    simp [hc]
end

end K53

namespace K53
open Vy
section
open Vy.W
def pr53 (F : List D) : D := .tup [.lst F, .lst F]
theorem pr53_map {H : List (List D)} (h : ∀ F ∈ H, ∀ u ∈ F, Ky u) : mdepL (H.map pr53) ≤ 1 := mdepL_le fun d hd => by
  obtain ⟨F, hF, rfl⟩ := List.mem_map.mp hd
  have := (plL (h F hF)).1
  simp [pr53, D.mdep, mdepL, this]
theorem full_pr53 {H : List (List D)} (h : ∀ F ∈ H, ∀ u ∈ F, Ky u) : full (.lst (H.map pr53), 2) = true := by
  have := pr53_map h
  simp [full, D.mdep]
  omega
theorem ex_stands {cf : Runs} (hC : Cl cf) {L : List Nat} (hL : 5 ∉ L) {B S W : List D} {m j hl vl : Nat} (hT : Two B S W m) (hj : j < 2) (hm : m ≤ 1000) {H : List (List D)} (hH : ∀ F ∈ H, ∀ u ∈ F, Ky u) (hHl : H.length ≤ 1000) (hl2 : 2 ≤ hl)
    {b : Nat} {rs : List (D × D)} (q2 : S[j]? = some (SH b rs)) (hr : RwOk rs) (hk : ∀ p ∈ rs, Ky p.1) (s0 s1 s2 s4 s6 s7 s8 s10 s12 : Option (D × Nat)) :
    exX G cf L [s0, s1, s2, some (.lst S, 10), s4, some (.lst (H.map pr53), hl), s6, s7, s8, some (.int (j : Int), 9), s10, some (.lst (rs.map (·.1)), vl), s12] (.iow 214 [.pu (.sub (.var 3) (.var 9)), .pu (.var 11), .io 5]) = .ok (.bl true, 9) [s0, s1, s2, some (.lst S, 10), s4, some (.lst ((H ++ [rs.map (·.1)]).map pr53), 2), s6, s7, s8, some (.int (j : Int), 9), s10, some (.lst (rs.map (·.1)), vl), s12] := by
  have s3 : subD (.lst S) (.int (j : Int)) = some (SH b rs, 0) := sub_lst (by omega) (by simpa using q2)
  have hV : ∀ u ∈ rs.map (·.1), Ky u := fun u hu => by
    obtain ⟨p, hp, e⟩ := List.mem_map.mp hu
    exact e ▸ hk p hp
  have hH2 : ∀ F ∈ H ++ [rs.map (·.1)], ∀ u ∈ F, Ky u := fun F hF => by
    rcases List.mem_append.mp hF with z | z
    · exact hH F z
    · rw [List.mem_singleton.mp z]; exact hV
  have hc := hC.stands b rs (H.map pr53) hl hr hk hl2 (by simpa using hHl)
  have eH : H.map pr53 ++ [.tup [.lst (rs.map (·.1)), .lst (rs.map (·.1))]] = (H ++ [rs.map (·.1)]).map pr53 := by simp [pr53]
  rw [eH] at hc
  have hf := full_pr53 hH2
  generalize (H ++ [rs.map (·.1)]).map pr53 = HH at hc hf ⊢
  generalize H.map pr53 = H1 at *
  rw [exX, iowX]
  have e : evAw G cf [s0, s1, s2, some (.lst S, 10), s4, some (.lst H1, hl), s6, s7, s8, some (.int (j : Int), 9), s10, some (.lst (rs.map (·.1)), vl), s12] [.pu (.sub (.var 3) (.var 9)), .pu (.var 11), .io 5] = .ok [(SH b rs, 0), (.lst (rs.map (·.1)), 0), (.lst H1, hl)] := by
    simp [evAw, s3]
  rw [e]
  simp only [onO_ok]
  rw [if_pos ⟨by simp [Aw.ios], by simp [Aw.ios, hL], by simp [Aw.ios, awSep, names]⟩, hc]
  simp only
  rw [if_pos ⟨by simp [Aw.ios], .inl (by simp [hf])⟩]
  simp [Aw.ios, setL, setV]
def In53 (ns : List Int) (B K : List D) (l : List Int) (wl dn m h : Nat) (ρ : Env) : Prop := ∃ (S W : List D) (H : List (List D)) (hl : Nat) (r7 r8 r9 r10 r11 : Option (D × Nat)), ρ = [some (.scr ns, 9), some (.lst B, 10), some (.lst K, 10), some (.lst S, 10), some (.lst W, wl + 2), some (.lst (H.map pr53), hl), some (.lst (l.map .int), dn), r7, r8, r9, r10, r11, none] ∧ Two B S W m ∧ (∀ F ∈ H, ∀ u ∈ F, Ky u) ∧ H.length ≤ h ∧ 2 ≤ hl
theorem due53 {cf : Runs} (hC : Cl cf) {L : List Nat} {B S W : List D} {m j wl : Nat} (hT : Two B S W m) (hj : j < 2) (hm : m ≤ 1000) {b : Nat} {rs : List (D × D)} {U : List D} (q1 : B[j]? = some (.int (b : Int))) (q3 : W[j]? = some (.lst U)) (hK : Kept b rs U) (hU : U.length ≤ m) (s0 s2 s3 s5 s6 s7 s8 s10 s11 s12 : Option (D × Nat)) (bl : Nat) :
    exS G cf L [s0, some (.lst B, bl), s2, s3, some (.lst W, wl), s5, s6, s7, s8, some (.int (j : Int), 9), s10, s11, s12] (.asg 11 (.cal 213 [.sub (.var 4) (.var 9), .sub (.var 1) (.var 9)])) = .nx [s0, some (.lst B, bl), s2, s3, some (.lst W, wl), s5, s6, s7, s8, some (.int (j : Int), 9), s10, some (.lst (rs.map (·.1)), 9), s12] := by
  have s4 : subD (.lst W) (.int (j : Int)) = some (.lst U, 0) := sub_lst (by omega) (by simpa using q3)
  have s1 : subD (.lst B) (.int (j : Int)) = some (.int (b : Int), 0) := sub_lst (by omega) (by simpa using q1)
  have hz : mdepL (rs.map (·.1)) = 0 := (plL fun u hu => by
    obtain ⟨p, hp, e⟩ := List.mem_map.mp hu
    exact e ▸ hK.key p hp).1
  have hb : ∀ (ρ : Env) (i : Nat) (ns : List Nat), bindV ρ i (.lst (rs.map (·.1)), 9) ns = ρ.set i (some (.lst (rs.map (·.1)), 9)) := fun _ _ _ => bindV_l (by omega)
  have hd := hC.due b rs U hK (by omega)
  simp [s4, s1, hd, hb, hC.io, onJ, okJ]
theorem end53 {cf : Runs} (hC : Cl cf) {ns : List Int} {B K : List D} {l : List Int} {wl dn : Nat} {ρ : Env} (hI : In53 ns B K l wl dn 500 100 ρ) {Q : Post} (hQ : Q = Gives fun p => p.1 = .bl true) : Sat (exB G cf [] ρ (c215.drop 8)) Q := by
  obtain ⟨S, W, H, hl, r7, r8, r9, r10, r11, hρ, hT, hH, hHl, hl2⟩ := hI
  subst hρ
  simp only [c215, List.drop_succ_cons, List.drop_zero]
  have rp : rngD [D.int 2] = .ok ((List.range 2).map fun (j : Nat) => D.int (j : Int)) := rng_nat (n := 2) (by omega)
  simp (disch := first | omega | simp) [rp, -exS_st]
  refine v_rng (n := 2) (fun i ρ => ∃ (H : List (List D)) (hl : Nat) (r9 r11 : Option (D × Nat)), ρ = [some (.scr ns, 9), some (.lst B, 10), some (.lst K, 10), some (.lst S, 10), some (.lst W, wl + 2), some (.lst (H.map pr53), hl), some (.lst (l.map .int), dn), r7, r8, r9, r10, r11, none] ∧ (∀ F ∈ H, ∀ u ∈ F, Ky u) ∧ H.length ≤ 100 + i ∧ 2 ≤ hl) 9 (by rw [hC.io]; rfl) ⟨H, hl, r9, r11, rfl, hH, hHl, hl2⟩ (fun j ρ hj hI Q' hQ' => ?_) (fun ρ hI => ?_)
  · obtain ⟨H, hl, r9, r11, hρ, hH, hHl, hl2⟩ := hI
    subst hρ
    obtain ⟨b, rs, U, q1, q2, q3, hKt, q5, q6, _⟩ := hT.at hj
    simp only [List.set_cons_succ, List.set_cons_zero]
    rw [R_exB, due53 hC hT hj (by omega) q1 q3 hKt q6, thenR_nx]
    have hst := ex_stands hC (L := []) (by simp) hT hj (by omega) hH (by omega) hl2 q2 (hKt.ok (by omega)) hKt.key (vl := 9)
    generalize hX : Xp.iow 214 [.pu (.sub (.var 3) (.var 9)), .pu (.var 11), .io 5] = X at *
    simp [exS_ifXD, hst, osOf, -exS_st]
    refine fin_nx hQ' ⟨H ++ [rs.map (·.1)], 2, some (.int (j : Int), 9), some (.lst (rs.map (·.1)), 9), by simp, fun F hF => ?_, by simp; omega, by omega⟩
    rcases List.mem_append.mp hF with z | z
    · exact hH F z
    · rw [List.mem_singleton.mp z]
      intro u hu
      obtain ⟨p, hp, e⟩ := List.mem_map.mp hu
      exact e ▸ hKt.key p hp
  · obtain ⟨H, hl, r9, r11, hρ, hH, hHl, hl2⟩ := hI
    subst hρ
    have hc : ∀ ρ : Env, ρ.length = 13 → compL (turnF G cf ρ (.one 12) none (.cmp .eq (.sub (.var 12) (.cst (.int 0))) (.sub (.var 12) (.cst (.int 1))))) (H.map pr53) = .ok (H.map fun _ => (D.bl true, 9)) := fun ρ hρ => by
      refine compL_mp (fun F hF => ?_) (by rw [SZv]; omega)
      have e := (cmp_Ky (hH F hF)).1
      have : 12 < ρ.length := by omega
      simp [turnF, put_any, setV, norm, pr53, D.mdep, mdepL, List.getElem?_set, this, subD, at2_0, at2_1]
      simp [e]
    have ea := fun n => all_mp (fun _ : List D => true) H n
    simp [itemsOf, hc, Function.comp_def, ea]
    exact giv hQ (by simp)
end

end K53

namespace K53
open Vy
section
open Vy.W
theorem deed_end {cf : Runs} (hC : Cl cf) {ns : List Int} {B K : List D} {l : List Int} {wl dn m j : Nat} {S W : List D} {H : List (List D)} {hl : Nat} {r7 r10 r11 : Option (D × Nat)} {c : Int} (hT : Two B S W (m + 1)) (hH : ∀ F ∈ H, ∀ u ∈ F, Ky u) {i : Nat} (hHl : H.length ≤ i) (hi : i ≤ 200) (hl2 : 2 ≤ hl) (hj : j < 2) (hm : m ≤ 800) {Q : Post} (hQ : ∀ ρ, In53 ns B K l wl dn (m + 1) (i + 1) ρ → Q.nx ρ) :
    Sat (exB G cf [6] [some (.scr ns, 9), some (.lst B, 10), some (.lst K, 10), some (.lst S, 10), some (.lst W, wl + 2), some (.lst (H.map pr53), hl), some (.lst (l.map .int), dn), r7, some (.int c, 9), some (.int (j : Int), 9), r10, r11, none]
      [.asg 11 (.cal 213 [.sub (.var 4) (.var 9), .sub (.var 1) (.var 9)]), .ifX (.and (.pu (.cmp .eq (.bin .mod (.bin .fdv (.var 8) (.cst (.int 35))) (.cst (.int 4))) (.cst (.int 1)))) (.not (.iow 214 [.pu (.sub (.var 3) (.var 9)), .pu (.var 11), .io 5]))) [.ret (.cst (.bl false))] []]) Q := by
  obtain ⟨b, rs, U, q1, q2, q3, hKt, q5, q6, _⟩ := hT.at hj
  rw [R_exB, due53 hC hT hj (by omega) q1 q3 hKt q6, thenR_nx]
  have hst := ex_stands hC (L := [6]) (by simp) hT hj (by omega) hH (by omega) hl2 q2 (hKt.ok (by omega)) hKt.key (vl := 9)
  generalize hX : Xp.iow 214 [.pu (.sub (.var 3) (.var 9)), .pu (.var 11), .io 5] = X at *
  by_cases hc : c / 35 % 4 = 1
  · simp (disch := first | omega | simp) [exS_ifXD, hst, osOf, mod_int, fdv_int, hc, -exS_st]
    refine hQ _ ⟨S, W, H ++ [rs.map (·.1)], 2, r7, some (.int c, 9), some (.int (j : Int), 9), r10, some (.lst (rs.map (·.1)), 9), by simp, hT, fun F hF => ?_, by simp; omega, by omega⟩
    rcases List.mem_append.mp hF with z | z
    · exact hH F z
    · rw [List.mem_singleton.mp z]
      intro u hu
      obtain ⟨p, hp, e⟩ := List.mem_map.mp hu
      exact e ▸ hKt.key p hp
  · simp (disch := first | omega | simp) [exS_ifXD, hst, osOf, mod_int, fdv_int, hc, -exS_st]
    exact hQ _ ⟨S, W, H, hl, r7, _, _, _, _, rfl, hT, hH, by omega, hl2⟩
theorem deeds53 {cf : Runs} (hC : Cl cf) {ns : List Int} {B K : List D} {l : List Int} {wl dn : Nat} {ρ : Env} (hI : In53 ns B K l wl dn 300 0 ρ) (hK : ∀ d ∈ K, Ky d) (hK0 : 0 < K.length) (hKl : K.length ≤ 200) (hl : l.length ≤ 100) {Q : Post} (hQ : Q = Gives fun p => p.1 = .bl true) : Sat (exB G cf [] ρ (c215.drop 7)) Q := by
  have et : ∀ ρ, In53 ns B K l wl dn 500 100 ρ → Sat (exB G cf [] ρ (c215.drop 8)) Q := fun ρ h => end53 hC h hQ
  rw [show c215.drop 7 = .for_ (.one 8) (.var 6) [.asg 9 (.bif .int [.cmp .eq (.bin .mod (.var 8) (.cst (.int 7))) (.cst (.int 3))]), .asg 10 (.sub (.var 2) (.bin .mod (.bin .fdv (.var 8) (.cst (.int 35))) (.bif .len [.var 2]))), .ife (.cmp .lt (.bin .mod (.bin .fdv (.var 8) (.cst (.int 7))) (.cst (.int 5))) (.cst (.int 3))) [.expX (.ioc (some (98, [108, 97, 121])) 197 [⟨3, [.ix (.var 9)]⟩] [.io 13, .pu (.var 10), .pu (.cal 202 [.bin .fdv (.var 8) (.cst (.int 35))])]), .expX (.mop ⟨4, [.ix (.var 9)]⟩ .app [.var 10])] [.expX (.ioc (some (98, [108, 111, 111, 107])) 190 [⟨3, [.ix (.var 9)]⟩] [.io 13, .pu (.var 10)]), .ife (.cmp .isin (.var 10) (.cal 213 [.sub (.var 4) (.var 9), .sub (.var 1) (.var 9)])) [.expX (.mop ⟨4, [.ix (.var 9)]⟩ .app [.var 10])] []], .asg 11 (.cal 213 [.sub (.var 4) (.var 9), .sub (.var 1) (.var 9)]), .ifX (.and (.pu (.cmp .eq (.bin .mod (.bin .fdv (.var 8) (.cst (.int 35))) (.cst (.int 4))) (.cst (.int 1)))) (.not (.iow 214 [.pu (.sub (.var 3) (.var 9)), .pu (.var 11), .io 5]))) [.ret (.cst (.bl false))] []] :: c215.drop 8 from rfl]
  generalize c215.drop 8 = rest at et
  obtain ⟨S, W, H, hl', r7, r8, r9, r10, r11, hρ, hT, hH, hHl, hl2⟩ := hI
  have hI : In53 ns B K l wl dn 300 0 ρ := ⟨S, W, H, hl', r7, r8, r9, r10, r11, hρ, hT, hH, hHl, hl2⟩
  clear hT hH hHl hl2
  have hfz : full (D.lst (l.map .int), 0) = false := by simp [full, D.mdep]
  have hmz : mdepL (l.map D.int) = 0 := mdepL_zero fun d hd => by
    obtain ⟨_, _, rfl⟩ := List.mem_map.mp hd
    rfl
  subst hρ
  simp (disch := first | omega | simp) [-exS_st]
  refine v_forZ (xs := l.map .int) (fun i ρ => In53 ns B K l wl dn (300 + i) i ρ) rfl hfz hmz (by rw [hC.io]; rfl) hI (fun i x ρ hx hI Q' hQ' => ?_) (fun ρ hI => ?_)
  · have hi : i < l.length := by have := (List.getElem?_eq_some_iff.mp hx).1; simpa using this
    obtain ⟨c, rfl⟩ : ∃ c : Int, x = .int c := by
      obtain ⟨c, _, e⟩ := List.mem_map.mp (List.mem_of_getElem? hx)
      exact ⟨c, e.symm⟩
    obtain ⟨S, W, H, hl, r7, r8, r9, r10, r11, hρ, hT, hH, hHl, hl2⟩ := hI
    subst hρ
    have hm : ∀ a : Int, 0 ≤ a % (K.length : Int) ∧ a % (K.length : Int) < K.length := fun a => ⟨Int.emod_nonneg _ (by omega), Int.emod_lt_of_pos _ (by omega)⟩
    have hne : ((K.length : Int)) ≠ 0 := by omega
    obtain ⟨x, hxK, hx2⟩ := sub_any (hm (c / 35)).1 (hm (c / 35)).2
    have hxk := hK x hxK
    have hb : ∀ (ρ : Env) (i n : Nat) (ns : List Nat), bindV ρ i (x, n) ns = ρ.set i (some (x, 9)) := fun _ _ _ _ => bindV_im hxk.pk.im
    obtain ⟨j, hj, ej⟩ : ∃ j : Nat, j < 2 ∧ (if c % 7 = 3 then (1 : Int) else 0) = j := by
      by_cases h : c % 7 = 3
      · exact ⟨1, by omega, by simp [h]⟩
      · exact ⟨0, by omega, by simp [h]⟩
    have ib : bifD .int [(.bl (decide (c % 7 = 3)), 9)] = some (.int (j : Int), 9) := by
      rw [← ej]
      by_cases h : c % 7 = 3 <;> simp [h, bifD]
    obtain ⟨td, tl, ht1, ht2⟩ := hC.thing (c / 35)
    simp (disch := first | omega | simp) [hC.io, onJ, okJ, mod_int, fdv_int, hx2, hb, hne, R_put, ib, -exS_st]
    have hn6 : names (C.var 6) = [6] := by simp [names]
    have hfin : ∀ ρ, In53 ns B K l wl dn (300 + i + 1) (i + 1) ρ → Q'.nx ρ := fun ρ h => by
      subst hQ'
      exact h
    refine w_if (fun q => ?_) (fun q => ?_)
    · obtain ⟨S', W', hT', e⟩ := two_lay (cf := cf) (L := [6]) (ρ := [some (.scr ns, 9), some (.lst B, 10), some (.lst K, 10), some (.lst S, 10), some (.lst W, wl + 2), some (.lst (H.map pr53), hl), some (.lst (l.map .int), dn), r7, some (.int c, 9), some (.int (j : Int), 9), some (x, 9), r11, none]) (e := .var 9) (me := 0) (c1 := .var 10) (c2 := .cal 202 [.bin .fdv (.var 8) (.cst (.int 35))]) (x := x) (t := td) (m1 := 0) (m2 := tl) hC hT rfl rfl (by simp) (by simp) (by simp) hj rfl (fun y => by simp) (fun y => by simp (disch := first | omega | simp) [fdv_int, ht1]) hxk ht2 (by omega)
      simp only [hn6, List.cons_append, List.nil_append]
      rw [e]
      exact deed_end hC hT' hH hHl (by omega) hl2 hj (by omega) hfin
    · obtain ⟨S', W', hT', e⟩ := two_look (cf := cf) (L := [6]) (ρ := [some (.scr ns, 9), some (.lst B, 10), some (.lst K, 10), some (.lst S, 10), some (.lst W, wl + 2), some (.lst (H.map pr53), hl), some (.lst (l.map .int), dn), r7, some (.int c, 9), some (.int (j : Int), 9), some (x, 9), r11, none]) (e := .var 9) (me := 0) (c1 := .var 10) (x := x) (m1 := 0) hC hT rfl rfl (by simp) (by simp) (by simp) hj rfl rfl (fun y => by simp) (fun y => by simp) hxk (by omega)
      simp only [hn6, List.cons_append, List.nil_append]
      rw [e]
      exact deed_end hC hT' hH hHl (by omega) hl2 hj (by omega) hfin
  · obtain ⟨S, W, H, hl', r7, r8, r9, r10, r11, hρ, hT, hH, hHl, hl2⟩ := hI
    refine et _ ⟨S, W, H, hl', r7, r8, r9, r10, r11, hρ, hT.mono (by simp; omega), hH, by simp at hHl; omega, hl2⟩
end

end K53

namespace K53
open Vy
section
open Vy.W
theorem cl53 (k : Nat) : Cl (run G Pr (k + 3)) := ⟨rfl, fun b rs key t n h1 h2 h3 h4 => lay_run (k + 1) b rs key t n h1 h2 h3 h4, fun b rs key n h1 h2 => look_run (k + 1) b rs key n h1 h2, fun b rs U h1 h2 => due_kept (k + 2) h1 h2, fun c => thing (k + 2) c, fun b h => made_run k b h, fun b rs xs n h1 h2 h3 h4 => stands (k + 1) h1 h2 xs n h3 h4⟩
theorem laid53 {cf : Runs} (hC : Cl cf) {B K S W : List D} {wl : Nat} (hT : Two B S W 0) (hK : ∀ d ∈ K, Ky d) (hKl : K.length ≤ 145) (s0 s5 s6 r7 s8 s9 s10 s11 s12 : Option (D × Nat)) (rest : List Vy.S) {Q : Post} {stm : Vy.S} {ρ : Env} (hst : stm = .for_ (.one 7) (.rng [.bif .len [.var 2]]) [.expX (.ioc (some (98, [108, 97, 121])) 197 [⟨3, [.ix (.cst (.int 0))]⟩] [.io 13, .pu (.sub (.var 2) (.var 7)), .pu (.var 7)]), .expX (.mop ⟨4, [.ix (.cst (.int 0))]⟩ .app [.sub (.var 2) (.var 7)]), .ife (.cmp .eq (.bin .mod (.var 7) (.cst (.int 9))) (.cst (.int 4))) [.expX (.ioc (some (98, [108, 111, 111, 107])) 190 [⟨3, [.ix (.cst (.int 0))]⟩] [.io 13, .pu (.sub (.var 2) (.bin .fdv (.var 7) (.cst (.int 2))))]), .ife (.cmp .isin (.sub (.var 2) (.bin .fdv (.var 7) (.cst (.int 2)))) (.cal 213 [.sub (.var 4) (.cst (.int 0)), .sub (.var 1) (.cst (.int 0))])) [.expX (.mop ⟨4, [.ix (.cst (.int 0))]⟩ .app [.sub (.var 2) (.bin .fdv (.var 7) (.cst (.int 2)))])] []] []]) (hρ : ρ = [s0, some (.lst B, 10), some (.lst K, 10), some (.lst S, 10), some (.lst W, wl + 2), s5, s6, r7, s8, s9, s10, s11, s12]) (hrest : ∀ S W r7, Two B S W 300 → Sat (exB G cf [] [s0, some (.lst B, 10), some (.lst K, 10), some (.lst S, 10), some (.lst W, wl + 2), s5, s6, r7, s8, s9, s10, s11, s12] rest) Q) :
    Sat (exB G cf [] ρ (stm :: rest)) Q := by
  subst hst
  subst hρ
  have er := rng_nat (n := K.length) (by omega)
  simp (disch := first | omega | simp) [er, -exS_st]
  refine v_rng (n := K.length) (fun i ρ => ∃ (S W : List D) (r7 : Option (D × Nat)), ρ = [s0, some (.lst B, 10), some (.lst K, 10), some (.lst S, 10), some (.lst W, wl + 2), s5, s6, r7, s8, s9, s10, s11, s12] ∧ Two B S W (2 * i)) 7 (by rw [hC.io]; rfl) ⟨S, W, r7, rfl, hT⟩ (fun i ρ hi hI Q' hQ' => ?_) (fun ρ hI => ?_)
  · obtain ⟨S, W, r7, hρ, hT⟩ := hI
    subst hρ
    simp only [List.set_cons_succ, List.set_cons_zero]
    have hx : K[i]? = some K[i] := List.getElem?_eq_getElem hi
    have hxk : Ky K[i] := hK _ (List.getElem_mem hi)
    have hs : subD (.lst K) (.int (i : Int)) = some (K[i], 0) := sub_lst (by omega) (by simpa using hx)
    have hy : i / 2 < K.length := by omega
    have hys : subD (.lst K) (.int ((i : Int) / 2)) = some (K[i / 2], 0) := by
      have e : (i : Int) / 2 = ((i / 2 : Nat) : Int) := by omega
      rw [e]
      exact sub_lst (by omega) (by rw [Int.toNat_natCast]; exact List.getElem?_eq_getElem hy)
    have hyk : Ky K[i / 2] := hK _ (List.getElem_mem hy)
    generalize K[i] = x at *
    generalize K[i / 2] = y at *
    obtain ⟨S', W', hT', e⟩ := two_lay (cf := cf) (L := []) (ρ := [s0, some (.lst B, 10), some (.lst K, 10), some (.lst S, 10), some (.lst W, wl + 2), s5, s6, some (.int (i : Int), 9), s8, s9, s10, s11, s12]) (e := .cst (.int 0)) (j := 0) (me := 9) (c1 := .sub (.var 2) (.var 7)) (c2 := .var 7) (x := x) (t := .int (i : Int)) (m1 := 0) (m2 := 0) hC hT rfl rfl (by simp) (by simp) (by simp) (by omega) rfl (fun y => by simp) (fun y => by simp (disch := first | omega | simp) [hs]) hxk (by simp) (by omega)
    rw [e]
    simp only [List.set_cons_succ, List.set_cons_zero]
    by_cases h9 : i % 9 = 4
    · have h9' : (i : Int) % 9 = 4 := by omega
      obtain ⟨S2, W2, hT2, e2⟩ := two_look (cf := cf) (L := []) (ρ := [s0, some (.lst B, 10), some (.lst K, 10), some (.lst S', 10), some (.lst W', wl + 2), s5, s6, some (.int (i : Int), 9), s8, s9, s10, s11, s12]) (e := .cst (.int 0)) (j := 0) (me := 9) (c1 := .sub (.var 2) (.bin .fdv (.var 7) (.cst (.int 2)))) (x := y) (m1 := 0) hC hT' rfl rfl (by simp) (by simp) (by simp) (by omega) rfl rfl (fun y => by simp) (fun y => by simp (disch := first | omega | simp) [fdv_int, hys]) hyk (by omega)
      have e3 := e2 []
      rw [R_exB] at e3
      simp (disch := first | omega | simp) [mod_int, h9', e3, -exS_expX, -exS_st]
      exact fin_nx hQ' ⟨S2, W2, _, rfl, hT2.mono (by omega)⟩
    · have h9' : ¬ (i : Int) % 9 = 4 := by omega
      simp (disch := first | omega | simp) [mod_int, h9', -exS_expX, -exS_st]
      exact fin_nx hQ' ⟨S', W', _, rfl, hT'.mono (by omega)⟩
  · obtain ⟨S, W, r7, hρ, hT⟩ := hI
    subst hρ
    exact hrest S W r7 (hT.mono (by omega))
theorem math : ∀ ns : List Int, ns.length ≤ 63 → ∃ m, run G Pr 60 215 [.scr ns] = .ok (.bl true, m) := by
  intro ns hns
  have hC := cl53 (56)
  have ec := fun i h => cell 58 ns i h
  have eb := fun c => bound_ 58 c
  have em := fun c => many_ 58 c
  have ek := fun c m h => keys (52) c m h
  obtain ⟨l, dn, ed, hdn, hll⟩ := deeds (57) ns hns
  simp only [r215]
  have hio : (run G Pr 59).io = [] := rfl
  generalize run G Pr 59 = cf at *
  suffices h : ∀ Q, Q = Gives (fun p => p.1 = .bl true) → Sat (exB G cf [] [some (.scr ns, 9), none, none, none, none, none, none, none, none, none, none, none, none] c215) Q by
    obtain ⟨⟨d, l⟩, e, hp⟩ := some_of h
    refine ⟨l, ?_⟩
    rw [← hp, ← e]
    simp
  intro Q hQ
  have et : ∀ ρ B K l wl dn, In53 ns B K l wl dn 300 0 ρ → (∀ d ∈ K, Ky d) → 0 < K.length → K.length ≤ 200 → l.length ≤ 100 → Sat (exB G cf [] ρ (c215.drop 7)) Q := fun ρ B K l wl dn h1 h2 h3 h4 h5 => deeds53 hC h1 h2 h3 h4 h5 hQ
  obtain ⟨stm, hst⟩ : ∃ stm : Vy.S, stm = .for_ (.one 7) (.rng [.bif .len [.var 2]]) [.expX (.ioc (some (98, [108, 97, 121])) 197 [⟨3, [.ix (.cst (.int 0))]⟩] [.io 13, .pu (.sub (.var 2) (.var 7)), .pu (.var 7)]), .expX (.mop ⟨4, [.ix (.cst (.int 0))]⟩ .app [.sub (.var 2) (.var 7)]), .ife (.cmp .eq (.bin .mod (.var 7) (.cst (.int 9))) (.cst (.int 4))) [.expX (.ioc (some (98, [108, 111, 111, 107])) 190 [⟨3, [.ix (.cst (.int 0))]⟩] [.io 13, .pu (.sub (.var 2) (.bin .fdv (.var 7) (.cst (.int 2))))]), .ife (.cmp .isin (.sub (.var 2) (.bin .fdv (.var 7) (.cst (.int 2)))) (.cal 213 [.sub (.var 4) (.cst (.int 0)), .sub (.var 1) (.cst (.int 0))])) [.expX (.mop ⟨4, [.ix (.cst (.int 0))]⟩ .app [.sub (.var 2) (.bin .fdv (.var 7) (.cst (.int 2)))])] []] []] := ⟨_, rfl⟩
  rw [show c215 = [.asg 1 (.lst [.cal 206 [.cal 4 [.var 0, .cst (.int 0)]], .cal 206 [.bin .fdv (.cal 4 [.var 0, .cst (.int 0)]) (.cst (.int 123))]]), .asg 2 (.cal 207 [.cal 4 [.var 0, .cst (.int 1)], .cal 208 [.cal 4 [.var 0, .cst (.int 2)]]]), .asg 3 (.lst [.cal 1098 [.sub (.var 1) (.cst (.int 0))], .cal 1098 [.sub (.var 1) (.cst (.int 1))]]), .asg 4 (.lst [.lst [], .lst []]), .asg 5 (.lst []), .asg 6 (.cal 209 [.var 0]), .ife (.cmp .eq (.bin .mod (.bin .fdv (.cal 4 [.var 0, .cst (.int 2)]) (.cst (.int 441))) (.cst (.int 8))) (.cst (.int 1))) [.st ⟨1, []⟩ (.cst (.int 0)) (.bin .add (.cst (.int 41)) (.bin .mod (.bin .fdv (.cal 4 [.var 0, .cst (.int 2)]) (.cst (.int 3528))) (.cst (.int 90)))), .st ⟨3, []⟩ (.cst (.int 0)) (.cal 1098 [.sub (.var 1) (.cst (.int 0))]), .asg 2 (.cal 207 [.cal 4 [.var 0, .cst (.int 1)], .bin .add (.sub (.var 1) (.cst (.int 0))) (.cst (.int 9))]), stm] []] ++ c215.drop 7 from by rw [hst]; rfl]
  generalize c215.drop 7 = rest at et
  obtain ⟨b0, eb0, hb0⟩ := eb (cellN ns 0)
  obtain ⟨b1, eb1, hb1⟩ := eb (cellN ns 0 / 123)
  obtain ⟨m, em, hm1, hm2⟩ := em (cellN ns 2)
  obtain ⟨K, ek1, hKl, hKk⟩ := ek (cellN ns 1) m (by omega)
  obtain ⟨b0, rfl⟩ := Int.eq_ofNat_of_zero_le hb0.1
  obtain ⟨b1, rfl⟩ := Int.eq_ofNat_of_zero_le hb1.1
  have em0 := hC.made b0 (by omega)
  have em1 := hC.made b1 (by omega)
  have hK1 : ∀ K : List D, (∀ d ∈ K, Ky d) → ∀ (ρ : Env) (i : Nat) (ns : List Nat), bindV ρ i (.lst K, 10) ns = ρ.set i (some (.lst K, 10)) := fun K hK _ _ _ => bindV_l (by have := (plL hK).1; omega)
  have hK2 := hK1 K hKk
  have hzl : mdepL (l.map D.int) = 0 := mdepL_zero fun d hd => by
    obtain ⟨_, _, rfl⟩ := List.mem_map.mp hd
    rfl
  have hdl : ∀ (ρ : Env) (i : Nat) (ns : List Nat), bindV ρ i (.lst (l.map .int), dn) ns = ρ.set i (some (.lst (l.map .int), dn)) := fun _ _ _ => bindV_l (by omega)
  have hBb : ∀ (a b : Int) (ρ : Env) (i : Nat) (ns : List Nat), bindV ρ i (.lst [.int a, .int b], 10) ns = ρ.set i (some (.lst [.int a, .int b], 10)) := fun _ _ _ _ _ => bindV_l (by simp [mdepL, D.mdep])
  have hSb : ∀ (ρ : Env) (i : Nat) (ns : List Nat), bindV ρ i (.lst [SH b0 [], SH b1 []], 10) ns = ρ.set i (some (.lst [SH b0 [], SH b1 []], 10)) := fun _ _ _ => bindV_l (by simp [SH, RW, mdepL, D.mdep])
  have h2 : 2 ≤ SZ := by decide
  have h0 : 0 ≤ SZ := by decide
  have hE : ∀ (ρ : Env) (i n : Nat) (ns : List Nat), bindV ρ i (.lst [], n + 1) ns = ρ.set i (some (.lst [], n + 1)) := fun _ _ _ _ => bindV_l (by simp [mdepL])
  have hW : ∀ (ρ : Env) (i n : Nat) (ns : List Nat), bindV ρ i (.lst [.lst [], .lst []], n + 2) ns = ρ.set i (some (.lst [.lst [], .lst []], n + 2)) := fun _ _ _ _ => bindV_l (by simp [mdepL, D.mdep])
  simp (disch := first | omega | simp) [hio, onJ, okJ, ec, eb0, eb1, em, ek1, em0, em1, ed, hK2, hdl, hBb, hSb, hE, hW, h2, h0, gd_pos, lvL, fdv_int, mod_int, -exS_st]
  generalize hq : cellN ns 2 = cq at *
  have hT : ∀ b0 b1 : Nat, b0 ≤ 200 → b1 ≤ 200 → Two [.int b0, .int b1] [SH b0 [], SH b1 []] [.lst [], .lst []] 0 := fun b0 b1 h0 h1 => ⟨b0, b1, [], [], [], [], rfl, rfl, rfl, Kept.zero b0, Kept.zero b1, h0, h1, by simp, by simp⟩
  refine w_if (fun q => ?_) (fun q => ?_)
  · obtain ⟨b2, eb2, hb2, hb3⟩ : ∃ b2 : Nat, 41 + cq / 3528 % 90 = (b2 : Int) ∧ 41 ≤ b2 ∧ b2 ≤ 130 := ⟨(41 + cq / 3528 % 90).toNat, by omega, by omega, by omega⟩
    obtain ⟨K2, ek2, hK2l, hK2k⟩ := ek (cellN ns 1) (b2 + 9) (by omega)
    rw [show ((b2 + 9 : Nat) : Int) = (b2 : Int) + 9 by omega] at ek2
    have hKb := hK1 K2 hK2k
    have em2 := hC.made b2 (by omega)
    simp only [List.cons_append, List.nil_append]
    rw [R_exB, st_any (cf := cf) (xs := [.int b0, .int b1]) (n := 9) (j := 0) (me := 9) (d := .int b2) (m := 9) rfl (by simp) (by simp) (by simp) (by simp (disch := first | omega | simp) [fdv_int, mod_int, ec, hq, eb2]) (by simp), thenR_nx]
    simp only [List.set_cons_succ, List.set_cons_zero, lvIn]
    rw [R_exB, st_any (cf := cf) (xs := [SH b0 [], SH b1 []]) (n := 9) (j := 0) (me := 9) (d := SH b2 []) (m := 9) rfl (by simp) (by simp) (by simp) (by simp [em2]) (by simp [full, SH, RW, D.mdep, mdepL]), thenR_nx]
    simp only [List.set_cons_succ, List.set_cons_zero, lvIn]
    rw [if_pos (show (D.int (b2 : Int)).mdep = 0 by simp), if_neg (SH_ne _ _)]
    obtain ⟨ρ2, hρ2⟩ : ∃ ρ2 : Env, ρ2 = [some (.scr ns, 9), some (.lst [.int b2, .int b1], 10), some (.lst K2, 10), some (.lst [SH b2 [], SH b1 []], 10), some (.lst [.lst [], .lst []], 10), some (.lst [], 10), some (.lst (l.map .int), dn), none, none, none, none, none, none] := ⟨_, rfl⟩
    have e2 : exS G cf [] [some (.scr ns, 9), some (.lst [.int b2, .int b1], 10), some (.lst K, 10), some (.lst [SH b2 [], SH b1 []], 10), some (.lst [.lst [], .lst []], 10), some (.lst [], 10), some (.lst (l.map .int), dn), none, none, none, none, none, none] (.asg 2 (.cal 207 [.cal 4 [.var 0, .cst (.int 1)], .bin .add (.sub (.var 1) (.cst (.int 0))) (.cst (.int 9))])) = .nx ρ2 := by
      subst hρ2
      simp (disch := first | omega | simp) [hio, onJ, okJ, ec, ek2, hKb]
    simp only [Nat.min_self, Nat.reduceAdd]
    rw [R_exB, e2, thenR_nx]
    refine @laid53 cf hC [.int b2, .int b1] K2 [SH b2 [], SH b1 []] [.lst [], .lst []] 8 (hT b2 b1 (by omega) (by omega)) hK2k (by omega) (some (.scr ns, 9)) (some (.lst [], 10)) (some (.lst (l.map .int), dn)) none none none none none none rest Q _ _ hst hρ2 (fun S W r7 hTT => ?_)
    exact et _ _ K2 l _ _ ⟨_, _, [], 10, _, _, _, _, _, rfl, hTT, by simp, by simp, by omega⟩ hK2k (by omega) (by omega) hll
  · refine et _ _ K l _ _ ⟨_, _, [], 10, _, _, _, _, _, rfl, (hT b0 b1 (by omega) (by omega)).mono (by omega), by simp, by simp, by omega⟩ hKk (by omega) (by omega) hll
end

end K53

namespace K53
open PySem PySem.Spec
open PyProof.Rows hiding St
open L2 Vy
section
set_option maxHeartbeats 0 in
theorem all_mk {l : PySem.W.OpenLaw} {w : World} {K : PySem.W.Frag} {h : Heap} {mg : Str → Option Value} {fa : Addr} (X : K.In h) (GG : h.Ns mainGlobals mg) (hfa : mg "law" = some (.ref fa))
    {CC98 : Addr} (ca98 : PySem.W.nsIn K mainGlobals "Shelf" = some (some (.ref CC98))) (cg98 : PySem.W.plainGet K CC98 Str.empty = true) (ch98 : PySem.W.hasDictIn K CC98 = true) (cp98 : PySem.W.plainOver K CC98 = true) (cs98 : PySem.W.findIn K (.ref CC98) "__setattr__" = some (some (.builtin "object.__setattr__"))) (cm98 : PySem.W.makesIn K CC98 = true) (ck98 : PySem.W.keepIn K (.ref CC98) = true)
    (cn98_0 : PySem.W.findIn K (.ref CC98) "bound" = some none)
    (cn98_1 : PySem.W.findIn K (.ref CC98) "rows" = some none)
    {f187 : Addr} {od187 an187 : Option Addr} {sl187 : Array (Option Value)} {oc187 kV187 dc187 pm187 cd187 ct187 : Value}
    (a187 : PySem.W.nsIn K mainGlobals "need_bound" = some (some (.ref f187))) (l187 : K.lookup f187 = some ⟨oc187, od187, .func (PySem.W.fnOf "need_bound" "need_bound" (defArgs s187) (defBody s187) (defScope s187) .none kV187 dc187 pm187 an187 cd187 ct187), sl187⟩) (q187 : PySem.W.codeIn K cd187 "need_bound" = true) (k187 : PySem.W.keepIn K (.ref f187) = true)
    {f188 : Addr} {od188 an188 : Option Addr} {sl188 : Array (Option Value)} {oc188 kV188 dc188 pm188 cd188 ct188 : Value}
    (a188 : PySem.W.nsIn K mainGlobals "place_of" = some (some (.ref f188))) (l188 : K.lookup f188 = some ⟨oc188, od188, .func (PySem.W.fnOf "place_of" "place_of" (defArgs s188) (defBody s188) (defScope s188) .none kV188 dc188 pm188 an188 cd188 ct188), sl188⟩) (q188 : PySem.W.codeIn K cd188 "place_of" = true) (k188 : PySem.W.keepIn K (.ref f188) = true)
    {f189 : Addr} {od189 an189 : Option Addr} {sl189 : Array (Option Value)} {oc189 kV189 dc189 pm189 cd189 ct189 : Value}
    (a189 : PySem.W.findIn K (.ref CC98) "__init__" = some (some (.ref f189))) (i189 : PySem.W.isFn K (.ref f189) = true) (l189 : K.lookup f189 = some ⟨oc189, od189, .func (PySem.W.fnOf "__init__" "Shelf.__init__" (defArgs s189) (defBody s189) (defScope s189) .none kV189 dc189 pm189 an189 cd189 ct189), sl189⟩) (q189 : PySem.W.codeIn K cd189 "Shelf.__init__" = true) (k189 : PySem.W.keepIn K (.ref f189) = true)
    {f190 : Addr} {od190 an190 : Option Addr} {sl190 : Array (Option Value)} {oc190 kV190 dc190 pm190 cd190 ct190 : Value}
    (a190 : PySem.W.findIn K (.ref CC98) "look" = some (some (.ref f190))) (i190 : PySem.W.isFn K (.ref f190) = true) (l190 : K.lookup f190 = some ⟨oc190, od190, .func (PySem.W.fnOf "look" "Shelf.look" (defArgs s190) (defBody s190) (defScope s190) .none kV190 dc190 pm190 an190 cd190 ct190), sl190⟩) (q190 : PySem.W.codeIn K cd190 "Shelf.look" = true) (k190 : PySem.W.keepIn K (.ref f190) = true)
    {f197 : Addr} {od197 an197 : Option Addr} {sl197 : Array (Option Value)} {oc197 kV197 dc197 pm197 cd197 ct197 : Value}
    (a197 : PySem.W.findIn K (.ref CC98) "lay" = some (some (.ref f197))) (i197 : PySem.W.isFn K (.ref f197) = true) (l197 : K.lookup f197 = some ⟨oc197, od197, .func (PySem.W.fnOf "lay" "Shelf.lay" (defArgs s197) (defBody s197) (defScope s197) .none kV197 dc197 pm197 an197 cd197 ct197), sl197⟩) (q197 : PySem.W.codeIn K cd197 "Shelf.lay" = true) (k197 : PySem.W.keepIn K (.ref f197) = true)
    {f192 : Addr} {od192 an192 : Option Addr} {sl192 : Array (Option Value)} {oc192 kV192 dc192 pm192 cd192 ct192 : Value}
    (a192 : PySem.W.findIn K (.ref CC98) "keys_kept" = some (some (.ref f192))) (i192 : PySem.W.isFn K (.ref f192) = true) (l192 : K.lookup f192 = some ⟨oc192, od192, .func (PySem.W.fnOf "keys_kept" "Shelf.keys_kept" (defArgs s192) (defBody s192) (defScope s192) .none kV192 dc192 pm192 an192 cd192 ct192), sl192⟩) (q192 : PySem.W.codeIn K cd192 "Shelf.keys_kept" = true) (k192 : PySem.W.keepIn K (.ref f192) = true)
    {f4 : Addr} {od4 an4 : Option Addr} {sl4 : Array (Option Value)} {oc4 kV4 dc4 pm4 cd4 ct4 : Value}
    (a4 : PySem.W.nsIn K mainGlobals "_law_cell" = some (some (.ref f4))) (l4 : K.lookup f4 = some ⟨oc4, od4, .func (PySem.W.fnOf "_law_cell" "_law_cell" (defArgs s4) (defBody s4) (defScope s4) .none kV4 dc4 pm4 an4 cd4 ct4), sl4⟩) (q4 : PySem.W.codeIn K cd4 "_law_cell" = true) (k4 : PySem.W.keepIn K (.ref f4) = true)
    {f199 : Addr} {od199 an199 : Option Addr} {sl199 : Array (Option Value)} {oc199 kV199 dc199 pm199 cd199 ct199 : Value}
    (a199 : PySem.W.nsIn K mainGlobals "_law_mixed" = some (some (.ref f199))) (l199 : K.lookup f199 = some ⟨oc199, od199, .func (PySem.W.fnOf "_law_mixed" "_law_mixed" (defArgs s199) (defBody s199) (defScope s199) .none kV199 dc199 pm199 an199 cd199 ct199), sl199⟩) (q199 : PySem.W.codeIn K cd199 "_law_mixed" = true) (k199 : PySem.W.keepIn K (.ref f199) = true)
    {f200 : Addr} {od200 an200 : Option Addr} {sl200 : Array (Option Value)} {oc200 kV200 dc200 pm200 cd200 ct200 : Value}
    (a200 : PySem.W.nsIn K mainGlobals "_law_part" = some (some (.ref f200))) (l200 : K.lookup f200 = some ⟨oc200, od200, .func (PySem.W.fnOf "_law_part" "_law_part" (defArgs s200) (defBody s200) (defScope s200) .none kV200 dc200 pm200 an200 cd200 ct200), sl200⟩) (q200 : PySem.W.codeIn K cd200 "_law_part" = true) (k200 : PySem.W.keepIn K (.ref f200) = true)
    {f201 : Addr} {od201 an201 : Option Addr} {sl201 : Array (Option Value)} {oc201 kV201 dc201 pm201 cd201 ct201 : Value}
    (a201 : PySem.W.nsIn K mainGlobals "_law_key" = some (some (.ref f201))) (l201 : K.lookup f201 = some ⟨oc201, od201, .func (PySem.W.fnOf "_law_key" "_law_key" (defArgs s201) (defBody s201) (defScope s201) .none kV201 dc201 pm201 an201 cd201 ct201), sl201⟩) (q201 : PySem.W.codeIn K cd201 "_law_key" = true) (k201 : PySem.W.keepIn K (.ref f201) = true)
    {f202 : Addr} {od202 an202 : Option Addr} {sl202 : Array (Option Value)} {oc202 kV202 dc202 pm202 cd202 ct202 : Value}
    (a202 : PySem.W.nsIn K mainGlobals "_law_thing" = some (some (.ref f202))) (l202 : K.lookup f202 = some ⟨oc202, od202, .func (PySem.W.fnOf "_law_thing" "_law_thing" (defArgs s202) (defBody s202) (defScope s202) .none kV202 dc202 pm202 an202 cd202 ct202), sl202⟩) (q202 : PySem.W.codeIn K cd202 "_law_thing" = true) (k202 : PySem.W.keepIn K (.ref f202) = true)
    {f206 : Addr} {od206 an206 : Option Addr} {sl206 : Array (Option Value)} {oc206 kV206 dc206 pm206 cd206 ct206 : Value}
    (a206 : PySem.W.nsIn K mainGlobals "_law_bound" = some (some (.ref f206))) (l206 : K.lookup f206 = some ⟨oc206, od206, .func (PySem.W.fnOf "_law_bound" "_law_bound" (defArgs s206) (defBody s206) (defScope s206) .none kV206 dc206 pm206 an206 cd206 ct206), sl206⟩) (q206 : PySem.W.codeIn K cd206 "_law_bound" = true) (k206 : PySem.W.keepIn K (.ref f206) = true)
    {f207 : Addr} {od207 an207 : Option Addr} {sl207 : Array (Option Value)} {oc207 kV207 dc207 pm207 cd207 ct207 : Value}
    (a207 : PySem.W.nsIn K mainGlobals "_law_keys" = some (some (.ref f207))) (l207 : K.lookup f207 = some ⟨oc207, od207, .func (PySem.W.fnOf "_law_keys" "_law_keys" (defArgs s207) (defBody s207) (defScope s207) .none kV207 dc207 pm207 an207 cd207 ct207), sl207⟩) (q207 : PySem.W.codeIn K cd207 "_law_keys" = true) (k207 : PySem.W.keepIn K (.ref f207) = true)
    {f208 : Addr} {od208 an208 : Option Addr} {sl208 : Array (Option Value)} {oc208 kV208 dc208 pm208 cd208 ct208 : Value}
    (a208 : PySem.W.nsIn K mainGlobals "_law_many" = some (some (.ref f208))) (l208 : K.lookup f208 = some ⟨oc208, od208, .func (PySem.W.fnOf "_law_many" "_law_many" (defArgs s208) (defBody s208) (defScope s208) .none kV208 dc208 pm208 an208 cd208 ct208), sl208⟩) (q208 : PySem.W.codeIn K cd208 "_law_many" = true) (k208 : PySem.W.keepIn K (.ref f208) = true)
    {f209 : Addr} {od209 an209 : Option Addr} {sl209 : Array (Option Value)} {oc209 kV209 dc209 pm209 cd209 ct209 : Value}
    (a209 : PySem.W.nsIn K mainGlobals "_law_deeds" = some (some (.ref f209))) (l209 : K.lookup f209 = some ⟨oc209, od209, .func (PySem.W.fnOf "_law_deeds" "_law_deeds" (defArgs s209) (defBody s209) (defScope s209) .none kV209 dc209 pm209 an209 cd209 ct209), sl209⟩) (q209 : PySem.W.codeIn K cd209 "_law_deeds" = true) (k209 : PySem.W.keepIn K (.ref f209) = true)
    {f213 : Addr} {od213 an213 : Option Addr} {sl213 : Array (Option Value)} {oc213 kV213 dc213 pm213 cd213 ct213 : Value}
    (a213 : PySem.W.nsIn K mainGlobals "_law_due" = some (some (.ref f213))) (l213 : K.lookup f213 = some ⟨oc213, od213, .func (PySem.W.fnOf "_law_due" "_law_due" (defArgs s213) (defBody s213) (defScope s213) .none kV213 dc213 pm213 an213 cd213 ct213), sl213⟩) (q213 : PySem.W.codeIn K cd213 "_law_due" = true) (k213 : PySem.W.keepIn K (.ref f213) = true)
    {f214 : Addr} {od214 an214 : Option Addr} {sl214 : Array (Option Value)} {oc214 kV214 dc214 pm214 cd214 ct214 : Value}
    (a214 : PySem.W.nsIn K mainGlobals "_law_stands" = some (some (.ref f214))) (l214 : K.lookup f214 = some ⟨oc214, od214, .func (PySem.W.fnOf "_law_stands" "_law_stands" (defArgs s214) (defBody s214) (defScope s214) .none kV214 dc214 pm214 an214 cd214 ct214), sl214⟩) (q214 : PySem.W.codeIn K cd214 "_law_stands" = true) (k214 : PySem.W.keepIn K (.ref f214) = true)
    {f215 : Addr} {od215 an215 : Option Addr} {sl215 : Array (Option Value)} {oc215 kV215 dc215 pm215 cd215 ct215 : Value}
    (a215 : PySem.W.nsIn K mainGlobals "law" = some (some (.ref f215))) (l215 : K.lookup f215 = some ⟨oc215, od215, .func (PySem.W.fnOf "law" "law" (defArgs s215) (defBody s215) (defScope s215) .none kV215 dc215 pm215 an215 cd215 ct215), sl215⟩) (q215 : PySem.W.codeIn K cd215 "law" = true) (k215 : PySem.W.keepIn K (.ref f215) = true)
    {C1 : Addr} (xa1 : PySem.W.nsIn K mainGlobals "YardError" = some (some (.ref C1))) (xk1 : PySem.W.keepIn K (.ref C1) = true) (xe1 : PySem.W.subIn K (.ref C1) (.type "BaseException") = some true) (xt1 : PySem.W.typeIn K (.ref C1) = some (.type "type")) (xd1 : PySem.W.hasDictIn K C1 = true)
    (xq1 : PySem.W.excIn K C1 [.type "ValueError", .type "Exception", .type "BaseException", .type "object"] "ValueError.__new__" = true)
    {mc : Value} (ym : PySem.W.typeIn K (.ref C1) = some mc) (yr : PySem.W.readsIn K C1 mc = true) (yg : PySem.W.specialIn K (.ref C1) "__getattribute__" = some (some (.builtin "type.__getattribute__"))) (yi : PySem.W.findCls K (.ref C1) mc "__init__" = some (.val (.builtin "ValueError.__init__")))
    {C6 : Addr} (xa6 : PySem.W.nsIn K mainGlobals "BadBound" = some (some (.ref C6))) (xk6 : PySem.W.keepIn K (.ref C6) = true) (xe6 : PySem.W.subIn K (.ref C6) (.type "BaseException") = some true) (xt6 : PySem.W.typeIn K (.ref C6) = some (.type "type")) (xd6 : PySem.W.hasDictIn K C6 = true)
    (xq6 : PySem.W.excIn K C6 [.type "ValueError", .type "Exception", .type "BaseException", .type "object"] "ValueError.__new__" = true)
    (xx1_1 : PySem.W.subIn K (.ref C1) (.ref C1) = some true)
    (xx1_6 : PySem.W.subIn K (.ref C1) (.ref C6) = some false)
    (xx6_1 : PySem.W.subIn K (.ref C6) (.ref C1) = some true)
    (xx6_6 : PySem.W.subIn K (.ref C6) (.ref C6) = some true)
    (z0 : PySem.W.nsIn K mainGlobals "all" = some none)
    (z1 : PySem.W.nsIn K mainGlobals "bool" = some none)
    (z2 : PySem.W.nsIn K mainGlobals "int" = some none)
    (z3 : PySem.W.nsIn K mainGlobals "isinstance" = some none)
    (z4 : PySem.W.nsIn K mainGlobals "len" = some none)
    (z5 : PySem.W.nsIn K mainGlobals "list" = some none)
    (z6 : PySem.W.nsIn K mainGlobals "range" = some none)
    (z7 : PySem.W.nsIn K mainGlobals "str" = some none)
    (z8 : PySem.W.nsIn K mainGlobals "tuple" = some none)
    {gt0 : Tok} (g0 : PySem.W.nsIn K mainGlobals "MOST_BOUND" = some (some (.int 1000 gt0)))
    (math : ∀ ns : List Int, ns.length ≤ 63 → ∃ m, run G Pr 60 215 [.scr ns] = .ok (.bl true, m)) :
    ∃ fd : FuncData, (∀ (s : Shared) (v : Value), BindsTo s fd ⟨[v], []⟩ [("_law_script", v)]) ∧ ∀ base : Heap, K.In base → base.Ns mainGlobals mg → FnOk l.prog w K mg base (L2.CX l.prog w) 62 fa fd ["_law_script"] (spLaw K) := by
  have e := hfa.symm.trans (PySem.W.mg_of X GG a215)
  cases e
  have hb : ∀ x ∈ bl, mg x = none := NoneAll.all (.cons (PySem.W.mg_none_of X GG z0) (.cons (PySem.W.mg_none_of X GG z1) (.cons (PySem.W.mg_none_of X GG z2) (.cons (PySem.W.mg_none_of X GG z3) (.cons (PySem.W.mg_none_of X GG z4) (.cons (PySem.W.mg_none_of X GG z5) (.cons (PySem.W.mg_none_of X GG z6) (.cons (PySem.W.mg_none_of X GG z7) (.cons (PySem.W.mg_none_of X GG z8) .nil)))))))))
  let CA : Nat → Addr := caT [(1, C1), (6, C6), (98, CC98), (99, CC98)]
  have Cl98 : Cls K CC98 := ⟨cg98, ch98, cp98, cs98⟩
  have hg : ∀ g d, G.gv g = some d → ∃ u v, mg (Tn.gn g) = some u ∧ RelV v u ∧ ∀ H, Rep K CA H 9 d v [] [] := GlosOk.all (Q := fun g d => ∃ u v, mg (Tn.gn g) = some u ∧ RelV v u ∧ ∀ H, Rep K CA H 9 d v [] []) <| 
    (.cons ⟨_, .int 1000, PySem.W.mg_of X GG g0, ⟨gt0, rfl⟩, fun H => .int _⟩ .nil)
  have txx : TbX l.prog w K mg Tn G CA := by
   refine ⟨fun base c i e => ?_, fun c c2 h1 h2 => ?_, fun c hcm => ?_, fun hix c h => ?_, ?_⟩
   · have q : Vy.AllP (fun p : Nat × ExI => ∀ base, ExF l.prog w K mg base (CA p.1) p.2) exT := (.cons (fun base => exf0 X GG xa1 xk1 xe1 xt1 xq1 (by decide) base) (.cons (fun base => exf0 X GG xa6 xk6 xe6 xt6 xq6 (by decide) base) .nil))
     exact q.all (c, i) (lk_mem e) base
   · have q : Vy.AllP (fun p : Nat × ExI => Vy.AllP (fun r : Nat × ExI => PySem.W.exmOne K (.ref (CA p.1)) (.ref (CA r.1)) = some ((G.cm p.1).contains r.1)) exT) exT := (.cons (.cons (exm_mk xe1 xd1 xt1 xx1_1) (.cons (exm_mk xe6 xd6 xt6 xx1_6) .nil)) (.cons (.cons (exm_mk xe1 xd1 xt1 xx6_1) (.cons (exm_mk xe6 xd6 xt6 xx6_6) .nil)) .nil))
     obtain ⟨i1, e1⟩ := Option.isSome_iff_exists.mp h1; obtain ⟨i2, e2⟩ := Option.isSome_iff_exists.mp h2
     exact (q.all (c, i1) (lk_mem e1)).all (c2, i2) (lk_mem e2)
   · have q : (lk cmT c).isSome = true := by cases e : lk cmT c with | none => exact absurd (show G.cm c = [] by show (lk cmT c).getD [] = []; rw [e]; rfl) hcm | some _ => rfl
     exact (lk_fst (l := exT) (l' := cmT) rfl).trans q
   · exact absurd hix (by decide)
   · refine fun _ => ⟨fun c hc => ?_, fun c hc f hf => ?_⟩
     · obtain rfl | rfl : c = 98 ∨ c = 99 := by omega
       · exact Cl98
       · exact Cl98
     · obtain rfl | rfl : c = 98 ∨ c = 99 := by omega
       · have q : Vy.AllP (fun f : Cs => NoAttr K CC98 (mkS f)) [[98, 111, 117, 110, 100], [114, 111, 119, 115]] := (.cons cn98_0 (.cons cn98_1 .nil)); exact q.all f hf
       · have q : Vy.AllP (fun f : Cs => NoAttr K CC98 (mkS f)) [[98, 111, 117, 110, 100], [114, 111, 119, 115]] := (.cons cn98_0 (.cons cn98_1 .nil)); exact q.all f hf
  have F187 := fun_mk (st := s187) l187 q187 k187
  have b187 := F187.binds (ps := P187) fun _ _ _ _ _ _ us hl => match us, hl with | [_], _ => rfl
  have d187 : DefOk l.prog w K mg Tn G CA Pr nio 187 1 [] := def_ok (bl := bl) (N := N187) (st := s187) (b := c187) (PySem.W.mg_of X GG a187) F187 b187 rfl sc187 (.fn) (fun _ _ h => nomatch h) rfl rfl (by decide) np (fun m f n e => nioM_ok (plainN_ok f n e)) (fun m X cf W _ Y I hio => body187 Y I hio) txx hb hg
  have F188 := fun_mk (st := s188) l188 q188 k188
  have b188 := F188.binds (ps := P188) fun _ _ _ _ _ _ us hl => match us, hl with | [_, _], _ => rfl
  have d188 : DefOk l.prog w K mg Tn G CA Pr nio 188 2 [] := def_ok (bl := bl) (N := N188) (st := s188) (b := c188) (PySem.W.mg_of X GG a188) F188 b188 rfl sc188 (.fn) (fun _ _ h => nomatch h) rfl rfl (by decide) np (fun m f n e => nioM_ok (plainN_ok f n e)) (fun m X cf W _ Y I hio => body188 Y I hio) txx hb hg
  have F189 := fun_mk (st := s189) l189 q189 k189
  have b189 := F189.binds (ps := P189) fun _ _ _ _ _ _ us hl => match us, hl with | [_, _], _ => rfl
  have d189 : DefOk l.prog w K mg Tn G CA Pr nio 189 2 [0] := def_ok (bl := bl) (N := N189) (st := s189) (b := c189) (show Meth K CC98 (mkS [95, 95, 105, 110, 105, 116, 95, 95]) f189 ∧ Cls K CC98 from ⟨⟨a189, i189, k189⟩, Cl98⟩) F189 b189 rfl sc189 (.me 98 [95, 95, 105, 110, 105, 116, 95, 95]) (fun _ _ h => nomatch h) rfl rfl (by decide) np (fun m f n e => nioM_ok (plainN_ok f n e)) (fun m X cf W _ Y I hio => body189 Y I hio) txx hb hg
  have F190 := fun_mk (st := s190) l190 q190 k190
  have b190 := F190.binds (ps := P190) fun _ _ _ _ _ _ us hl => match us, hl with | [_, _], _ => rfl
  have d190 : DefOk l.prog w K mg Tn G CA Pr nio 190 2 [0] := def_ok (bl := bl) (N := N190) (st := s190) (b := c190) (show Meth K CC98 (mkS [108, 111, 111, 107]) f190 ∧ Cls K CC98 from ⟨⟨a190, i190, k190⟩, Cl98⟩) F190 b190 rfl sc190 (.me 98 [108, 111, 111, 107]) (fun _ _ h => nomatch h) rfl rfl (by decide) np (fun m f n e => nioM_ok (plainN_ok f n e)) (fun m X cf W _ Y I hio => body190 Y I hio) txx hb hg
  have F197 := fun_mk (st := s197) l197 q197 k197
  have b197 := F197.binds (ps := P197) fun _ _ _ _ _ _ us hl => match us, hl with | [_, _, _], _ => rfl
  have d197 : DefOk l.prog w K mg Tn G CA Pr nio 197 3 [0] := def_ok (bl := bl) (N := N197) (st := s197) (b := c197) (show Meth K CC98 (mkS [108, 97, 121]) f197 ∧ Cls K CC98 from ⟨⟨a197, i197, k197⟩, Cl98⟩) F197 b197 rfl sc197 (.me 98 [108, 97, 121]) (fun _ _ h => nomatch h) rfl rfl (by decide) np (fun m f n e => nioM_ok (plainN_ok f n e)) (fun m X cf W _ Y I hio => body197 Y I hio) txx hb hg
  have F192 := fun_mk (st := s192) l192 q192 k192
  have b192 := F192.binds (ps := P192) fun _ _ _ _ _ _ us hl => match us, hl with | [_], _ => rfl
  have d192 : DefOk l.prog w K mg Tn G CA Pr nio 192 1 [] := def_ok (bl := bl) (N := N192) (st := s192) (b := c192) (show Meth K CC98 (mkS [107, 101, 121, 115, 95, 107, 101, 112, 116]) f192 ∧ Cls K CC98 from ⟨⟨a192, i192, k192⟩, Cl98⟩) F192 b192 rfl sc192 (.me 98 [107, 101, 121, 115, 95, 107, 101, 112, 116]) (fun _ _ h => nomatch h) rfl rfl (by decide) np (fun m f n e => nioM_ok (plainN_ok f n e)) (fun m X cf W _ Y I hio => body192 Y I hio) txx hb hg
  have F4 := fun_mk (st := s4) l4 q4 k4
  have b4 := F4.binds (ps := P4) fun _ _ _ _ _ _ us hl => match us, hl with | [_, _], _ => rfl
  have d4 : DefOk l.prog w K mg Tn G CA Pr nio 4 2 [] := def_ok (bl := bl) (N := N4) (st := s4) (b := c4) (PySem.W.mg_of X GG a4) F4 b4 rfl sc4 (.fn) (fun _ _ h => nomatch h) rfl rfl (by decide) np (fun m f n e => nioM_ok (plainN_ok f n e)) (fun m X cf W _ Y I hio => body4 Y I hio) txx hb hg
  have F199 := fun_mk (st := s199) l199 q199 k199
  have b199 := F199.binds (ps := P199) fun _ _ _ _ _ _ us hl => match us, hl with | [_, _], _ => rfl
  have d199 : DefOk l.prog w K mg Tn G CA Pr nio 199 2 [] := def_ok (bl := bl) (N := N199) (st := s199) (b := c199) (PySem.W.mg_of X GG a199) F199 b199 rfl sc199 (.fn) (fun _ _ h => nomatch h) rfl rfl (by decide) np (fun m f n e => nioM_ok (plainN_ok f n e)) (fun m X cf W _ Y I hio => body199 Y I hio) txx hb hg
  have F200 := fun_mk (st := s200) l200 q200 k200
  have b200 := F200.binds (ps := P200) fun _ _ _ _ _ _ us hl => match us, hl with | [_, _], _ => rfl
  have d200 : DefOk l.prog w K mg Tn G CA Pr nio 200 2 [] := def_ok (bl := bl) (N := N200) (st := s200) (b := c200) (PySem.W.mg_of X GG a200) F200 b200 rfl sc200 (.fn) (fun _ _ h => nomatch h) rfl rfl (by decide) np (fun m f n e => nioM_ok (plainN_ok f n e)) (fun m X cf W _ Y I hio => body200 Y I hio) txx hb hg
  have F201 := fun_mk (st := s201) l201 q201 k201
  have b201 := F201.binds (ps := P201) fun _ _ _ _ _ _ us hl => match us, hl with | [_], _ => rfl
  have d201 : DefOk l.prog w K mg Tn G CA Pr nio 201 1 [] := def_ok (bl := bl) (N := N201) (st := s201) (b := c201) (PySem.W.mg_of X GG a201) F201 b201 rfl sc201 (.fn) (fun _ _ h => nomatch h) rfl rfl (by decide) np (fun m f n e => nioM_ok (plainN_ok f n e)) (fun m X cf W _ Y I hio => body201 Y I hio) txx hb hg
  have F202 := fun_mk (st := s202) l202 q202 k202
  have b202 := F202.binds (ps := P202) fun _ _ _ _ _ _ us hl => match us, hl with | [_], _ => rfl
  have d202 : DefOk l.prog w K mg Tn G CA Pr nio 202 1 [] := def_ok (bl := bl) (N := N202) (st := s202) (b := c202) (PySem.W.mg_of X GG a202) F202 b202 rfl sc202 (.fn) (fun _ _ h => nomatch h) rfl rfl (by decide) np (fun m f n e => nioM_ok (plainN_ok f n e)) (fun m X cf W _ Y I hio => body202 Y I hio) txx hb hg
  have F206 := fun_mk (st := s206) l206 q206 k206
  have b206 := F206.binds (ps := P206) fun _ _ _ _ _ _ us hl => match us, hl with | [_], _ => rfl
  have d206 : DefOk l.prog w K mg Tn G CA Pr nio 206 1 [] := def_ok (bl := bl) (N := N206) (st := s206) (b := c206) (PySem.W.mg_of X GG a206) F206 b206 rfl sc206 (.fn) (fun _ _ h => nomatch h) rfl rfl (by decide) np (fun m f n e => nioM_ok (plainN_ok f n e)) (fun m X cf W _ Y I hio => body206 Y I hio) txx hb hg
  have F207 := fun_mk (st := s207) l207 q207 k207
  have b207 := F207.binds (ps := P207) fun _ _ _ _ _ _ us hl => match us, hl with | [_, _], _ => rfl
  have d207 : DefOk l.prog w K mg Tn G CA Pr nio 207 2 [] := def_ok (bl := bl) (N := N207) (st := s207) (b := c207) (PySem.W.mg_of X GG a207) F207 b207 rfl sc207 (.fn) (fun _ _ h => nomatch h) rfl rfl (by decide) np (fun m f n e => nioM_ok (plainN_ok f n e)) (fun m X cf W _ Y I hio => body207 Y I hio) txx hb hg
  have F208 := fun_mk (st := s208) l208 q208 k208
  have b208 := F208.binds (ps := P208) fun _ _ _ _ _ _ us hl => match us, hl with | [_], _ => rfl
  have d208 : DefOk l.prog w K mg Tn G CA Pr nio 208 1 [] := def_ok (bl := bl) (N := N208) (st := s208) (b := c208) (PySem.W.mg_of X GG a208) F208 b208 rfl sc208 (.fn) (fun _ _ h => nomatch h) rfl rfl (by decide) np (fun m f n e => nioM_ok (plainN_ok f n e)) (fun m X cf W _ Y I hio => body208 Y I hio) txx hb hg
  have F209 := fun_mk (st := s209) l209 q209 k209
  have b209 := F209.binds (ps := P209) fun _ _ _ _ _ _ us hl => match us, hl with | [_], _ => rfl
  have d209 : DefOk l.prog w K mg Tn G CA Pr nio 209 1 [] := def_ok (bl := bl) (N := N209) (st := s209) (b := c209) (PySem.W.mg_of X GG a209) F209 b209 rfl sc209 (.fn) (fun _ _ h => nomatch h) rfl rfl (by decide) np (fun m f n e => nioM_ok (plainN_ok f n e)) (fun m X cf W _ Y I hio => body209 Y I hio) txx hb hg
  have F213 := fun_mk (st := s213) l213 q213 k213
  have b213 := F213.binds (ps := P213) fun _ _ _ _ _ _ us hl => match us, hl with | [_, _], _ => rfl
  have d213 : DefOk l.prog w K mg Tn G CA Pr nio 213 2 [] := def_ok (bl := bl) (N := N213) (st := s213) (b := c213) (PySem.W.mg_of X GG a213) F213 b213 rfl sc213 (.fn) (fun _ _ h => nomatch h) rfl rfl (by decide) np (fun m f n e => nioM_ok (plainN_ok f n e)) (fun m X cf W _ Y I hio => body213 Y I hio) txx hb hg
  have F214 := fun_mk (st := s214) l214 q214 k214
  have b214 := F214.binds (ps := P214) fun _ _ _ _ _ _ us hl => match us, hl with | [_, _, _], _ => rfl
  have d214 : DefOk l.prog w K mg Tn G CA Pr nio 214 3 [2] := def_ok (bl := bl) (N := N214) (st := s214) (b := c214) (PySem.W.mg_of X GG a214) F214 b214 rfl sc214 (.fn) (fun _ _ h => nomatch h) rfl rfl (by decide) np (fun m f n e => nioM_ok (plainN_ok f n e)) (fun m X cf W _ Y I hio => body214 Y I hio) txx hb hg
  have F215 := fun_mk (st := s215) l215 q215 k215
  have b215 := F215.binds (ps := P215) fun _ _ _ _ _ _ us hl => match us, hl with | [_], _ => rfl
  have d215 : DefOk l.prog w K mg Tn G CA Pr nio 215 1 [] := def_ok (bl := bl) (N := N215) (st := s215) (b := c215) (PySem.W.mg_of X GG a215) F215 b215 rfl sc215 (.fn) (fun _ _ h => nomatch h) rfl rfl (by decide) np (fun m f n e => nioM_ok (plainN_ok f n e)) (fun m X cf W _ Y I hio => body215 Y I hio) txx hb hg
  have d1098 : DefOk l.prog w K mg Tn G CA Pr nio 1098 1 [] := def_okK (c := 98) (fi := 189) (m0 := [95, 95, 105, 110, 105, 116, 95, 95]) (PySem.W.mg_of X GG ca98) ⟨cm98, a189, i189, ck98⟩ rfl rfl rfl rfl rfl k189 b189 rfl (by decide)
  have hd : ∀ f n io, nio f = some (n, io) → DefOk l.prog w K mg Tn G CA Pr nio f n io := DefsOk.all (Q := fun f n io => DefOk l.prog w K mg Tn G CA Pr nio f n io) (.cons d187 (.cons d188 (.cons d189 (.cons d190 (.cons d197 (.cons d192 (.cons d4 (.cons d199 (.cons d200 (.cons d201 (.cons d202 (.cons d206 (.cons d207 (.cons d208 (.cons d209 (.cons d213 (.cons d214 (.cons d215 (.cons d1098 .nil)))))))))))))))))))
  refine ⟨PySem.W.fnOf "law" "law" (defArgs s215) (defBody s215) (defScope s215) .none kV215 dc215 pm215 an215 cd215 ct215, fun s v => .of_eq rfl, fun base _ _ => ?_⟩
  exact law_ok (def_fn (P := l.prog) (w := w) (T := Tn) (f := 215) (n := 1) (io := []) (nio := nio) (Pr := Pr) (G := G) (CA := CA) (bl := bl) (N := N215) (st := s215) (b := c215) (PySem.W.mg_of X GG a215) F215 b215 rfl sc215 .fn (fun _ _ h => nomatch h) rfl rfl (by decide) np (fun m f n e => nioM_ok (plainN_ok f n e)) (fun m X cf W _ Y I hio => body215 Y I hio) txx hb hg base 59 (fns_ok hd 59) false (fun z => Bool.noConfusion z)) math
end
end K53

open PySem PySem.W PyProof.Rows
set_option maxHeartbeats 0 in
theorem PySem.Challenge.cw_thingyard_k53_keys_in_order_holds : PySem.Challenge.rw_thingyard_k53_keys_in_order.Holds := by
  w_on; o_law; k_head; (case hw => w_witness2)
  k_fill
  refine L2.walk_of (l := PySem.Challenge.rw_thingyard_k53_keys_in_order) (n := 63) (k := 62) (x := "_law_script") (CX := fun w => L2.CX PySem.Challenge.rw_thingyard_k53_keys_in_order.prog w) (sp := fun w => Vy.spLaw _) rfl (by decide) rfl ⟨rfl, by decide, by decide⟩ (fun w h Y => PySem.W.kIn_of Y) ?F (fun w H a ns hl hO hS => Vy.sp_end hl hO hS) (fun w H s e s' h => Vy.cx_end H s e s' h)
  case F =>
    intro w mg fa h KX G hmg
    refine' K53.all_mk KX G hmg ?vca98 ?vcg98 ?vch98 ?vcp98 ?vcs98 ?vcm98 ?vck98 ?vcn98_0 ?vcn98_1 ?va187 ?vl187 ?vq187 ?vk187 ?va188 ?vl188 ?vq188 ?vk188 ?va189 ?vi189 ?vl189 ?vq189 ?vk189 ?va190 ?vi190 ?vl190 ?vq190 ?vk190 ?va197 ?vi197 ?vl197 ?vq197 ?vk197 ?va192 ?vi192 ?vl192 ?vq192 ?vk192 ?va4 ?vl4 ?vq4 ?vk4 ?va199 ?vl199 ?vq199 ?vk199 ?va200 ?vl200 ?vq200 ?vk200 ?va201 ?vl201 ?vq201 ?vk201 ?va202 ?vl202 ?vq202 ?vk202 ?va206 ?vl206 ?vq206 ?vk206 ?va207 ?vl207 ?vq207 ?vk207 ?va208 ?vl208 ?vq208 ?vk208 ?va209 ?vl209 ?vq209 ?vk209 ?va213 ?vl213 ?vq213 ?vk213 ?va214 ?vl214 ?vq214 ?vk214 ?va215 ?vl215 ?vq215 ?vk215 ?vxa1 ?vxk1 ?vxe1 ?vxt1 ?vxd1 ?vxq1 ?vym ?vyr ?vyg ?vyi ?vxa6 ?vxk6 ?vxe6 ?vxt6 ?vxd6 ?vxq6 ?vxx1_1 ?vxx1_6 ?vxx6_1 ?vxx6_6 ?vz0 ?vz1 ?vz2 ?vz3 ?vz4 ?vz5 ?vz6 ?vz7 ?vz8 ?vg0 K53.math
    (case vca98 => k_is); (case va187 => k_is); (case va188 => k_is); (case va4 => k_is); (case va199 => k_is); (case va200 => k_is); (case va201 => k_is); (case va202 => k_is); (case va206 => k_is); (case va207 => k_is); (case va208 => k_is); (case va209 => k_is); (case va213 => k_is); (case va214 => k_is); (case va215 => k_is); (case vxa1 => k_is); (case vxa6 => k_is); (case vg0 => k_is); (case va189 => k_is); (case va190 => k_is); (case va197 => k_is); (case va192 => k_is); (case vym => k_is); (case vcg98 => k_is); (case vch98 => k_is); (case vcp98 => k_is); (case vcs98 => k_is); (case vcm98 => k_is); (case vck98 => k_is); (case vcn98_0 => k_is); (case vcn98_1 => k_is); (case vl187 => k_is); (case vq187 => k_is); (case vk187 => k_is); (case vl188 => k_is); (case vq188 => k_is); (case vk188 => k_is); (case vi189 => k_is); (case vl189 => k_is); (case vq189 => k_is); (case vk189 => k_is); (case vi190 => k_is); (case vl190 => k_is); (case vq190 => k_is); (case vk190 => k_is); (case vi197 => k_is); (case vl197 => k_is); (case vq197 => k_is); (case vk197 => k_is); (case vi192 => k_is); (case vl192 => k_is); (case vq192 => k_is); (case vk192 => k_is); (case vl4 => k_is); (case vq4 => k_is); (case vk4 => k_is); (case vl199 => k_is); (case vq199 => k_is); (case vk199 => k_is); (case vl200 => k_is); (case vq200 => k_is); (case vk200 => k_is); (case vl201 => k_is); (case vq201 => k_is); (case vk201 => k_is); (case vl202 => k_is); (case vq202 => k_is); (case vk202 => k_is); (case vl206 => k_is); (case vq206 => k_is); (case vk206 => k_is); (case vl207 => k_is); (case vq207 => k_is); (case vk207 => k_is); (case vl208 => k_is); (case vq208 => k_is); (case vk208 => k_is); (case vl209 => k_is); (case vq209 => k_is); (case vk209 => k_is); (case vl213 => k_is); (case vq213 => k_is); (case vk213 => k_is); (case vl214 => k_is); (case vq214 => k_is); (case vk214 => k_is); (case vl215 => k_is); (case vq215 => k_is); (case vk215 => k_is); (case vxk1 => k_is); (case vxe1 => k_is); (case vxt1 => k_is); (case vxd1 => k_is); (case vyr => k_is); (case vyg => k_is); (case vyi => k_is); (case vxk6 => k_is); (case vxe6 => k_is); (case vxt6 => k_is); (case vxd6 => k_is); (case vxx1_1 => k_is); (case vxx1_6 => k_is); (case vxx6_1 => k_is); (case vxx6_6 => k_is); (case vz0 => k_is); (case vz1 => k_is); (case vz2 => k_is); (case vz3 => k_is); (case vz4 => k_is); (case vz5 => k_is); (case vz6 => k_is); (case vz7 => k_is); (case vz8 => k_is); (case vxq1 => k_exc); (case vxq6 => k_exc)

