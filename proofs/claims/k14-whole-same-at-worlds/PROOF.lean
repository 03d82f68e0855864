import PyProof.Rows.All
import Wide.All
import OpenK.AllK
import Wide.FinOn
import HandS.ForMost
import HandS.Evl
import HandS.Walk
import KE.KUnpackStar
import HandS.Defaults
import HandS.More
import HandS.Codes
import HandS.DictComp
import HandS.SetKeys
import KE.GoesEnumKw
import PyProof.ZipIter
import HandS.Iter
import KE.KDictPairs
import HandS.IsInst
import HandS.Conv
import HandS.Ends
import HandS.Words
import HandS.WordsExc
import HandS.Head0
import HandS.Head1
import HandS.Head2
import HandS.HeadEnd
import HandS.HeadHook1
import HandS.HeadHook2
import HandS.HeadHook3
import HandS.HeadHook4
import Lean
import PySem.Challenge.RW_mustmays_k14_whole_same_at_worlds
/-! ## KA_Math -/
/-! Sayings as trees, what holds at worlds, and the four turnings of sayings: plain Lean. -/
namespace Kx
/-- a saying: words and hands by their one sign -/
inductive Sy where
  | lt (c : Nat)
  | nt (s : Sy)
  | jn (b : Bool) (l : List Sy)
  | so (s t : Sy)
  | md (b : Bool) (h : Nat) (s : Sy)
  | td (s t : Sy)
namespace Sy
theorem ind {P : Sy → Prop} (h1 : ∀ c, P (.lt c)) (h2 : ∀ s, P s → P (.nt s)) (h3 : ∀ b l, (∀ s, s ∈ l → P s) → P (.jn b l))
    (h4 : ∀ s t, P s → P t → P (.so s t)) (h5 : ∀ b h s, P s → P (.md b h s)) (h6 : ∀ s t, P s → P t → P (.td s t)) : ∀ s, P s := fun s =>
  Sy.rec (motive_1 := P) (motive_2 := fun l => ∀ s, s ∈ l → P s) h1 h2 h3 h4 h5 h6 (fun s h => nomatch h)
    (fun a l ha hl s hs => by
      rcases List.mem_cons.mp hs with rfl | hs
      · exact ha
      · exact hl s hs) s
end Sy

mutual
def sat (E : Nat → List (Nat × Nat)) (L : Nat → List Nat) : Sy → List Nat → Nat → Bool
  | .lt c, _, x => decide (x ∈ L c)
  | .nt s, ws, x => !sat E L s ws x
  | .jn true l, ws, x => satA E L l ws x
  | .jn false l, ws, x => satO E L l ws x
  | .so s t, ws, x => !sat E L s ws x || sat E L t ws x
  | .md true h s, ws, x => (E h).all fun p => !(decide (p.1 = x) && decide (p.2 ∈ ws)) || sat E L s ws p.2
  | .md false h s, ws, x => (E h).any fun p => (decide (p.1 = x) && decide (p.2 ∈ ws)) && sat E L s ws p.2
  | .td s t, ws, x => !sat E L s ws x || sat E L t (ws.filter fun y => sat E L s ws y) x
def satA (E : Nat → List (Nat × Nat)) (L : Nat → List Nat) : List Sy → List Nat → Nat → Bool
  | [], _, _ => true
  | s :: r, ws, x => sat E L s ws x && satA E L r ws x
def satO (E : Nat → List (Nat × Nat)) (L : Nat → List Nat) : List Sy → List Nat → Nat → Bool
  | [], _, _ => false
  | s :: r, ws, x => sat E L s ws x || satO E L r ws x
end
theorem satA_all (E L) : ∀ (l : List Sy) (ws : List Nat) (x : Nat), satA E L l ws x = l.all fun s => sat E L s ws x
  | [], _, _ => by simp [satA]
  | s :: r, ws, x => by simp [satA, satA_all E L r]
theorem satO_any (E L) : ∀ (l : List Sy) (ws : List Nat) (x : Nat), satO E L l ws x = l.any fun s => sat E L s ws x
  | [], _, _ => by simp [satO]
  | s :: r, ws, x => by simp [satO, satO_any E L r]
theorem sat_jt (E L l ws x) : sat E L (.jn true l) ws x = l.all fun s => sat E L s ws x := by rw [sat, satA_all]
theorem sat_jf (E L l ws x) : sat E L (.jn false l) ws x = l.any fun s => sat E L s ws x := by rw [sat, satO_any]

/-! ### the turnings -/
mutual
/-- with negations pushed in; false: what isn't so of it -/
def pu : Bool → Sy → Sy
  | true, .lt c => .lt c
  | false, .lt c => .nt (.lt c)
  | b, .nt s => pu (!b) s
  | b, .jn c l => .jn (if b then c else !c) (puL b l)
  | b, .so s t => .jn (!b) [pu (!b) s, pu b t]
  | b, .md c h s => .md (if b then c else !c) h (pu b s)
  | b, .td s t => .td (pu b s) (pu b t)
def puL : Bool → List Sy → List Sy
  | _, [] => []
  | b, s :: r => pu b s :: puL b r
end
mutual
/-- in few words -/
def fw : Sy → Sy
  | .lt c => .lt c
  | .nt s => .nt (fw s)
  | .jn true l => .jn true (fwL l)
  | .jn false l => .nt (.jn true (fwN l))
  | .so s t => .nt (.jn true [fw s, .nt (fw t)])
  | .md true h s => .md true h (fw s)
  | .md false h s => .nt (.md true h (.nt (fw s)))
  | .td s t => .td (fw s) (fw t)
def fwL : List Sy → List Sy
  | [] => []
  | s :: r => fw s :: fwL r
def fwN : List Sy → List Sy
  | [] => []
  | s :: r => .nt (fw s) :: fwN r
end
mutual
/-- the core -/
def co : Sy → Sy
  | .lt c => .lt c
  | .nt s => .nt (co s)
  | .jn b l => .jn b (coL l)
  | .so s t => .so (co s) (co t)
  | .md true h s => .md true h (co s)
  | .md false h s => .nt (.md true h (.nt (co s)))
  | .td s t => .td (co s) (co t)
def coL : List Sy → List Sy
  | [] => []
  | s :: r => co s :: coL r
end
mutual
/-- t behind s -/
def pb (f : Sy) : Sy → Sy
  | .lt c => .so f (.lt c)
  | .nt s => .so f (.nt (pb f s))
  | .jn true l => .jn true (pbL f l)
  | .jn false l => .so f (.jn false (pbL f l))
  | .so s t => .so (pb f s) (pb f t)
  | .md true h s => .so f (.md true h (pb f s))
  | .md false h s => .so f (.md false h (.jn true [f, pb f s]))
  | .td s t => .so f (.td (pb f s) (pb f t))
def pbL (f : Sy) : List Sy → List Sy
  | [] => []
  | s :: r => pb f s :: pbL f r
end
mutual
/-- told taken out -/
def tt : Sy → Sy
  | .lt c => .lt c
  | .nt s => .nt (tt s)
  | .jn b l => .jn b (ttL l)
  | .so s t => .so (tt s) (tt t)
  | .md b h s => .md b h (tt s)
  | .td s t => pb (tt s) (tt t)
def ttL : List Sy → List Sy
  | [] => []
  | s :: r => tt s :: ttL r
end
theorem puL_map (b) : ∀ l, puL b l = l.map (pu b)
  | [] => rfl
  | s :: r => by rw [puL, puL_map b r, List.map_cons]
theorem fwL_map : ∀ l, fwL l = l.map fw
  | [] => rfl
  | s :: r => by rw [fwL, fwL_map r, List.map_cons]
theorem fwN_map : ∀ l, fwN l = (l.map fw).map .nt
  | [] => rfl
  | s :: r => by rw [fwN, fwN_map r, List.map_cons, List.map_cons]
theorem coL_map : ∀ l, coL l = l.map co
  | [] => rfl
  | s :: r => by rw [coL, coL_map r, List.map_cons]
theorem pbL_map (f) : ∀ l, pbL f l = l.map (pb f)
  | [] => rfl
  | s :: r => by rw [pbL, pbL_map f r, List.map_cons]
theorem ttL_map : ∀ l, ttL l = l.map tt
  | [] => rfl
  | s :: r => by rw [ttL, ttL_map r, List.map_cons]

/-! ### plain, wide, deep -/
mutual
def plain : Sy → Bool
  | .lt _ => true
  | .nt s => plain s
  | .jn _ l => plainL l
  | .so s t => plain s && plain t
  | .md _ _ s => plain s
  | .td _ _ => false
def plainL : List Sy → Bool
  | [] => true
  | s :: r => plain s && plainL r
end
theorem plainL_all : ∀ l, plainL l = l.all plain
  | [] => rfl
  | s :: r => by rw [plainL, plainL_all r, List.all_cons]

theorem and_of {a b : Bool} (h : (a && b) = true) : a = true ∧ b = true := by simpa using h
theorem plain_jn {b l} (h : plain (.jn b l) = true) : ∀ s, s ∈ l → plain s = true := by
  rw [plain, plainL_all] at h
  exact fun s hs => List.all_eq_true.mp h s hs

theorem all_map_of {f : Sy → Sy} {l : List Sy} {p q : Sy → Bool} (h : ∀ s, s ∈ l → p (f s) = q s) : (l.map f).all p = l.all q := by
  induction l with
  | nil => rfl
  | cons a r ih =>
    rw [List.map_cons, List.all_cons, List.all_cons, h a (by simp), ih fun s hs => h s (by simp [hs])]
theorem any_map_of {f : Sy → Sy} {l : List Sy} {p q : Sy → Bool} (h : ∀ s, s ∈ l → p (f s) = q s) : (l.map f).any p = l.any q := by
  induction l with
  | nil => rfl
  | cons a r ih =>
    rw [List.map_cons, List.any_cons, List.any_cons, h a (by simp), ih fun s hs => h s (by simp [hs])]
theorem not_all {α} {l : List α} {p : α → Bool} : (!l.all p) = l.any fun a => !p a := by
  induction l with
  | nil => rfl
  | cons a r ih => rw [List.all_cons, List.any_cons, Bool.not_and, ih]
theorem not_any {α} {l : List α} {p : α → Bool} : (!l.any p) = l.all fun a => !p a := by
  induction l with
  | nil => rfl
  | cons a r ih => rw [List.all_cons, List.any_cons, Bool.not_or, ih]

section
variable (E : Nat → List (Nat × Nat)) (L : Nat → List Nat)
theorem sat_pu : ∀ s, plain s = true → ∀ b ws x, sat E L (pu b s) ws x = if b then sat E L s ws x else !sat E L s ws x := by
  intro s
  induction s using Sy.ind with
  | h1 c => intro _ b ws x; cases b <;> simp [pu, sat]
  | h2 s ih =>
    intro hp b ws x
    rw [pu, ih (by simpa [plain] using hp), sat]
    cases b <;> simp
  | h3 c l ih =>
    intro hp b ws x
    have hl := plain_jn hp
    rw [pu, puL_map]
    cases b <;> cases c <;> simp only [Bool.false_eq_true, if_false, if_true, Bool.not_false, Bool.not_true]
    · rw [sat_jt, sat_jf, not_any]
      exact all_map_of fun s hs => by rw [ih s hs (hl s hs)]; simp
    · rw [sat_jt, sat_jf, not_all]
      exact any_map_of fun s hs => by rw [ih s hs (hl s hs)]; simp
    · rw [sat_jf, sat_jf]
      exact any_map_of fun s hs => by rw [ih s hs (hl s hs)]; simp
    · rw [sat_jt, sat_jt]
      exact all_map_of fun s hs => by rw [ih s hs (hl s hs)]; simp
  | h4 s t ih1 ih2 =>
    intro hp b ws x
    rw [plain] at hp
    obtain ⟨p1, p2⟩ := and_of hp
    rw [pu]
    cases b
    · simp [sat, satA, ih1 p1, ih2 p2]
    · simp [sat, satO, ih1 p1, ih2 p2]
  | h5 c h s ih =>
    intro hp b ws x
    rw [plain] at hp
    have e := ih hp b ws
    rw [pu]
    cases b <;> cases c <;> simp only [Bool.false_eq_true, if_false, if_true, Bool.not_false, Bool.not_true, sat] at e ⊢
    · rw [not_any]
      congr 1
      funext p
      rw [e]
      simp
    · rw [not_all]
      congr 1
      funext p
      rw [e]
      simp
    · congr 1
      funext p
      rw [e]
    · congr 1
      funext p
      rw [e]
  | h6 s t _ _ => intro hp; simp [plain] at hp

theorem sat_fw : ∀ s, plain s = true → ∀ ws x, sat E L (fw s) ws x = sat E L s ws x := by
  intro s
  induction s using Sy.ind with
  | h1 c => intro _ ws x; rw [fw]
  | h2 s ih => intro hp ws x; rw [fw, sat, sat, ih (by simpa [plain] using hp)]
  | h3 c l ih =>
    intro hp ws x
    have hl := plain_jn hp
    cases c
    · rw [fw, sat, sat_jt, sat_jf, fwN_map, not_all, List.map_map]
      exact any_map_of fun s hs => by simp [sat, ih s hs (hl s hs)]
    · rw [fw, sat_jt, sat_jt, fwL_map]
      exact all_map_of fun s hs => ih s hs (hl s hs) ws x
  | h4 s t ih1 ih2 =>
    intro hp ws x
    rw [plain] at hp
    obtain ⟨p1, p2⟩ := and_of hp
    rw [fw]
    simp [sat, satA, ih1 p1, ih2 p2]
  | h5 c h s ih =>
    intro hp ws x
    rw [plain] at hp
    have e := ih hp ws
    cases c <;> rw [fw]
    · simp only [sat]
      rw [not_all]
      congr 1
      funext p
      rw [e]
      simp
    · simp only [sat]
      congr 1
      funext p
      rw [e]
  | h6 s t _ _ => intro hp; simp [plain] at hp

theorem sat_co : ∀ s, plain s = true → ∀ ws x, sat E L (co s) ws x = sat E L s ws x := by
  intro s
  induction s using Sy.ind with
  | h1 c => intro _ ws x; rw [co]
  | h2 s ih => intro hp ws x; rw [co, sat, sat, ih (by simpa [plain] using hp)]
  | h3 c l ih =>
    intro hp ws x
    have hl := plain_jn hp
    cases c
    · rw [co, sat_jf, sat_jf, coL_map]
      exact any_map_of fun s hs => ih s hs (hl s hs) ws x
    · rw [co, sat_jt, sat_jt, coL_map]
      exact all_map_of fun s hs => ih s hs (hl s hs) ws x
  | h4 s t ih1 ih2 =>
    intro hp ws x
    rw [plain] at hp
    obtain ⟨p1, p2⟩ := and_of hp
    rw [co]
    simp [sat, ih1 p1, ih2 p2]
  | h5 c h s ih =>
    intro hp ws x
    rw [plain] at hp
    have e := ih hp ws
    cases c <;> rw [co]
    · simp only [sat]
      rw [not_all]
      congr 1
      funext p
      rw [e]
      simp
    · simp only [sat]
      congr 1
      funext p
      rw [e]
  | h6 s t _ _ => intro hp; simp [plain] at hp

theorem sat_pb (f : Sy) : ∀ s, plain s = true → ∀ ws x, sat E L (pb f s) ws x = (!sat E L f ws x || sat E L s (ws.filter fun y => sat E L f ws y) x) := by
  intro s
  induction s using Sy.ind with
  | h1 c => intro _ ws x; rw [pb]; simp [sat]
  | h2 s ih =>
    intro hp ws x
    simp only [pb, sat, ih (by simpa [plain] using hp)]
    cases sat E L f ws x <;> simp
  | h3 c l ih =>
    intro hp ws x
    have hl := plain_jn hp
    cases c
    · rw [pb, show sat E L (.so f (.jn false (pbL f l))) ws x = (!sat E L f ws x || sat E L (.jn false (pbL f l)) ws x) from by simp only [sat], sat_jf, sat_jf, pbL_map]
      cases hf : sat E L f ws x
      · rfl
      · simp only [Bool.not_true, Bool.false_or]
        exact any_map_of fun s hs => by rw [ih s hs (hl s hs), hf]; rfl
    · rw [pb, sat_jt, sat_jt, pbL_map]
      cases hf : sat E L f ws x
      · simp only [Bool.not_false, Bool.true_or, List.all_eq_true]
        intro s hs
        obtain ⟨t, ht, rfl⟩ := List.mem_map.mp hs
        rw [ih t ht (hl t ht), hf]; rfl
      · simp only [Bool.not_true, Bool.false_or]
        exact all_map_of fun s hs => by rw [ih s hs (hl s hs), hf]; rfl
  | h4 s t ih1 ih2 =>
    intro hp ws x
    rw [plain] at hp
    obtain ⟨p1, p2⟩ := and_of hp
    rw [pb, sat, sat, ih1 p1, ih2 p2]
    cases sat E L f ws x <;> simp
  | h5 c h s ih =>
    intro hp ws x
    rw [plain] at hp
    have e := ih hp ws
    cases c <;> rw [pb] <;> simp only [sat, satA]
    · cases hf : sat E L f ws x
      · rfl
      · simp only [Bool.not_true, Bool.false_or]
        congr 1
        funext p
        rw [e]
        have hm : decide (p.2 ∈ ws.filter fun y => sat E L f ws y) = (decide (p.2 ∈ ws) && sat E L f ws p.2) := by
          rw [Bool.eq_iff_iff]; simp [List.mem_filter]
        rw [hm]
        cases sat E L f ws p.2 <;> simp
    · cases hf : sat E L f ws x
      · rfl
      · simp only [Bool.not_true, Bool.false_or]
        congr 1
        funext p
        rw [e]
        have hm : decide (p.2 ∈ ws.filter fun y => sat E L f ws y) = (decide (p.2 ∈ ws) && sat E L f ws p.2) := by
          rw [Bool.eq_iff_iff]; simp [List.mem_filter]
        rw [hm]
        cases sat E L f ws p.2 <;> simp
  | h6 s t _ _ => intro hp; simp [plain] at hp
end

theorem plain_pb {f : Sy} (hf : plain f = true) : ∀ s, plain s = true → plain (pb f s) = true := by
  intro s
  induction s using Sy.ind with
  | h1 c => intro _; simp [pb, plain, hf]
  | h2 s ih => intro hp; rw [plain] at hp; simp [pb, plain, hf, ih hp]
  | h3 c l ih =>
    intro hp
    have hl := plain_jn hp
    have h : plainL (pbL f l) = true := by
      rw [plainL_all, pbL_map, List.all_eq_true]
      intro s hs
      obtain ⟨t, ht, rfl⟩ := List.mem_map.mp hs
      exact ih t ht (hl t ht)
    cases c <;> simp [pb, plain, hf, h]
  | h4 s t ih1 ih2 =>
    intro hp
    rw [plain] at hp
    obtain ⟨p1, p2⟩ := and_of hp
    simp [pb, plain, ih1 p1, ih2 p2]
  | h5 c h s ih =>
    intro hp
    rw [plain] at hp
    cases c <;> simp [pb, plain, plainL, hf, ih hp]
  | h6 s t _ _ => intro hp; simp [plain] at hp
theorem plain_tt : ∀ s, plain (tt s) = true := by
  intro s
  induction s using Sy.ind with
  | h1 c => rfl
  | h2 s ih => rw [tt, plain]; exact ih
  | h3 c l ih =>
    rw [tt, plain, plainL_all, ttL_map, List.all_eq_true]
    intro s hs
    obtain ⟨t, ht, rfl⟩ := List.mem_map.mp hs
    exact ih t ht
  | h4 s t ih1 ih2 => rw [tt, plain, ih1, ih2]; rfl
  | h5 c h s ih => rw [tt, plain]; exact ih
  | h6 s t ih1 ih2 => rw [tt]; exact plain_pb ih1 _ ih2
theorem sat_tt (E L) : ∀ s ws x, sat E L (tt s) ws x = sat E L s ws x := by
  intro s
  induction s using Sy.ind with
  | h1 c => intro ws x; rw [tt]
  | h2 s ih => intro ws x; rw [tt, sat, sat, ih]
  | h3 c l ih =>
    intro ws x
    cases c
    · rw [tt, sat_jf, sat_jf, ttL_map]
      exact any_map_of fun s hs => ih s hs ws x
    · rw [tt, sat_jt, sat_jt, ttL_map]
      exact all_map_of fun s hs => ih s hs ws x
  | h4 s t ih1 ih2 => intro ws x; rw [tt, sat, sat, ih1, ih2]
  | h5 c h s ih =>
    intro ws x
    cases c <;> rw [tt] <;> simp only [sat] <;> congr 1 <;> funext p <;> rw [ih]
  | h6 s t ih1 ih2 =>
    intro ws x
    rw [tt, sat_pb E L _ _ (plain_tt t), ih1, ih2, sat]
    congr 2
    exact List.filter_congr fun y _ => ih1 ws y
theorem plain_pu : ∀ s, plain s = true → ∀ b, plain (pu b s) = true := by
  intro s
  induction s using Sy.ind with
  | h1 c => intro _ b; cases b <;> rfl
  | h2 s ih => intro hp b; rw [pu]; exact ih (by simpa [plain] using hp) _
  | h3 c l ih =>
    intro hp b
    have hl := plain_jn hp
    rw [pu, plain, plainL_all, puL_map, List.all_eq_true]
    intro s hs
    obtain ⟨t, ht, rfl⟩ := List.mem_map.mp hs
    exact ih t ht (hl t ht) b
  | h4 s t ih1 ih2 =>
    intro hp b
    rw [plain] at hp
    obtain ⟨p1, p2⟩ := and_of hp
    simp [pu, plain, plainL, ih1 p1, ih2 p2]
  | h5 c h s ih => intro hp b; rw [pu, plain]; exact ih (by simpa [plain] using hp) b
  | h6 s t _ _ => intro hp; simp [plain] at hp
theorem plain_fw : ∀ s, plain s = true → plain (fw s) = true := by
  intro s
  induction s using Sy.ind with
  | h1 c => intro _; rfl
  | h2 s ih => intro hp; rw [fw, plain]; exact ih (by simpa [plain] using hp)
  | h3 c l ih =>
    intro hp
    have hl := plain_jn hp
    cases c
    · rw [fw, plain, plain, plainL_all, fwN_map, List.all_eq_true]
      intro s hs
      obtain ⟨t, ht, rfl⟩ := List.mem_map.mp hs
      obtain ⟨u, hu, rfl⟩ := List.mem_map.mp ht
      rw [plain]
      exact ih u hu (hl u hu)
    · rw [fw, plain, plainL_all, fwL_map, List.all_eq_true]
      intro s hs
      obtain ⟨t, ht, rfl⟩ := List.mem_map.mp hs
      exact ih t ht (hl t ht)
  | h4 s t ih1 ih2 =>
    intro hp
    rw [plain] at hp
    obtain ⟨p1, p2⟩ := and_of hp
    simp [fw, plain, plainL, ih1 p1, ih2 p2]
  | h5 c h s ih => intro hp; rw [plain] at hp; cases c <;> simp [fw, plain, ih hp]
  | h6 s t _ _ => intro hp; simp [plain] at hp
end Kx
/-! ## KA_Size -/
/-! How deep, how wide: bounds of what the turnings make. -/
namespace Kx
mutual
/-- how deep -/
def dp : Sy → Nat
  | .lt _ => 1
  | .nt s => dp s + 1
  | .jn _ l => dpL l + 1
  | .so s t => max (dp s) (dp t) + 1
  | .md _ _ s => dp s + 1
  | .td s t => max (dp s) (dp t) + 1
def dpL : List Sy → Nat
  | [] => 0
  | s :: r => max (dp s) (dpL r)
end
mutual
/-- how many calls deep where it is looked at in a web -/
def ld : Sy → Nat
  | .lt _ => 1
  | .nt s => ld s + 1
  | .jn _ l => ldL l + 2
  | .so s t => max (ld s) (ld t) + 1
  | .md _ _ s => ld s + 1
  | .td s t => max (ld s) (ld t) + 2
def ldL : List Sy → Nat
  | [] => 0
  | s :: r => max (ld s) (ldL r)
end
mutual
/-- no and, or of more than a hundred -/
def wide : Sy → Bool
  | .lt _ => true
  | .nt s => wide s
  | .jn _ l => decide (l.length ≤ 100) && wideL l
  | .so s t => wide s && wide t
  | .md _ _ s => wide s
  | .td s t => wide s && wide t
def wideL : List Sy → Bool
  | [] => true
  | s :: r => wide s && wideL r
end
mutual
/-- what a way down weighs behind put_behind -/
def wt : Sy → Nat
  | .lt _ => 0
  | .nt s => wt s + 1
  | .jn true l => wtL l
  | .jn false [] => 0
  | .jn false (a :: r) => max (wt a) (wtL r) + 1
  | .so s t => max (wt s) (wt t)
  | .md true _ s => wt s + 1
  | .md false _ s => wt s + 2
  | .td s t => max (wt s) (wt t)
def wtL : List Sy → Nat
  | [] => 0
  | s :: r => max (wt s) (wtL r)
end
mutual
/-- how many are made of others -/
def cm : Sy → Nat
  | .lt _ => 0
  | .nt s => cm s + 1
  | .jn _ [] => 0
  | .jn _ (a :: r) => cm a + cmL r + 1
  | .so s t => cm s + cm t + 1
  | .md _ _ s => cm s + 1
  | .td s t => cm s + cm t + 1
def cmL : List Sy → Nat
  | [] => 0
  | s :: r => cm s + cmL r
end
theorem dpL_le {n : Nat} : ∀ {l : List Sy}, dpL l ≤ n ↔ ∀ s, s ∈ l → dp s ≤ n
  | [] => by simp [dpL]
  | a :: r => by
    rw [dpL, Nat.max_le, dpL_le (l := r)]
    simp
theorem ldL_le {n : Nat} : ∀ {l : List Sy}, ldL l ≤ n ↔ ∀ s, s ∈ l → ld s ≤ n
  | [] => by simp [ldL]
  | a :: r => by
    rw [ldL, Nat.max_le, ldL_le (l := r)]
    simp
theorem wtL_le {n : Nat} : ∀ {l : List Sy}, wtL l ≤ n ↔ ∀ s, s ∈ l → wt s ≤ n
  | [] => by simp [wtL]
  | a :: r => by
    rw [wtL, Nat.max_le, wtL_le (l := r)]
    simp
theorem wideL_all : ∀ {l : List Sy}, wideL l = true ↔ ∀ s, s ∈ l → wide s = true
  | [] => by simp [wideL]
  | a :: r => by
    rw [wideL, Bool.and_eq_true, wideL_all (l := r)]
    simp
theorem dp_mem {l : List Sy} {s : Sy} (h : s ∈ l) : dp s ≤ dpL l := dpL_le.mp (Nat.le_refl _) s h
theorem ld_mem {l : List Sy} {s : Sy} (h : s ∈ l) : ld s ≤ ldL l := ldL_le.mp (Nat.le_refl _) s h
theorem wt_mem {l : List Sy} {s : Sy} (h : s ∈ l) : wt s ≤ wtL l := wtL_le.mp (Nat.le_refl _) s h
theorem dp_pos : ∀ s, 1 ≤ dp s := fun s => by cases s <;> rw [dp] <;> omega
theorem cm_le : ∀ {l : List Sy} {s : Sy}, s ∈ l → cm s ≤ cmL l
  | a :: r, s, h => by
    rw [cmL]
    rcases List.mem_cons.mp h with rfl | h
    · omega
    · have := cm_le h
      omega
theorem cm_jn {b : Bool} {l : List Sy} {s : Sy} (h : s ∈ l) : cm s + 1 ≤ cm (.jn b l) := by
  cases l with
  | nil => cases h
  | cons a r =>
    rw [cm]
    rcases List.mem_cons.mp h with rfl | h
    · omega
    · have := cm_le h
      omega
theorem wide_jn {b : Bool} {l : List Sy} (h : wide (.jn b l) = true) : l.length ≤ 100 ∧ ∀ s, s ∈ l → wide s = true := by
  rw [wide, Bool.and_eq_true, wideL_all] at h
  exact ⟨of_decide_eq_true h.1, h.2⟩
theorem wide_of {b : Bool} {l : List Sy} (h : l.length ≤ 100) (h2 : ∀ s, s ∈ l → wide s = true) : wide (.jn b l) = true := by
  rw [wide, Bool.and_eq_true, wideL_all]
  exact ⟨decide_eq_true h, h2⟩
theorem wide_map {b : Bool} {l : List Sy} {f : Sy → Sy} (h : l.length ≤ 100) (h2 : ∀ s, s ∈ l → wide (f s) = true) : wide (.jn b (l.map f)) = true :=
  wide_of (by rw [List.length_map]; exact h) fun s hs => by
    obtain ⟨t, ht, rfl⟩ := List.mem_map.mp hs
    exact h2 t ht

/-! ### wide stays wide -/
theorem wide_pu : ∀ s, wide s = true → ∀ b, wide (pu b s) = true := by
  intro s
  induction s using Sy.ind with
  | h1 c => intro _ b; cases b <;> rfl
  | h2 s ih => intro h b; rw [wide] at h; rw [pu]; exact ih h _
  | h3 c l ih =>
    intro h b
    obtain ⟨h1, h2⟩ := wide_jn h
    rw [pu, puL_map]
    exact wide_map h1 fun s hs => ih s hs (h2 s hs) b
  | h4 s t ih1 ih2 => intro h b; rw [wide, Bool.and_eq_true] at h; rw [pu]; simp [wide, wideL, ih1 h.1, ih2 h.2]
  | h5 c x s ih => intro h b; rw [wide] at h; rw [pu, wide]; exact ih h b
  | h6 s t ih1 ih2 => intro h b; rw [wide, Bool.and_eq_true] at h; rw [pu]; simp [wide, ih1 h.1, ih2 h.2]
theorem wide_fw : ∀ s, wide s = true → wide (fw s) = true := by
  intro s
  induction s using Sy.ind with
  | h1 c => intro _; rfl
  | h2 s ih => intro h; rw [wide] at h; rw [fw, wide]; exact ih h
  | h3 c l ih =>
    intro h
    obtain ⟨h1, h2⟩ := wide_jn h
    cases c
    · rw [fw, wide, fwN_map]
      refine wide_of (by simpa using h1) fun s hs => ?_
      obtain ⟨t, ht, rfl⟩ := List.mem_map.mp hs
      obtain ⟨u, hu, rfl⟩ := List.mem_map.mp ht
      rw [wide]
      exact ih u hu (h2 u hu)
    · rw [fw, fwL_map]
      exact wide_map h1 fun s hs => ih s hs (h2 s hs)
  | h4 s t ih1 ih2 => intro h; rw [wide, Bool.and_eq_true] at h; rw [fw]; simp [wide, wideL, ih1 h.1, ih2 h.2]
  | h5 c x s ih => intro h; rw [wide] at h; cases c <;> rw [fw] <;> simp [wide, ih h]
  | h6 s t ih1 ih2 => intro h; rw [wide, Bool.and_eq_true] at h; rw [fw]; simp [wide, ih1 h.1, ih2 h.2]
theorem wide_co : ∀ s, wide s = true → wide (co s) = true := by
  intro s
  induction s using Sy.ind with
  | h1 c => intro _; rfl
  | h2 s ih => intro h; rw [wide] at h; rw [co, wide]; exact ih h
  | h3 c l ih =>
    intro h
    obtain ⟨h1, h2⟩ := wide_jn h
    rw [co, coL_map]
    exact wide_map h1 fun s hs => ih s hs (h2 s hs)
  | h4 s t ih1 ih2 => intro h; rw [wide, Bool.and_eq_true] at h; rw [co]; simp [wide, ih1 h.1, ih2 h.2]
  | h5 c x s ih => intro h; rw [wide] at h; cases c <;> rw [co] <;> simp [wide, ih h]
  | h6 s t ih1 ih2 => intro h; rw [wide, Bool.and_eq_true] at h; rw [co]; simp [wide, ih1 h.1, ih2 h.2]
theorem wide_pb {f : Sy} (hf : wide f = true) : ∀ s, wide s = true → wide (pb f s) = true := by
  intro s
  induction s using Sy.ind with
  | h1 c => intro _; rw [pb]; simp [wide, hf]
  | h2 s ih => intro h; rw [wide] at h; rw [pb]; simp [wide, hf, ih h]
  | h3 c l ih =>
    intro h
    obtain ⟨h1, h2⟩ := wide_jn h
    have h3 : ∀ b, wide (.jn b (pbL f l)) = true := fun b => by rw [pbL_map]; exact wide_map h1 fun s hs => ih s hs (h2 s hs)
    cases c
    · rw [pb, wide, h3, hf]; rfl
    · rw [pb, h3]
  | h4 s t ih1 ih2 => intro h; rw [wide, Bool.and_eq_true] at h; rw [pb]; simp [wide, ih1 h.1, ih2 h.2]
  | h5 c x s ih => intro h; rw [wide] at h; cases c <;> rw [pb] <;> simp [wide, wideL, hf, ih h]
  | h6 s t ih1 ih2 => intro h; rw [wide, Bool.and_eq_true] at h; rw [pb]; simp [wide, hf, ih1 h.1, ih2 h.2]
theorem wide_tt : ∀ s, wide s = true → wide (tt s) = true := by
  intro s
  induction s using Sy.ind with
  | h1 c => intro _; rfl
  | h2 s ih => intro h; rw [wide] at h; rw [tt, wide]; exact ih h
  | h3 c l ih =>
    intro h
    obtain ⟨h1, h2⟩ := wide_jn h
    rw [tt, ttL_map]
    exact wide_map h1 fun s hs => ih s hs (h2 s hs)
  | h4 s t ih1 ih2 => intro h; rw [wide, Bool.and_eq_true] at h; rw [tt]; simp [wide, ih1 h.1, ih2 h.2]
  | h5 c x s ih => intro h; rw [wide] at h; rw [tt, wide]; exact ih h
  | h6 s t ih1 ih2 => intro h; rw [wide, Bool.and_eq_true] at h; rw [tt]; exact wide_pb (ih1 h.1) _ (ih2 h.2)

/-! ### how deep behind the turnings -/
theorem dpLm {f : Sy → Sy} {l : List Sy} {n : Nat} (h : ∀ s, s ∈ l → dp (f s) ≤ n) : dpL (l.map f) ≤ n := dpL_le.mpr fun s hs => by
  obtain ⟨t, ht, rfl⟩ := List.mem_map.mp hs
  exact h t ht
theorem wtLm {f : Sy → Sy} {l : List Sy} {n : Nat} (h : ∀ s, s ∈ l → wt (f s) ≤ n) : wtL (l.map f) ≤ n := wtL_le.mpr fun s hs => by
  obtain ⟨t, ht, rfl⟩ := List.mem_map.mp hs
  exact h t ht
theorem ldLm {f : Sy → Sy} {l : List Sy} {n : Nat} (h : ∀ s, s ∈ l → ld (f s) ≤ n) : ldL (l.map f) ≤ n := ldL_le.mpr fun s hs => by
  obtain ⟨t, ht, rfl⟩ := List.mem_map.mp hs
  exact h t ht
theorem dp_pu : ∀ s b, dp (pu b s) ≤ dp s + 1 := by
  intro s
  induction s using Sy.ind with
  | h1 c => intro b; cases b <;> simp [pu, dp]
  | h2 s ih => intro b; rw [pu, dp]; have := ih (!b); omega
  | h3 c l ih =>
    intro b
    rw [pu, dp, dp, puL_map]
    have := dpLm (f := pu b) (l := l) (n := dpL l + 1) fun s hs => by have := ih s hs b; have := dp_mem hs; omega
    omega
  | h4 s t ih1 ih2 =>
    intro b
    rw [pu, dp, dp, dpL, dpL, dpL]
    have := ih1 (!b)
    have := ih2 b
    omega
  | h5 c x s ih => intro b; rw [pu, dp, dp]; have := ih b; omega
  | h6 s t ih1 ih2 => intro b; rw [pu, dp, dp]; have := ih1 b; have := ih2 b; omega
theorem dp_fw : ∀ s, dp (fw s) ≤ 3 * dp s := by
  intro s
  induction s using Sy.ind with
  | h1 c => simp [fw, dp]
  | h2 s ih => rw [fw, dp, dp]; omega
  | h3 c l ih =>
    cases c
    · rw [fw, dp, dp, dp, fwN_map]
      have := dpLm (f := Sy.nt) (l := l.map fw) (n := 3 * dpL l + 1) fun s hs => by
        obtain ⟨t, ht, rfl⟩ := List.mem_map.mp hs
        have := ih t ht
        have := dp_mem ht
        rw [dp]
        omega
      omega
    · rw [fw, dp, dp, fwL_map]
      have := dpLm (f := fw) (l := l) (n := 3 * dpL l) fun s hs => by have := ih s hs; have := dp_mem hs; omega
      omega
  | h4 s t ih1 ih2 =>
    rw [fw, dp, dp, dpL, dpL, dpL, dp, dp]
    omega
  | h5 c x s ih => cases c <;> rw [fw] <;> simp only [dp] <;> omega
  | h6 s t ih1 ih2 => rw [fw, dp, dp]; omega
theorem dp_co : ∀ s, dp (co s) ≤ 3 * dp s := by
  intro s
  induction s using Sy.ind with
  | h1 c => simp [co, dp]
  | h2 s ih => rw [co, dp, dp]; omega
  | h3 c l ih =>
    rw [co, dp, dp, coL_map]
    have := dpLm (f := co) (l := l) (n := 3 * dpL l) fun s hs => by have := ih s hs; have := dp_mem hs; omega
    omega
  | h4 s t ih1 ih2 => rw [co, dp, dp]; omega
  | h5 c x s ih => cases c <;> rw [co] <;> simp only [dp] <;> omega
  | h6 s t ih1 ih2 => rw [co, dp, dp]; omega
theorem ld_dp : ∀ s, ld s ≤ 2 * dp s := by
  intro s
  induction s using Sy.ind with
  | h1 c => simp [ld, dp]
  | h2 s ih => rw [ld, dp]; omega
  | h3 c l ih =>
    rw [ld, dp]
    have := (ldL_le (l := l) (n := 2 * dpL l)).mpr fun s hs => by have := ih s hs; have := dp_mem hs; omega
    omega
  | h4 s t ih1 ih2 => rw [ld, dp]; omega
  | h5 c x s ih => rw [ld, dp]; omega
  | h6 s t ih1 ih2 => rw [ld, dp]; omega
theorem ld_fw : ∀ s, ld (fw s) ≤ 4 * dp s := by
  intro s
  induction s using Sy.ind with
  | h1 c => simp [fw, ld, dp]
  | h2 s ih => rw [fw, ld, dp]; omega
  | h3 c l ih =>
    cases c
    · rw [fw, ld, ld, dp, fwN_map]
      have := ldLm (f := Sy.nt) (l := l.map fw) (n := 4 * dpL l + 1) fun s hs => by
        obtain ⟨t, ht, rfl⟩ := List.mem_map.mp hs
        have := ih t ht
        have := dp_mem ht
        rw [ld]
        omega
      omega
    · rw [fw, ld, dp, fwL_map]
      have := ldLm (f := fw) (l := l) (n := 4 * dpL l) fun s hs => by have := ih s hs; have := dp_mem hs; omega
      omega
  | h4 s t ih1 ih2 =>
    rw [fw, ld, ld, ldL, ldL, ldL, ld, dp]
    omega
  | h5 c x s ih => cases c <;> rw [fw] <;> simp only [ld, dp] <;> omega
  | h6 s t ih1 ih2 => rw [fw, ld, dp]; omega
theorem wt_jn (l : List Sy) : wtL l ≤ wt (.jn false l) := by
  cases l with
  | nil => simp [wt, wtL]
  | cons a r => rw [wt, wtL]; omega
theorem dp_pb (f : Sy) : ∀ s, plain s = true → dp (pb f s) ≤ dp s + wt s + 1 + dp f := by
  intro s
  have pf := dp_pos f
  induction s using Sy.ind with
  | h1 c => intro _; rw [pb]; simp only [dp, wt]; omega
  | h2 s ih => intro h; rw [plain] at h; have := ih h; rw [pb]; simp only [dp, wt]; omega
  | h3 c l ih =>
    intro hp
    have hl := plain_jn hp
    have h : dpL (pbL f l) ≤ dpL l + wtL l + 1 + dp f := by
      rw [pbL_map]
      exact dpLm fun s hs => by have := ih s hs (hl s hs); have := dp_mem hs; have := wt_mem hs; omega
    cases c
    · cases l with
      | nil => rw [pb, pbL]; simp only [dp, dpL, wt]; omega
      | cons a r => rw [pb]; simp only [dp, wt, wtL] at h ⊢; omega
    · rw [pb]; simp only [dp, wt]; omega
  | h4 s t ih1 ih2 =>
    intro hp
    rw [plain] at hp
    obtain ⟨p1, p2⟩ := and_of hp
    have := ih1 p1
    have := ih2 p2
    rw [pb]; simp only [dp, wt]; omega
  | h5 c x s ih => intro h; rw [plain] at h; have := ih h; cases c <;> rw [pb] <;> simp only [dp, wt, dpL] <;> omega
  | h6 s t ih1 ih2 => intro h; simp [plain] at h
theorem wt_pb (f : Sy) : ∀ s, plain s = true → wt (pb f s) ≤ wt s + wt f := by
  intro s
  induction s using Sy.ind with
  | h1 c => intro _; rw [pb]; simp only [wt]; omega
  | h2 s ih => intro h; rw [plain] at h; have := ih h; rw [pb]; simp only [wt]; omega
  | h3 c l ih =>
    intro hp
    have hl := plain_jn hp
    have h : wtL (pbL f l) ≤ wtL l + wt f := by
      rw [pbL_map]
      exact wtLm fun s hs => by have := ih s hs (hl s hs); have := wt_mem hs; omega
    cases c
    · cases l with
      | nil => rw [pb, pbL]; simp only [wt]; omega
      | cons a r => rw [pbL] at h; rw [pb, pbL]; simp only [wt, wtL] at h ⊢; omega
    · rw [pb]; simp only [wt]; omega
  | h4 s t ih1 ih2 =>
    intro hp
    rw [plain] at hp
    obtain ⟨p1, p2⟩ := and_of hp
    have := ih1 p1
    have := ih2 p2
    rw [pb]; simp only [wt]; omega
  | h5 c x s ih => intro h; rw [plain] at h; have := ih h; cases c <;> rw [pb] <;> simp only [wt, wtL] <;> omega
  | h6 s t ih1 ih2 => intro h; simp [plain] at h
theorem sq_step (a b : Nat) : (b + 1) * (b + 1) + 2 * b + 1 + (a + 1) * (a + 1) ≤ (a + b + 1 + 1) * (a + b + 1 + 1) := by
  have e : (a + b + 1 + 1) * (a + b + 1 + 1) = a * a + 2 * (a * b) + b * b + 4 * a + 4 * b + 4 := by
    simp only [Nat.add_mul, Nat.mul_add, Nat.mul_comm b a]
    omega
  have e1 : (b + 1) * (b + 1) = b * b + 2 * b + 1 := by simp only [Nat.add_mul, Nat.mul_add]; omega
  have e2 : (a + 1) * (a + 1) = a * a + 2 * a + 1 := by simp only [Nat.add_mul, Nat.mul_add]; omega
  rw [e, e1, e2]
  omega
theorem sq_mono {a b : Nat} (h : a ≤ b) : (a + 1) * (a + 1) + 1 ≤ (b + 1 + 1) * (b + 1 + 1) := by
  have h1 : (a + 1) * (a + 1) ≤ (b + 1) * (b + 1) := Nat.mul_le_mul (by omega) (by omega)
  have e : (b + 1 + 1) * (b + 1 + 1) = (b + 1) * (b + 1) + 2 * b + 3 := by simp only [Nat.add_mul, Nat.mul_add]; omega
  omega
theorem tt_size : ∀ s, dp (tt s) ≤ (cm s + 1) * (cm s + 1) ∧ wt (tt s) ≤ 2 * cm s := by
  intro s
  induction s using Sy.ind with
  | h1 c => simp [tt, dp, wt, cm]
  | h2 s ih =>
    rw [tt]
    simp only [dp, wt, cm]
    have := sq_mono (Nat.le_refl (cm s))
    omega
  | h3 c l ih =>
    rw [tt, ttL_map]
    cases l with
    | nil => cases c <;> simp [dp, dpL, wt, wtL, cm]
    | cons a r =>
      have hc : ∀ s, s ∈ a :: r → cm s ≤ cm a + cmL r := fun s hs => by have := cm_jn (b := c) hs; rw [cm] at this; omega
      have h1 : dpL ((a :: r).map tt) ≤ (cm a + cmL r + 1) * (cm a + cmL r + 1) := dpLm fun s hs => Nat.le_trans (ih s hs).1 (Nat.mul_le_mul (by have := hc s hs; omega) (by have := hc s hs; omega))
      have h2 : wtL ((a :: r).map tt) ≤ 2 * (cm a + cmL r) := wtLm fun s hs => by have := (ih s hs).2; have := hc s hs; omega
      have := sq_mono (Nat.le_refl (cm a + cmL r))
      rw [List.map_cons] at h1 h2 ⊢
      cases c <;> simp only [dp, wt, wtL, dpL, cm] at h1 h2 ⊢ <;> omega
  | h4 s t ih1 ih2 =>
    rw [tt]
    simp only [dp, wt, cm]
    have h1 : (cm s + 1) * (cm s + 1) ≤ (cm s + cm t + 1) * (cm s + cm t + 1) := Nat.mul_le_mul (by omega) (by omega)
    have h2 : (cm t + 1) * (cm t + 1) ≤ (cm s + cm t + 1) * (cm s + cm t + 1) := Nat.mul_le_mul (by omega) (by omega)
    have := sq_mono (Nat.le_refl (cm s + cm t))
    omega
  | h5 c x s ih =>
    rw [tt]
    have := sq_mono (Nat.le_refl (cm s))
    cases c <;> simp only [dp, wt, cm] <;> omega
  | h6 s t ih1 ih2 =>
    rw [tt]
    have h1 := dp_pb (tt s) (tt t) (plain_tt t)
    have h2 := wt_pb (tt s) (tt t) (plain_tt t)
    have := sq_step (cm s) (cm t)
    simp only [cm]
    omega
theorem dp_cm : ∀ s, dp s ≤ cm s + 1 := by
  intro s
  induction s using Sy.ind with
  | h1 c => simp [dp, cm]
  | h2 s ih => simp only [dp, cm]; omega
  | h3 c l ih =>
    cases l with
    | nil => simp [dp, dpL, cm]
    | cons a r =>
      have h1 : dpL (a :: r) ≤ cm a + cmL r + 1 := dpL_le.mpr fun s hs => by
        have := ih s hs
        have h2 := cm_jn (b := c) hs
        rw [cm] at h2
        omega
      rw [dp, cm]
      omega
  | h4 s t ih1 ih2 => simp only [dp, cm]; omega
  | h5 c x s ih => simp only [dp, cm]; omega
  | h6 s t ih1 ih2 => simp only [dp, cm]; omega
/-- a plain one has nothing to take out -/
theorem tt_plain : ∀ s, plain s = true → tt s = s := by
  intro s
  induction s using Sy.ind with
  | h1 c => intro _; rfl
  | h2 s ih => intro h; rw [plain] at h; rw [tt, ih h]
  | h3 c l ih =>
    intro hp
    have hl := plain_jn hp
    rw [tt, ttL_map]
    congr 1
    rw [List.map_congr_left fun s hs => ih s hs (hl s hs), List.map_id']
  | h4 s t ih1 ih2 =>
    intro hp
    rw [plain] at hp
    obtain ⟨p1, p2⟩ := and_of hp
    rw [tt, ih1 p1, ih2 p2]
  | h5 c x s ih => intro h; rw [plain] at h; rw [tt, ih h]
  | h6 s t _ _ => intro h; simp [plain] at h
end Kx
/-! ## KA_Web -/
/-! Webs: what holds in a web cut to some worlds, in a part that steps don't leave. -/
namespace Kx
structure Web where
  many : Nat
  steps : List (Nat × List (Nat × Nat))
  letters : List (Nat × List Nat)
def asc {α : Type} (d : α) : List (Nat × α) → Nat → α
  | [], _ => d
  | (h, a) :: r, x => if h = x then a else asc d r x
def Web.E (W : Web) (h : Nat) : List (Nat × Nat) := asc [] W.steps h
def Web.L (W : Web) (c : Nat) : List Nat := asc [] W.letters c
structure WOk (W : Web) : Prop where
  many : W.many ≤ 100
  stn : (W.steps.map (·.1)).Nodup
  ltn : (W.letters.map (·.1)).Nodup
  stl : W.steps.length ≤ 100
  ltl : W.letters.length ≤ 100
  prl : ∀ s, s ∈ W.steps → s.2.length ≤ 10000
  wdl : ∀ s, s ∈ W.letters → s.2.length ≤ 10000
  prm : ∀ s, s ∈ W.steps → ∀ p, p ∈ s.2 → p.1 < W.many ∧ p.2 < W.many
/-- what holds of a saying in a web, world by world -/
def tru (W : Web) (s : Sy) : List Bool := (List.range W.many).map fun x => sat W.E W.L s (List.range W.many) x
/-- the place of x in ks -/
def ixo : List Nat → Nat → Option Nat
  | [], _ => none
  | a :: r, x => if a = x then some 0 else (ixo r x).map (· + 1)
def cutP (ks : List Nat) (ps : List (Nat × Nat)) : List (Nat × Nat) :=
  (ps.filter fun p => (ixo ks p.1).isSome && (ixo ks p.2).isSome).map fun p => ((ixo ks p.1).getD 0, (ixo ks p.2).getD 0)
def cutQ (ks : List Nat) (ws : List Nat) : List Nat := (ws.filter fun x => (ixo ks x).isSome).map fun x => (ixo ks x).getD 0
def cutS (ks : List Nat) (ss : List (Nat × List (Nat × Nat))) : List (Nat × List (Nat × Nat)) := (ss.map fun s => (s.1, cutP ks s.2)).filter fun s => !s.2.isEmpty
def cutL (ks : List Nat) (ss : List (Nat × List Nat)) : List (Nat × List Nat) := (ss.map fun s => (s.1, cutQ ks s.2)).filter fun s => !s.2.isEmpty
def cutW (W : Web) (ks : List Nat) : Web := ⟨ks.length, cutS ks W.steps, cutL ks W.letters⟩

theorem asc_mem {α : Type} {d : α} : ∀ {l : List (Nat × α)} {x : Nat}, asc d l x = d ∨ (x, asc d l x) ∈ l
  | [], _ => .inl rfl
  | (h, a) :: r, x => by
    rw [asc]
    by_cases e : h = x
    · rw [if_pos e]; subst e; exact .inr List.mem_cons_self
    · rw [if_neg e]
      exact (asc_mem (l := r)).imp id (List.mem_cons_of_mem _)
theorem asc_no {α : Type} {d : α} : ∀ {l : List (Nat × α)} {x : Nat}, x ∉ l.map (·.1) → asc d l x = d
  | [], _, _ => rfl
  | (h, a) :: r, x, hn => by
    rw [List.map_cons, List.mem_cons, not_or] at hn
    rw [asc, if_neg (Ne.symm hn.1)]
    exact asc_no hn.2
theorem asc_cut {α β : Type} (f : List α → List β) (f0 : f [] = []) : ∀ {l : List (Nat × List α)} {x : Nat}, (l.map (·.1)).Nodup →
    asc [] ((l.map fun s => (s.1, f s.2)).filter fun s => !s.2.isEmpty) x = f (asc [] l x)
  | [], _, _ => by simp [asc, f0]
  | (h, a) :: r, x, hn => by
    rw [List.map_cons, List.nodup_cons] at hn
    have ih := asc_cut f f0 (l := r) (x := x) hn.2
    rw [List.map_cons, asc]
    by_cases e : h = x
    · subst e
      rw [if_pos rfl]
      cases q : f a with
      | nil =>
        rw [List.filter_cons]
        have e0 : asc [] r h = [] := asc_no hn.1
        simp only [q, List.isEmpty_nil, Bool.not_true, Bool.false_eq_true, if_false]
        rw [ih, e0, f0]
      | cons b t =>
        rw [List.filter_cons]
        simp only [q, List.isEmpty_cons, Bool.not_false, if_true]
        rw [asc, if_pos rfl]
    · rw [if_neg e, List.filter_cons]
      by_cases q : (!(f a).isEmpty) = true
      · simp only [q, if_true]
        rw [asc, if_neg e, ih]
      · simp only [q, if_false]
        exact ih
theorem cutW_E {W : Web} (hW : WOk W) (ks h) : (cutW W ks).E h = cutP ks (W.E h) := asc_cut (cutP ks) rfl hW.stn
theorem cutW_L {W : Web} (hW : WOk W) (ks c) : (cutW W ks).L c = cutQ ks (W.L c) := asc_cut (cutQ ks) rfl hW.ltn
theorem ixo_some : ∀ {ks : List Nat} {x i : Nat}, ixo ks x = some i → ks[i]? = some x
  | a :: r, x, i, h => by
    rw [ixo] at h
    by_cases e : a = x
    · rw [if_pos e] at h
      cases h
      rw [e]; rfl
    · rw [if_neg e] at h
      cases q : ixo r x with
      | none => rw [q] at h; cases h
      | some j =>
        rw [q] at h
        cases h
        exact ixo_some (ks := r) q
theorem ixo_lt {ks : List Nat} {x i : Nat} (h : ixo ks x = some i) : i < ks.length := (List.getElem?_eq_some_iff.mp (ixo_some h)).1
theorem ixo_mem : ∀ {ks : List Nat} {x : Nat}, (ixo ks x).isSome = true ↔ x ∈ ks
  | [], x => by simp [ixo]
  | a :: r, x => by
    rw [ixo]
    by_cases e : a = x
    · rw [if_pos e]; simp [e]
    · rw [if_neg e, Option.isSome_map, ixo_mem (ks := r), List.mem_cons]
      exact ⟨.inr, fun h => h.resolve_left (Ne.symm e)⟩
theorem ixo_at : ∀ {ks : List Nat} {x i : Nat}, ks.Nodup → ks[i]? = some x → ixo ks x = some i
  | a :: r, x, 0, _, h => by cases h; rw [ixo, if_pos rfl]
  | a :: r, x, i + 1, hn, h => by
    rw [List.nodup_cons] at hn
    have h' : r[i]? = some x := h
    have hx : x ∈ r := List.mem_of_getElem? h'
    rw [ixo, if_neg (fun e : a = x => hn.1 (by rw [e]; exact hx)), ixo_at hn.2 h']
    rfl
theorem WOk.cut {W : Web} (hW : WOk W) {ks : List Nat} (hl : ks.length ≤ 100) : WOk (cutW W ks) where
  many := hl
  stn := by
    have h : ((cutS ks W.steps).map (·.1)).Sublist (W.steps.map (·.1)) := by
      have := (List.filter_sublist (p := fun s : Nat × List (Nat × Nat) => !s.2.isEmpty) (l := W.steps.map fun s => (s.1, cutP ks s.2))).map (·.1)
      rw [List.map_map] at this
      exact this
    exact h.nodup hW.stn
  ltn := by
    have h : ((cutL ks W.letters).map (·.1)).Sublist (W.letters.map (·.1)) := by
      have := (List.filter_sublist (p := fun s : Nat × List Nat => !s.2.isEmpty) (l := W.letters.map fun s => (s.1, cutQ ks s.2))).map (·.1)
      rw [List.map_map] at this
      exact this
    exact h.nodup hW.ltn
  stl := by
    have := List.length_filter_le (fun s : Nat × List (Nat × Nat) => !s.2.isEmpty) (W.steps.map fun s => (s.1, cutP ks s.2))
    rw [List.length_map] at this
    exact Nat.le_trans this hW.stl
  ltl := by
    have := List.length_filter_le (fun s : Nat × List Nat => !s.2.isEmpty) (W.letters.map fun s => (s.1, cutQ ks s.2))
    rw [List.length_map] at this
    exact Nat.le_trans this hW.ltl
  prl := fun s hs => by
    obtain ⟨t, ht, rfl⟩ := List.mem_map.mp (List.mem_filter.mp hs).1
    show (cutP ks t.2).length ≤ 10000
    unfold cutP
    rw [List.length_map]
    exact Nat.le_trans (List.length_filter_le _ _) (hW.prl t ht)
  wdl := fun s hs => by
    obtain ⟨t, ht, rfl⟩ := List.mem_map.mp (List.mem_filter.mp hs).1
    show (cutQ ks t.2).length ≤ 10000
    unfold cutQ
    rw [List.length_map]
    exact Nat.le_trans (List.length_filter_le _ _) (hW.wdl t ht)
  prm := fun s hs p hp => by
    obtain ⟨t, ht, rfl⟩ := List.mem_map.mp (List.mem_filter.mp hs).1
    obtain ⟨q, hq, rfl⟩ := List.mem_map.mp (show p ∈ cutP ks t.2 from hp)
    have h2 := (List.mem_filter.mp hq).2
    rw [Bool.and_eq_true] at h2
    obtain ⟨a, ha⟩ := Option.isSome_iff_exists.mp h2.1
    obtain ⟨b, hb⟩ := Option.isSome_iff_exists.mp h2.2
    show (ixo ks q.1).getD 0 < ks.length ∧ (ixo ks q.2).getD 0 < ks.length
    rw [ha, hb]
    exact ⟨ixo_lt ha, ixo_lt hb⟩

/-- what holds in the cut web holds of the kept worlds -/
theorem sat_cut {W : Web} (hW : WOk W) {ks : List Nat} (hn : ks.Nodup) : ∀ (s : Sy) (js : List Nat) (i : Nat), (∀ j, j ∈ js → j < ks.length) → i < ks.length →
    sat (cutW W ks).E (cutW W ks).L s js i = sat W.E W.L s (js.map fun j => ks.getD j 0) (ks.getD i 0) := by
  have gd : ∀ i, i < ks.length → ks[i]? = some (ks.getD i 0) := fun i h => by rw [List.getElem?_eq_getElem h, List.getD_eq_getElem?_getD, List.getElem?_eq_getElem h]; rfl
  have inj : ∀ i j, i < ks.length → j < ks.length → ks.getD i 0 = ks.getD j 0 → i = j := fun i j hi hj e => by
    have h1 := ixo_at hn (gd i hi)
    have h2 := ixo_at hn (gd j hj)
    rw [e] at h1
    rw [h1] at h2
    exact Option.some.inj h2
  -- a step of the cut: one of the web's, renamed
  have stp : ∀ (h : Nat) (js : List Nat) (i : Nat) (f g : Nat → Bool), (∀ j, j ∈ js → j < ks.length) → i < ks.length → (∀ j, j < ks.length → f j = g (ks.getD j 0)) →
      (((cutW W ks).E h).any fun p => (decide (p.1 = i) && decide (p.2 ∈ js)) && f p.2) = (W.E h).any fun p => (decide (p.1 = ks.getD i 0) && decide (p.2 ∈ js.map fun j => ks.getD j 0)) && g p.2 := by
    intro h js i f g hj hi hfg
    rw [cutW_E hW, Bool.eq_iff_iff, List.any_eq_true, List.any_eq_true]
    constructor
    · rintro ⟨p, hp, q⟩
      obtain ⟨r, hr, rfl⟩ := List.mem_map.mp hp
      obtain ⟨hr, h2⟩ := List.mem_filter.mp hr
      rw [Bool.and_eq_true] at h2
      obtain ⟨a, ha⟩ := Option.isSome_iff_exists.mp h2.1
      obtain ⟨b, hb⟩ := Option.isSome_iff_exists.mp h2.2
      simp only [ha, hb, Option.getD_some, Bool.and_eq_true, decide_eq_true_eq] at q
      obtain ⟨⟨rfl, q2⟩, q3⟩ := q
      have e1 : ks.getD a 0 = r.1 := by have := gd a (ixo_lt ha); rw [ixo_some ha] at this; exact (Option.some.inj this).symm
      have e2 : ks.getD b 0 = r.2 := by have := gd b (ixo_lt hb); rw [ixo_some hb] at this; exact (Option.some.inj this).symm
      refine ⟨r, hr, ?_⟩
      simp only [Bool.and_eq_true, decide_eq_true_eq]
      rw [hfg b (ixo_lt hb), e2] at q3
      exact ⟨⟨e1.symm, List.mem_map.mpr ⟨b, q2, e2⟩⟩, q3⟩
    · rintro ⟨r, hr, q⟩
      simp only [Bool.and_eq_true, decide_eq_true_eq] at q
      obtain ⟨⟨q1, q2⟩, q3⟩ := q
      obtain ⟨b, hb, e2⟩ := List.mem_map.mp q2
      have h1 : ixo ks r.1 = some i := ixo_at hn (by rw [q1]; exact gd i hi)
      have h2 : ixo ks r.2 = some b := ixo_at hn (by rw [← e2]; exact gd b (hj b hb))
      refine ⟨(i, b), List.mem_map.mpr ⟨r, List.mem_filter.mpr ⟨hr, by rw [h1, h2]; rfl⟩, by rw [h1, h2]; rfl⟩, ?_⟩
      simp only [Bool.and_eq_true, decide_eq_true_eq]
      refine ⟨⟨trivial, hb⟩, ?_⟩
      rw [hfg b (hj b hb), e2]
      exact q3
  intro s
  induction s using Sy.ind with
  | h1 c =>
    intro js i hj hi
    rw [sat, sat, cutW_L hW]
    refine decide_eq_decide.mpr ⟨fun h => ?_, fun h => ?_⟩
    · obtain ⟨x, hx, e⟩ := List.mem_map.mp h
      obtain ⟨hx, h2⟩ := List.mem_filter.mp hx
      obtain ⟨a, ha⟩ := Option.isSome_iff_exists.mp h2
      rw [ha] at e
      have e' : a = i := e
      subst e'
      have := gd a hi
      rw [ixo_some ha] at this
      rw [← Option.some.inj this]
      exact hx
    · refine List.mem_map.mpr ⟨ks.getD i 0, List.mem_filter.mpr ⟨h, ?_⟩, ?_⟩
      · rw [ixo_at hn (gd i hi)]; rfl
      · rw [ixo_at hn (gd i hi)]; rfl
  | h2 s ih => intro js i hj hi; rw [sat, sat, ih js i hj hi]
  | h3 b l ih =>
    intro js i hj hi
    cases b
    · rw [sat_jf, sat_jf, Bool.eq_iff_iff, List.any_eq_true, List.any_eq_true]
      exact ⟨fun ⟨s, hs, q⟩ => ⟨s, hs, by rw [← ih s hs js i hj hi]; exact q⟩, fun ⟨s, hs, q⟩ => ⟨s, hs, by rw [ih s hs js i hj hi]; exact q⟩⟩
    · rw [sat_jt, sat_jt, Bool.eq_iff_iff, List.all_eq_true, List.all_eq_true]
      exact ⟨fun q s hs => by rw [← ih s hs js i hj hi]; exact q s hs, fun q s hs => by rw [ih s hs js i hj hi]; exact q s hs⟩
  | h4 s t ih1 ih2 => intro js i hj hi; rw [sat, sat, ih1 js i hj hi, ih2 js i hj hi]
  | h5 b h s ih =>
    intro js i hj hi
    have q := stp h js i
    cases b
    · rw [sat, sat]
      exact q _ _ hj hi fun j h => ih js j hj h
    · rw [sat, sat]
      have dm : ∀ (l : List (Nat × Nat)) (u v : Nat × Nat → Bool), (l.all fun p => !u p || v p) = !(l.any fun p => u p && !v p) := fun l u v => by
        rw [not_any]; congr 1; funext p; cases u p <;> cases v p <;> rfl
      rw [dm, dm]
      exact congrArg _ (q (fun j => !sat (cutW W ks).E (cutW W ks).L s js j) (fun x => !sat W.E W.L s (js.map fun j => ks.getD j 0) x) hj hi fun j h => by rw [ih js j hj h])
  | h6 s t ih1 ih2 =>
    intro js i hj hi
    rw [sat, sat, ih1 js i hj hi, ih2 _ i (fun j h => hj j (List.mem_filter.mp h).1) hi]
    congr 2
    rw [List.filter_map]
    congr 1
    exact List.filter_congr fun j h => ih1 js j hj (hj j h)
theorem range_get (ks : List Nat) : (List.range ks.length).map (fun j => ks.getD j 0) = ks := by
  refine List.ext_getElem? fun i => ?_
  rw [List.getElem?_map]
  by_cases h : i < ks.length
  · rw [List.getElem?_range h, List.getElem?_eq_getElem h]
    show some (ks.getD i 0) = _
    rw [List.getD_eq_getElem?_getD, List.getElem?_eq_getElem h]; rfl
  · rw [List.getElem?_eq_none (by simpa using h), List.getElem?_eq_none (by simpa using h)]; rfl
theorem tru_cut {W : Web} (hW : WOk W) {ks : List Nat} (hn : ks.Nodup) (s : Sy) : tru (cutW W ks) s = ks.map fun x => sat W.E W.L s ks x := by
  unfold tru
  show (List.range ks.length).map _ = _
  have e : (List.range ks.length).map (fun x => sat (cutW W ks).E (cutW W ks).L s (List.range (cutW W ks).many) x) = (List.range ks.length).map fun j => sat W.E W.L s ks (ks.getD j 0) := by
    refine List.map_congr_left fun j hj => ?_
    show sat (cutW W ks).E (cutW W ks).L s (List.range ks.length) j = _
    rw [sat_cut hW hn s (List.range ks.length) j (fun j h => List.mem_range.mp h) (List.mem_range.mp hj)]
    rw [range_get]
  rw [e]
  have e2 : ((List.range ks.length).map fun j => sat W.E W.L s ks (ks.getD j 0)) = ((List.range ks.length).map fun j => ks.getD j 0).map fun x => sat W.E W.L s ks x := by rw [List.map_map]; rfl
  rw [e2, range_get]
/-- in a part that the steps don't leave, as in the whole -/
theorem sat_part (E L) : ∀ (s : Sy) (ks ws : List Nat), (∀ x, x ∈ ks → x ∈ ws) → (∀ h p, p ∈ E h → p.1 ∈ ks → p.2 ∈ ws → p.2 ∈ ks) → ∀ x, x ∈ ks → sat E L s ks x = sat E L s ws x := by
  intro s
  induction s using Sy.ind with
  | h1 c => intro ks ws _ _ x _; rw [sat, sat]
  | h2 s ih => intro ks ws h1 h2 x hx; rw [sat, sat, ih ks ws h1 h2 x hx]
  | h3 b l ih =>
    intro ks ws h1 h2 x hx
    cases b
    · rw [sat_jf, sat_jf, Bool.eq_iff_iff, List.any_eq_true, List.any_eq_true]
      exact ⟨fun ⟨s, hs, q⟩ => ⟨s, hs, by rw [← ih s hs ks ws h1 h2 x hx]; exact q⟩, fun ⟨s, hs, q⟩ => ⟨s, hs, by rw [ih s hs ks ws h1 h2 x hx]; exact q⟩⟩
    · rw [sat_jt, sat_jt, Bool.eq_iff_iff, List.all_eq_true, List.all_eq_true]
      exact ⟨fun q s hs => by rw [← ih s hs ks ws h1 h2 x hx]; exact q s hs, fun q s hs => by rw [ih s hs ks ws h1 h2 x hx]; exact q s hs⟩
  | h4 s t ih1 ih2 => intro ks ws h1 h2 x hx; rw [sat, sat, ih1 ks ws h1 h2 x hx, ih2 ks ws h1 h2 x hx]
  | h5 b h s ih =>
    intro ks ws h1 h2 x hx
    have key : ∀ p, p ∈ E h → p.1 = x → (p.2 ∈ ks ↔ p.2 ∈ ws) := fun p hp e => ⟨h1 _, fun q => h2 h p hp (e ▸ hx) q⟩
    cases b
    · rw [sat, sat, Bool.eq_iff_iff, List.any_eq_true, List.any_eq_true]
      constructor
      · rintro ⟨p, hp, q⟩
        simp only [Bool.and_eq_true, decide_eq_true_eq] at q
        refine ⟨p, hp, ?_⟩
        simp only [Bool.and_eq_true, decide_eq_true_eq]
        exact ⟨⟨q.1.1, h1 _ q.1.2⟩, by rw [← ih ks ws h1 h2 _ q.1.2]; exact q.2⟩
      · rintro ⟨p, hp, q⟩
        simp only [Bool.and_eq_true, decide_eq_true_eq] at q
        have hk := (key p hp q.1.1).mpr q.1.2
        refine ⟨p, hp, ?_⟩
        simp only [Bool.and_eq_true, decide_eq_true_eq]
        exact ⟨⟨q.1.1, hk⟩, by rw [ih ks ws h1 h2 _ hk]; exact q.2⟩
    · rw [sat, sat, Bool.eq_iff_iff, List.all_eq_true, List.all_eq_true]
      constructor
      · intro q p hp
        have := q p hp
        simp only [Bool.or_eq_true, Bool.not_eq_true', Bool.and_eq_false_iff, decide_eq_false_iff_not] at this ⊢
        rcases this with (z | z) | z
        · exact .inl (.inl z)
        · by_cases e : p.1 = x
          · exact .inl (.inr fun m => z ((key p hp e).mpr m))
          · exact .inl (.inl e)
        · by_cases e : p.1 = x
          · by_cases m : p.2 ∈ ws
            · exact .inr (by rw [← ih ks ws h1 h2 _ ((key p hp e).mpr m)]; exact z)
            · exact .inl (.inr m)
          · exact .inl (.inl e)
      · intro q p hp
        have := q p hp
        simp only [Bool.or_eq_true, Bool.not_eq_true', Bool.and_eq_false_iff, decide_eq_false_iff_not] at this ⊢
        rcases this with (z | z) | z
        · exact .inl (.inl z)
        · exact .inl (.inr fun m => z (h1 _ m))
        · by_cases m : p.2 ∈ ks
          · exact .inr (by rw [ih ks ws h1 h2 _ m]; exact z)
          · exact .inl (.inr m)
  | h6 s t ih1 ih2 =>
    intro ks ws h1 h2 x hx
    rw [sat, sat, ih1 ks ws h1 h2 x hx]
    cases q : sat E L s ws x with
    | false => rfl
    | true =>
      have hx1 : x ∈ ks.filter fun y => sat E L s ks y := List.mem_filter.mpr ⟨hx, by rw [ih1 ks ws h1 h2 x hx]; exact q⟩
      rw [ih2 (ks.filter fun y => sat E L s ks y) (ws.filter fun y => sat E L s ws y) (fun y hy => ?_) (fun h p hp hp1 hp2 => ?_) x hx1]
      · obtain ⟨m1, m2⟩ := List.mem_filter.mp hy
        exact List.mem_filter.mpr ⟨h1 _ m1, by rw [← ih1 ks ws h1 h2 y m1]; exact m2⟩
      · obtain ⟨m1, _⟩ := List.mem_filter.mp hp1
        obtain ⟨m3, m4⟩ := List.mem_filter.mp hp2
        have := h2 h p hp m1 m3
        exact List.mem_filter.mpr ⟨this, by rw [ih1 ks ws h1 h2 _ this]; exact m4⟩
end Kx
/-! ## KB_Layer -/
set_option Elab.async false
set_option linter.all false
set_option maxRecDepth 100000
/-! Readings by data: what an expression gives is told by a datum (Dp), the heap growing alone (Ex). -/
namespace Kx
open PySem PySem.Spec PyProof.Rows L2 Evl
abbrev Fg := PySem.W.Frag
section
variable {K : Fg} {H H' H1 H2 : Hp}
mutual
theorem dp_ex (e : Ex H H') : ∀ (d : PyData) (v : V), Dp K H v d → Dp K H' v d
  | .none, _, h => by cases h; exact .non
  | .bool _, _, h => by cases h; exact .bl _
  | .int _, _, h => by cases h; exact .int _
  | .str _, _, h => by cases h; exact .str _
  | .list ds, _, h => by
    cases h with
    | lst q a => exact .lst (ex_l e q) (dpa_ex e ds _ a)
  | .tuple ds, _, h => by
    cases h with
    | tup q a => exact .tup (ex_t e q) (dpa_ex e ds _ a)
  | .dict _, _, h => by cases h
theorem dpa_ex (e : Ex H H') : ∀ (ds : List PyData) (vs : List V), DpAll K H vs ds → DpAll K H' vs ds
  | [], _, h => by cases h; exact .nil
  | d :: ds, _, h => by
    cases h with
    | cons q a => exact .cons (dp_ex e d _ q) (dpa_ex e ds _ a)
end
theorem _root_.Evl.Ex.dp (e : Ex H H') {d : PyData} {v : V} (h : Dp K H v d) : Dp K H' v d := dp_ex e d v h
theorem _root_.Evl.Ex.dps (e : Ex H H') {ds : List PyData} {vs : List V} (h : DpAll K H vs ds) : DpAll K H' vs ds := dpa_ex e ds vs h
theorem dpa_len : ∀ {vs : List V} {ds : List PyData}, DpAll K H vs ds → vs.length = ds.length
  | [], _, h => by cases h; rfl
  | _ :: _, _, h => by
    cases h with
    | cons q a => rw [List.length_cons, List.length_cons, dpa_len a]
theorem dpa_get : ∀ {vs : List V} {ds : List PyData} {i : Nat} {d : PyData}, DpAll K H vs ds → ds[i]? = some d → ∃ v, vs[i]? = some v ∧ Dp K H v d
  | _, [], _, _, h, e => by simp at e
  | [], _ :: _, _, _, h, _ => by cases h
  | v :: vs, d :: ds, 0, _, h, e => by
    cases h with
    | cons q a =>
      have e' : d = _ := Option.some.inj e
      subst e'
      exact ⟨v, rfl, q⟩
  | v :: vs, d :: ds, i + 1, _, h, e => by
    cases h with
    | cons q a =>
      obtain ⟨w, e1, e2⟩ := dpa_get (i := i) a (by simpa using e)
      exact ⟨w, by simpa using e1, e2⟩
theorem dpa_at : ∀ {vs : List V} {ds : List PyData} {i : Nat} {v : V}, DpAll K H vs ds → vs[i]? = some v → ∃ d, ds[i]? = some d ∧ Dp K H v d
  | [], _, _, _, h, e => by simp at e
  | _ :: _, [], _, _, h, _ => by cases h
  | v :: vs, d :: ds, 0, _, h, e => by
    cases h with
    | cons q a =>
      have e' : v = _ := Option.some.inj e
      subst e'
      exact ⟨d, rfl, q⟩
  | v :: vs, d :: ds, i + 1, _, h, e => by
    cases h with
    | cons q a =>
      obtain ⟨w, e1, e2⟩ := dpa_at (i := i) a (by simpa using e)
      exact ⟨w, by simpa using e1, e2⟩
theorem dpa_app : ∀ {vs ws : List V} {ds es : List PyData}, DpAll K H vs ds → DpAll K H ws es → DpAll K H (vs ++ ws) (ds ++ es)
  | [], _, _, _, h, g => by cases h; exact g
  | _ :: _, _, _, _, h, g => by
    cases h with
    | cons q a => exact .cons q (dpa_app a g)
theorem dpa_take : ∀ {vs : List V} {ds : List PyData} (n : Nat), DpAll K H vs ds → DpAll K H (vs.take n) (ds.take n)
  | _, _, 0, _ => by simpa using DpAll.nil
  | [], _, n + 1, h => by cases h; exact .nil
  | _ :: _, _, n + 1, h => by
    cases h with
    | cons q a => exact .cons q (dpa_take n a)
theorem dpa_drop : ∀ {vs : List V} {ds : List PyData} (n : Nat), DpAll K H vs ds → DpAll K H (vs.drop n) (ds.drop n)
  | _, _, 0, h => by simpa using h
  | [], _, n + 1, h => by cases h; exact .nil
  | _ :: _, _, n + 1, h => by
    cases h with
    | cons q a => exact dpa_drop n a
/-- flat data, any heap -/
theorem dpa_strs : ∀ (ss : List Str), DpAll K H (ss.map V.str) (ss.map PyData.str)
  | [] => .nil
  | s :: r => .cons (.str s) (dpa_strs r)
theorem dpa_ints : ∀ (ss : List Int), DpAll K H (ss.map V.int) (ss.map PyData.int)
  | [] => .nil
  | s :: r => .cons (.int s) (dpa_ints r)
theorem dpa_bls : ∀ (ss : List Bool), DpAll K H (ss.map V.bl) (ss.map PyData.bool)
  | [] => .nil
  | s :: r => .cons (.bl s) (dpa_bls r)
theorem of_dp_int {v : V} {i : Int} (h : Dp K H v (.int i)) : v = .int i := by cases h; rfl
theorem of_dp_bl {v : V} {b : Bool} (h : Dp K H v (.bool b)) : v = .bl b := by cases h; rfl
theorem of_dp_str {v : V} {x : Str} (h : Dp K H v (.str x)) : v = .str x := by cases h; rfl
theorem of_dp_tup {v : V} {ds : List PyData} (h : Dp K H v (.tuple ds)) : ∃ a xs, v = .ref a ∧ SqT K H a xs ∧ DpAll K H xs ds := by
  cases h with
  | tup q a => exact ⟨_, _, rfl, q, a⟩
theorem of_dp_lst {v : V} {ds : List PyData} (h : Dp K H v (.list ds)) : ∃ a xs, v = .ref a ∧ SqL K H a xs ∧ DpAll K H xs ds := by
  cases h with
  | lst q a => exact ⟨_, _, rfl, q, a⟩
theorem of_dpa_strs : ∀ {vs : List V} (ss : List Str), DpAll K H vs (ss.map PyData.str) → vs = ss.map V.str
  | _, [], h => by cases h; rfl
  | _, s :: r, h => by
    cases h with
    | cons q a => rw [of_dp_str q, of_dpa_strs r a]; rfl
theorem of_dpa_ints : ∀ {vs : List V} (ss : List Int), DpAll K H vs (ss.map PyData.int) → vs = ss.map V.int
  | _, [], h => by cases h; rfl
  | _, s :: r, h => by
    cases h with
    | cons q a => rw [of_dp_int q, of_dpa_ints r a]; rfl
theorem of_dpa_bls : ∀ {vs : List V} (ss : List Bool), DpAll K H vs (ss.map PyData.bool) → vs = ss.map V.bl
  | _, [], h => by cases h; rfl
  | _, s :: r, h => by
    cases h with
    | cons q a => rw [of_dp_bl q, of_dpa_bls r a]; rfl
theorem dp_new_tup {p : Addr} {vs : List V} {ds : List PyData} (hp : H p = none) (h : DpAll K H vs ds) : Dp K (upd H p (.tup vs)) (.ref p) (.tuple ds) :=
  .tup (st_of upd_same) ((Ex.new hp).dps h)
theorem dp_new_lst {p : Addr} {vs : List V} {ds : List PyData} (hp : H p = none) (h : DpAll K H vs ds) : Dp K (upd H p (.lst vs)) (.ref p) (.list ds) :=
  .lst (sq_of upd_same) ((Ex.new hp).dps h)
end


/-! ### what is private: tracked things that a datum may not lean on -/
def del (H : Hp) (F : Addr → Bool) : Hp := fun b => if F b = true then none else H b
def Prv (F : Addr → Bool) (H : Hp) : Prop := ∀ b, F b = true → H b ≠ none
def nul : Addr → Bool := fun _ => false
def add (F : Addr → Bool) (p : Addr) : Addr → Bool := fun b => F b || decide (b = p)
section
variable {F : Addr → Bool} {H H' H1 : Hp} {p : Addr} {o : HO} {K : Fg}
theorem del_nul : del H nul = H := by funext b; unfold del nul; rw [if_neg (by decide)]
theorem prv_nul : Prv nul H := fun b h => by cases h
theorem Prv.mono (p : Prv F H) (e : Ex H H') : Prv F H' := fun b h q => by
  have h1 := p b h
  cases z : H b with
  | none => exact h1 z
  | some o => rw [e b o z] at q; cases q
theorem Prv.no (q : Prv F H) (h : H p = none) : F p = false := by
  cases z : F p with
  | false => rfl
  | true => exact absurd h (q p z)
theorem del_some {b : Addr} {o : HO} (h : del H F b = some o) : F b = false ∧ H b = some o := by
  unfold del at h
  cases z : F b with
  | true => rw [z, if_pos rfl] at h; cases h
  | false => rw [z, if_neg (by decide)] at h; exact ⟨rfl, h⟩
theorem del_at {b : Addr} {o : HO} (hf : F b = false) (h : H b = some o) : del H F b = some o := by
  unfold del
  rw [hf, if_neg (by decide)]
  exact h
theorem del_le : Ex (del H F) H := fun b o h => (del_some h).2
theorem del_ex (e : Ex H H') : Ex (del H F) (del H' F) := fun b o h => del_at (del_some h).1 (e b o (del_some h).2)
theorem del_upd (hf : F p = true) : del (upd H p o) F = del H F := by
  funext b
  unfold del
  by_cases hb : b = p
  · subst hb; rw [hf, if_pos rfl, if_pos rfl]
  · rw [upd_ne hb]
theorem add_self : add F p p = true := by unfold add; simp
theorem add_no {b : Addr} (h : add F p b = false) : F b = false ∧ b ≠ p := by unfold add at h; simpa using h
theorem add_ne {b : Addr} (h : F b = false) (hb : b ≠ p) : add F p b = false := by unfold add; simp [h, hb]
theorem del_add_le : Ex (del H (add F p)) (del H F) := fun b o h => del_at (add_no (del_some h).1).1 (del_some h).2
/-- a new thing may be private -/
theorem ex_add (hn : H p = none) (a : Ex H1 (del H F)) (e : Ex H H') : Ex H1 (del H' (add F p)) := fun b o h => by
  have q := del_some (a b o h)
  exact del_at (add_ne q.1 (ne_of_none q.2 hn)) (e b o q.2)
theorem Prv.add (q : Prv F H) (h : H p ≠ none) : Prv (add F p) H := fun b hb => by
  unfold Kx.add at hb
  by_cases e : b = p
  · subst e; exact h
  · exact q b (by simpa [e] using hb)
theorem some_ne {o : HO} (h : H p = some o) : H p ≠ none := by rw [h]; exact fun z => nomatch z
theorem new_tup {vs : List V} {ds : List PyData} (q : Prv F H) (hp : H p = none) (h : DpAll K (del H F) vs ds) : Dp K (del (upd H p (.tup vs)) F) (.ref p) (.tuple ds) :=
  .tup (st_of (del_at (q.no hp) upd_same)) ((del_ex (Ex.new hp)).dps h)
theorem new_lst {vs : List V} {ds : List PyData} (q : Prv F H) (hp : H p = none) (h : DpAll K (del H F) vs ds) : Dp K (del (upd H p (.lst vs)) F) (.ref p) (.list ds) :=
  .lst (sq_of (del_at (q.no hp) upd_same)) ((del_ex (Ex.new hp)).dps h)
end

/-! ### evaluates to a datum: H is what is known (public), F what is private in the heap at hand -/
def EvD (K : Fg) (te : TE) (σ : L2.St) (H : Hp) (d : PyData) : Prop := ∀ F H1, Prv F H1 → Ex H (del H1 F) → ∀ Q : VK, (∀ v H2, Ex H1 H2 → Dp K (del H2 F) v d → Q v H2) → te σ H1 Q
def EvDs (K : Fg) (ta : TA) (σ : L2.St) (H : Hp) (ds : List PyData) : Prop := ∀ F H1, Prv F H1 → Ex H (del H1 F) → ∀ Q : List V → Hp → Prop, (∀ vs H2, Ex H1 H2 → DpAll K (del H2 F) vs ds → Q vs H2) → ta σ H1 Q
def EvB (t : TT) (σ : L2.St) (H : Hp) (b : Bool) : Prop := ∀ F H1, Prv F H1 → Ex H (del H1 F) → ∀ Q : Bool → Hp → Prop, (∀ H2, Ex H1 H2 → Q b H2) → t σ H1 Q
/-- an iterator over what is known in Hb gives these data, one a turn -/
structure ItD (K : Fg) (J : It) (Hb : Hp) (its : List PyData) : Prop where
  go : ∀ i H, Ex Hb H → i < its.length → J.go i H
  yl : ∀ F i H x H' d, Prv F H → Ex Hb (del H F) → its[i]? = some d → J.yld i H x H' → Ex H H' ∧ Dp K (del H' F) x d
  st : ∀ H, Ex Hb H → J.stop its.length H
def EvI (K : Fg) (wi : TI) (σ : L2.St) (H : Hp) (its : List PyData) : Prop := ∀ F H1, Prv F H1 → Ex H (del H1 F) → ∀ R : It → Hp → Prop, (∀ J H2, Ex H1 H2 → ItD K J (del H2 F) its → R J H2) → wi σ H1 R
/-- a block hands back a datum -/
def RetD (K : Fg) (t : TS) (σ : L2.St) (H : Hp) (d : PyData) : Prop := ∀ F H1, Prv F H1 → Ex H (del H1 F) → ∀ D : Ends, (∀ v H2, Ex H1 H2 → Dp K (del H2 F) v d → D.rt v H2) → t D σ H1
/-- the promise of a def from data to a datum -/
def spR (K : Fg) (R : List PyData → PyData → Prop) : Sp := fun vs H Q _ => ∃ F ds d, Prv F H ∧ DpAll K (del H F) vs ds ∧ R ds d ∧ ∀ v H2, Ex H H2 → Dp K (del H2 F) v d → Q v H2

section
variable {K : Fg} {σ σ2 : L2.St} {H H' Hb : Hp} {ta tb te tx : TE} {t u : TT} {x y z v : V} {d e : PyData} {ds es : List PyData} {g : TG}
theorem EvD.mono (q : Ex H H') (h : EvD K te σ H d) : EvD K te σ H' d := fun F H1 p a Q k => h F H1 p (q.trans a) Q k
theorem EvDs.mono {ta : TA} (q : Ex H H') (h : EvDs K ta σ H ds) : EvDs K ta σ H' ds := fun F H1 p a Q k => h F H1 p (q.trans a) Q k
theorem EvB.mono {b : Bool} (q : Ex H H') (h : EvB t σ H b) : EvB t σ H' b := fun F H1 p a Q k => h F H1 p (q.trans a) Q k
theorem EvI.mono {wi : TI} (q : Ex H H') (h : EvI K wi σ H ds) : EvI K wi σ H' ds := fun F H1 p a Q k => h F H1 p (q.trans a) Q k
theorem RetD.mono {t : TS} (q : Ex H H') (h : RetD K t σ H d) : RetD K t σ H' d := fun F H1 p a Q k => h F H1 p (q.trans a) Q k
theorem ItD.mono {J : It} (q : Ex Hb H') (h : ItD K J Hb ds) : ItD K J H' ds :=
  ⟨fun i H a l => h.go i H (q.trans a) l, fun F i H x H' d p a l y => h.yl F i H x H' d p (q.trans a) l y, fun H a => h.st H (q.trans a)⟩
theorem evd_is (h : EvD K te σ H d) (q : d = e) : EvD K te σ H e := q ▸ h
theorem evd_var {i : Nat} (h : σ[i]? = some (some v)) (hd : Dp K H v d) : EvD K (tVar i) σ H d := fun F H1 p a Q k => ⟨v, h, k v H1 (Ex.refl H1) (a.dp hd)⟩
theorem evd_str {s : Str} : EvD K (tC (.str s)) σ H (.str s) := fun F H1 _ _ _ k => k _ H1 (Ex.refl H1) (.str s)
theorem evd_int {i : Int} : EvD K (tC (.int i)) σ H (.int i) := fun F H1 _ _ _ k => k _ H1 (Ex.refl H1) (.int i)
theorem evd_bl {b : Bool} : EvD K (tC (.bl b)) σ H (.bool b) := fun F H1 _ _ _ k => k _ H1 (Ex.refl H1) (.bl b)
theorem evd_c {c : V} (h : Dp K H c d) : EvD K (tC c) σ H d := fun F H1 _ a _ k => k _ H1 (Ex.refl H1) (a.dp h)
theorem evds_nil : EvDs K tNil σ H [] := fun F H1 _ _ _ k => k [] H1 (Ex.refl H1) .nil
theorem evds_cons {tr : TA} (h : EvD K te σ H d) (hr : EvDs K tr σ H ds) : EvDs K (tCons te tr) σ H (d :: ds) := fun F H1 p a _ k =>
  h F H1 p a _ fun v H2 b hv => hr F H2 (p.mono b) (a.trans (del_ex b)) _ fun vs H3 c hvs => k (v :: vs) H3 (b.trans c) (.cons ((del_ex c).dp hv) hvs)
theorem evd_tup {tr : TA} (h : EvDs K tr σ H ds) (hl : ds.length ≤ 100000 := by first | decide | (simp only [List.length_cons, List.length_nil]; decide)) : EvD K (tTup tr) σ H (.tuple ds) := fun F H1 p a _ k =>
  h F H1 p a _ fun vs H2 b hvs => ⟨sz_of (by rw [dpa_len hvs]; exact hl), fun q hq => k (.ref q) _ (b.trans (Ex.new hq)) (new_tup (p.mono b) hq hvs)⟩
theorem evd_lst {tr : TA} (h : EvDs K tr σ H ds) (hl : ds.length ≤ 100000 := by first | decide | (simp only [List.length_cons, List.length_nil]; decide)) : EvD K (tLst tr) σ H (.list ds) := fun F H1 p a _ k =>
  h F H1 p a _ fun vs H2 b hvs => ⟨sz_of (by rw [dpa_len hvs]; exact hl), fun q hq => k (.ref q) _ (b.trans (Ex.new hq)) (new_lst (p.mono b) hq hvs)⟩
theorem two (h : EvD K ta σ H d) (h2 : EvD K tb σ H e) {r : R2} {F : Addr → Bool} {H1 : Hp} {Q : VK} (p : Prv F H1) (a : Ex H (del H1 F))
    (k : ∀ v w H2, Ex H1 H2 → Prv F H2 → Dp K (del H2 F) v d → Dp K (del H2 F) w e → r v w H2 Q) : tOp r ta tb σ H1 Q :=
  h F H1 p a _ fun v H2 b hv => h2 F H2 (p.mono b) (a.trans (del_ex b)) _ fun w H3 c hw => k v w H3 (b.trans c) (p.mono (b.trans c)) ((del_ex c).dp hv) hw
/-- t[i], i a number from 0 on -/
theorem evd_ixT {i : Nat} (h : EvD K ta σ H (.tuple ds)) (hi : EvD K tb σ H (.int (i : Int))) (hd : ds[i]? = some d) : EvD K (tOp (rIxT K) ta tb) σ H d := fun F H1 p a _ k =>
  two h hi p a fun v w H2 b _ hv hw => by
    obtain ⟨q, xs, rfl, hs, hxs⟩ := of_dp_tup hv
    obtain rfl := of_dp_int hw
    obtain ⟨z, hz, hdz⟩ := dpa_get hxs hd
    exact ⟨q, xs, (i : Int), z, rfl, rfl, ex_t del_le hs, atI_nat hz, k z H2 b hdz⟩
theorem evd_ixL {i : Nat} (h : EvD K ta σ H (.list ds)) (hi : EvD K tb σ H (.int (i : Int))) (hd : ds[i]? = some d) : EvD K (tOp (rIxL K) ta tb) σ H d := fun F H1 p a _ k =>
  two h hi p a fun v w H2 b _ hv hw => by
    obtain ⟨q, xs, rfl, hs, hxs⟩ := of_dp_lst hv
    obtain rfl := of_dp_int hw
    obtain ⟨z, hz, hdz⟩ := dpa_get hxs hd
    exact ⟨q, xs, (i : Int), z, rfl, rfl, ex_l del_le hs, atI_nat hz, k z H2 b hdz⟩
/-- two texts, two numbers compared -/
theorem evd_eqS {s s' : Str} (h : EvD K ta σ H (.str s)) (h2 : EvD K tb σ H (.str s')) : EvD K (tOp rEq ta tb) σ H (.bool (decide (s = s'))) := fun F H1 p a _ k =>
  two h h2 p a fun v w H2 b _ hv hw => by
    obtain rfl := of_dp_str hv
    obtain rfl := of_dp_str hw
    refine ⟨rfl, ?_⟩
    rw [show decide (V.str s = V.str s') = decide (s = s') by simp]
    exact k _ H2 b (.bl _)
theorem evd_neS {s s' : Str} (h : EvD K ta σ H (.str s)) (h2 : EvD K tb σ H (.str s')) : EvD K (tOp rNe ta tb) σ H (.bool (!decide (s = s'))) := fun F H1 p a _ k =>
  two h h2 p a fun v w H2 b _ hv hw => by
    obtain rfl := of_dp_str hv
    obtain rfl := of_dp_str hw
    refine ⟨rfl, ?_⟩
    rw [show decide (V.str s = V.str s') = decide (s = s') by simp]
    exact k _ H2 b (.bl _)
theorem evd_eqI {i j : Int} (h : EvD K ta σ H (.int i)) (h2 : EvD K tb σ H (.int j)) : EvD K (tOp rEq ta tb) σ H (.bool (decide (i = j))) := fun F H1 p a _ k =>
  two h h2 p a fun v w H2 b _ hv hw => by
    obtain rfl := of_dp_int hv
    obtain rfl := of_dp_int hw
    refine ⟨rfl, ?_⟩
    rw [show decide (V.int i = V.int j) = decide (i = j) by simp]
    exact k _ H2 b (.bl _)
theorem evd_I0 {f : Int → Int → V} {i j : Int} (h : EvD K ta σ H (.int i)) (h2 : EvD K tb σ H (.int j)) (hd : ∀ H, Dp K H (f i j) d) : EvD K (tOp (rI0 f) ta tb) σ H d := fun F H1 p a _ k =>
  two h h2 p a fun v w H2 b _ hv hw => by
    obtain rfl := of_dp_int hv
    obtain rfl := of_dp_int hw
    exact ⟨i, j, rfl, rfl, k _ H2 b (hd _)⟩
theorem evd_I {C : Int → Int → Prop} {f : Int → Int → V} {i j : Int} (h : EvD K ta σ H (.int i)) (h2 : EvD K tb σ H (.int j)) (hc : C i j) (hd : ∀ H, Dp K H (f i j) d) : EvD K (tOp (rI C f) ta tb) σ H d := fun F H1 p a _ k =>
  two h h2 p a fun v w H2 b _ hv hw => by
    obtain rfl := of_dp_int hv
    obtain rfl := of_dp_int hw
    exact ⟨i, j, rfl, rfl, hc, k _ H2 b (hd _)⟩
/-- tests -/
theorem et_d {b : Bool} (h : EvD K te σ H (.bool b)) : EvB (tTest te) σ H b := fun F H1 p a _ k => h F H1 p a _ fun v H2 c hv => ⟨b, of_dp_bl hv, k H2 c⟩
theorem et_dB {b : Bool} (h : EvD K te σ H (.bool b)) : EvB (tB te) σ H b := fun F H1 p a _ k => h F H1 p a _ fun v H2 c hv => ⟨b, of_dp_bl hv, k H2 c⟩
theorem eb_yes : EvB tYes σ H true := fun F H1 _ _ _ k => k H1 (Ex.refl H1)
theorem eb_is {b c : Bool} (h : EvB t σ H b) (q : b = c) : EvB t σ H c := q ▸ h
theorem eb_not {b : Bool} (h : EvB t σ H b) : EvB (tNot t) σ H (!b) := fun F H1 p a _ k => h F H1 p a _ fun H2 c => k H2 c
theorem eb_and {b c : Bool} (h : EvB t σ H b) (h2 : b = true → EvB u σ H c) : EvB (tAnd t u) σ H (b && c) := fun F H1 p a Q k => h F H1 p a _ fun H2 q => by
  cases b with
  | true => exact h2 rfl F H2 (p.mono q) (a.trans (del_ex q)) Q fun H3 r => k H3 (q.trans r)
  | false => exact k H2 q
theorem eb_or {b c : Bool} (h : EvB t σ H b) (h2 : b = false → EvB u σ H c) : EvB (tOr t u) σ H (b || c) := fun F H1 p a Q k => h F H1 p a _ fun H2 q => by
  cases b with
  | false => exact h2 rfl F H2 (p.mono q) (a.trans (del_ex q)) Q fun H3 r => k H3 (q.trans r)
  | true => exact k H2 q
theorem evd_if {b : Bool} (h : EvB t σ H b) (h1 : b = true → EvD K ta σ H d) (h2 : b = false → EvD K tb σ H d) : EvD K (tIf t ta tb) σ H d := fun F H1 p a Q k => h F H1 p a _ fun H2 c => by
  cases b with
  | true => exact h1 rfl F H2 (p.mono c) (a.trans (del_ex c)) Q fun v H3 b' hv => k v H3 (c.trans b') hv
  | false => exact h2 rfl F H2 (p.mono c) (a.trans (del_ex c)) Q fun v H3 b' hv => k v H3 (c.trans b') hv
theorem evd_not {b : Bool} (h : EvD K te σ H (.bool b)) : EvD K (tNotV te) σ H (.bool (!b)) := fun F H1 p a _ k => h F H1 p a _ fun v H2 c hv => ⟨b, of_dp_bl hv, k _ H2 c (.bl _)⟩
theorem evd_or {b c : Bool} (h1 : EvD K ta σ H (.bool b)) (h2 : b = false → EvD K tb σ H (.bool c)) : EvD K (tOrV ta tb) σ H (.bool (b || c)) := fun F H1 p a Q k => h1 F H1 p a _ fun v H2 q hv => ⟨b, of_dp_bl hv, by
  cases b with
  | true => exact k _ H2 q (.bl true)
  | false => exact h2 rfl F H2 (p.mono q) (a.trans (del_ex q)) Q fun w H3 c' hw => k w H3 (q.trans c') hw⟩
theorem evd_and {b c : Bool} (h1 : EvD K ta σ H (.bool b)) (h2 : b = true → EvD K tb σ H (.bool c)) : EvD K (tAndV ta tb) σ H (.bool (b && c)) := fun F H1 p a Q k => h1 F H1 p a _ fun v H2 q hv => ⟨b, of_dp_bl hv, by
  cases b with
  | false => exact k _ H2 q (.bl false)
  | true => exact h2 rfl F H2 (p.mono q) (a.trans (del_ex q)) Q fun w H3 c' hw => k w H3 (q.trans c') hw⟩
/-- a call of a def from data to a datum -/
theorem evd_call {R : List PyData → PyData → Prop} {E : XK} {tr : TA} (h : EvDs K tr σ H ds) (hr : R ds d) : EvD K (tCall (spR K R) [] E tr) σ H d := fun F H1 p a Q k =>
  h F H1 p a _ fun vs H2 b hvs => ⟨F, ds, d, p.mono b, by rw [List.append_nil]; exact hvs, hr, fun v H3 c hv => k v H3 (b.trans c) hv⟩
/-! ### x in xs: flat things -/
/-- the flat data -/
def flatD : PyData → Bool
  | .bool _ => true
  | .int _ => true
  | .str _ => true
  | .none => true
  | _ => false
theorem flat_of {v : V} (h : Dp K H v d) (f : flatD d = true) : flatV v = true := by cases h <;> first | rfl | cases f
theorem flats_of : ∀ {vs : List V} {ds : List PyData}, DpAll K H vs ds → ds.all flatD = true → vs.all flatV = true
  | _, [], h, _ => by cases h; rfl
  | _, d :: ds, h, f => by
    cases h with
    | cons q a =>
      rw [List.all_cons, Bool.and_eq_true] at f ⊢
      exact ⟨flat_of q f.1, flats_of a f.2⟩
theorem inV_str {s : Str} : ∀ (ss : List Str), inV (.str s) (ss.map V.str) = decide (s ∈ ss)
  | [] => rfl
  | a :: r => by
    have ih := inV_str (s := s) r
    have e1 : inV (.str s) ((a :: r).map V.str) = (eqV (.str a) (.str s) || inV (.str s) (r.map V.str)) := by
      unfold inV
      rw [List.map_cons, List.any_cons]
    have e2 : eqV (.str a) (.str s) = decide (s = a) := by
      show (a == s) = decide (s = a)
      by_cases h : s = a
      · subst h; rw [decide_eq_true rfl]; exact beq_self_eq_true _
      · rw [decide_eq_false h]; exact beq_eq_false_iff_ne.mpr (Ne.symm h)
    rw [e1, e2, ih]
    by_cases h : s = a
    · subst h
      rw [decide_eq_true rfl, decide_eq_true (List.mem_cons_self)]
      rfl
    · rw [decide_eq_false h, Bool.false_or]
      have h3 : (s ∈ a :: r) = (s ∈ r) := propext ⟨fun m => (List.mem_cons.mp m).resolve_left h, List.mem_cons_of_mem _⟩
      simp only [h3]
theorem inV_int {s : Int} : ∀ (ss : List Int), inV (.int s) (ss.map V.int) = decide (s ∈ ss)
  | [] => rfl
  | a :: r => by
    have ih := inV_int (s := s) r
    have e1 : inV (.int s) ((a :: r).map V.int) = (eqV (.int a) (.int s) || inV (.int s) (r.map V.int)) := by
      unfold inV
      rw [List.map_cons, List.any_cons]
    have e2 : eqV (.int a) (.int s) = decide (s = a) := by
      show (a == s) = decide (s = a)
      by_cases h : s = a
      · subst h; rw [decide_eq_true rfl]; exact beq_self_eq_true _
      · rw [decide_eq_false h]; exact beq_eq_false_iff_ne.mpr (Ne.symm h)
    rw [e1, e2, ih]
    by_cases h : s = a
    · subst h
      rw [decide_eq_true rfl, decide_eq_true (List.mem_cons_self)]
      rfl
    · rw [decide_eq_false h, Bool.false_or]
      have h3 : (s ∈ a :: r) = (s ∈ r) := propext ⟨fun m => (List.mem_cons.mp m).resolve_left h, List.mem_cons_of_mem _⟩
      simp only [h3]
theorem inV_bl {s : Bool} : ∀ (ss : List Bool), inV (.bl s) (ss.map V.bl) = decide (s ∈ ss)
  | [] => rfl
  | a :: r => by
    have ih := inV_bl (s := s) r
    have e1 : inV (.bl s) ((a :: r).map V.bl) = (eqV (.bl a) (.bl s) || inV (.bl s) (r.map V.bl)) := by
      unfold inV
      rw [List.map_cons, List.any_cons]
    have e2 : eqV (.bl a) (.bl s) = decide (s = a) := by
      show (a == s) = decide (s = a)
      by_cases h : s = a
      · subst h; rw [decide_eq_true rfl]; exact beq_self_eq_true _
      · rw [decide_eq_false h]; exact beq_eq_false_iff_ne.mpr (Ne.symm h)
    rw [e1, e2, ih]
    by_cases h : s = a
    · subst h
      rw [decide_eq_true rfl, decide_eq_true (List.mem_cons_self)]
      rfl
    · rw [decide_eq_false h, Bool.false_or]
      have h3 : (s ∈ a :: r) = (s ∈ r) := propext ⟨fun m => (List.mem_cons.mp m).resolve_left h, List.mem_cons_of_mem _⟩
      simp only [h3]
theorem flat_strs (ss : List Str) : (ss.map V.str).all flatV = true := by
  rw [List.all_eq_true]; intro x hx; obtain ⟨s, _, rfl⟩ := List.mem_map.mp hx; rfl
theorem flat_ints (ss : List Int) : (ss.map V.int).all flatV = true := by
  rw [List.all_eq_true]; intro x hx; obtain ⟨s, _, rfl⟩ := List.mem_map.mp hx; rfl
theorem flat_bls (ss : List Bool) : (ss.map V.bl).all flatV = true := by
  rw [List.all_eq_true]; intro x hx; obtain ⟨s, _, rfl⟩ := List.mem_map.mp hx; rfl
/-- a list or a tuple -/
def seqD : PyData → Option (List PyData)
  | .list ds => some ds
  | .tuple ds => some ds
  | _ => none
theorem of_dp_seq (h : Dp K H v d) (q : seqD d = some ds) : ∃ a xs, v = .ref a ∧ (SqL K H a xs ∨ SqT K H a xs) ∧ DpAll K H xs ds := by
  cases h <;> first
    | (injection q with q; subst q; rename_i h1 h2; first | exact ⟨_, _, rfl, .inl h1, h2⟩ | exact ⟨_, _, rfl, .inr h1, h2⟩)
    | cases q

theorem evd_inS {neg : Bool} {s : Str} {ss : List Str} (h : EvD K ta σ H (.str s)) (h2 : EvD K tb σ H d) (hq : seqD d = some (ss.map PyData.str)) :
    EvD K (tOp (rIn K neg) ta tb) σ H (.bool (if neg then !decide (s ∈ ss) else decide (s ∈ ss))) := fun F H1 p a _ k =>
  two h h2 p a fun v w H2 b _ hv hw => by
    obtain ⟨q, xs, rfl, hs, hxs⟩ := of_dp_seq hw hq
    obtain rfl := of_dp_str hv
    obtain rfl := of_dpa_strs ss hxs
    refine ⟨q, _, rfl, hs.imp (ex_l del_le) (ex_t del_le), rfl, flat_strs ss, ?_⟩
    rw [inV_str]
    exact k _ H2 b (.bl _)
theorem evd_inI {neg : Bool} {s : Int} {ss : List Int} (h : EvD K ta σ H (.int s)) (h2 : EvD K tb σ H d) (hq : seqD d = some (ss.map PyData.int)) :
    EvD K (tOp (rIn K neg) ta tb) σ H (.bool (if neg then !decide (s ∈ ss) else decide (s ∈ ss))) := fun F H1 p a _ k =>
  two h h2 p a fun v w H2 b _ hv hw => by
    obtain ⟨q, xs, rfl, hs, hxs⟩ := of_dp_seq hw hq
    obtain rfl := of_dp_int hv
    obtain rfl := of_dpa_ints ss hxs
    refine ⟨q, _, rfl, hs.imp (ex_l del_le) (ex_t del_le), rfl, flat_ints ss, ?_⟩
    rw [inV_int]
    exact k _ H2 b (.bl _)
theorem evd_inB {neg : Bool} {s : Bool} {ss : List Bool} (h : EvD K ta σ H (.bool s)) (h2 : EvD K tb σ H d) (hq : seqD d = some (ss.map PyData.bool)) :
    EvD K (tOp (rIn K neg) ta tb) σ H (.bool (if neg then !decide (s ∈ ss) else decide (s ∈ ss))) := fun F H1 p a _ k =>
  two h h2 p a fun v w H2 b _ hv hw => by
    obtain ⟨q, xs, rfl, hs, hxs⟩ := of_dp_seq hw hq
    obtain rfl := of_dp_bl hv
    obtain rfl := of_dpa_bls ss hxs
    refine ⟨q, _, rfl, hs.imp (ex_l del_le) (ex_t del_le), rfl, flat_bls ss, ?_⟩
    rw [inV_bl]
    exact k _ H2 b (.bl _)

/-! ### built-in calls -/
abbrev rTupOf (K : Fg) : List V → Hp → VK → Prop := fun xs H Q => ∃ p ys, xs = [V.ref p] ∧ ((SqL K H p ys ∧ ∀ l, H l = none → Q (.ref l) (upd H l (.tup ys))) ∨ (SqT K H p ys ∧ Q (.ref p) H))
abbrev rLenOf (K : Fg) : List V → Hp → VK → Prop := fun xs H Q => ∃ p ys, xs = [V.ref p] ∧ (SqL K H p ys ∨ SqT K H p ys) ∧ Q (.int ys.length) H
theorem evd_tupL (h : EvD K ta σ H (.list ds)) : EvD K (tCB (rTupOf K) (tCons ta tNil)) σ H (.tuple ds) := fun F H1 p a _ k =>
  h F H1 p a _ fun v H2 b hv => by
    obtain ⟨q, xs, rfl, hs, hxs⟩ := of_dp_lst hv
    exact ⟨q, xs, rfl, .inl ⟨ex_l del_le hs, fun l hl => k _ _ (b.trans (Ex.new hl)) (new_tup (p.mono b) hl hxs)⟩⟩
theorem evd_tupT (h : EvD K ta σ H (.tuple ds)) : EvD K (tCB (rTupOf K) (tCons ta tNil)) σ H (.tuple ds) := fun F H1 p a _ k =>
  h F H1 p a _ fun v H2 b hv => by
    obtain ⟨q, xs, rfl, hs, hxs⟩ := of_dp_tup hv
    exact ⟨q, xs, rfl, .inr ⟨ex_t del_le hs, k _ _ b hv⟩⟩
theorem evd_len (h : EvD K ta σ H d) (hq : seqD d = some ds) : EvD K (tCB (rLenOf K) (tCons ta tNil)) σ H (.int (ds.length : Int)) := fun F H1 p a _ k =>
  h F H1 p a _ fun v H2 b hv => by
    obtain ⟨q, xs, rfl, hs, hxs⟩ := of_dp_seq hv hq
    refine ⟨q, xs, rfl, hs.imp (ex_l del_le) (ex_t del_le), ?_⟩
    rw [dpa_len hxs]
    exact k _ _ b (.int _)
theorem evd_all {bs : List Bool} (h : EvD K ta σ H (.list (bs.map PyData.bool))) : EvD K (tCB (rAll K) (tCons ta tNil)) σ H (.bool (bs.all id)) := fun F H1 p a _ k =>
  h F H1 p a _ fun v H2 b hv => by
    obtain ⟨q, xs, rfl, hs, hxs⟩ := of_dp_lst hv
    obtain rfl := of_dpa_bls bs hxs
    exact ⟨q, bs, rfl, ex_l del_le hs, k _ _ b (.bl _)⟩
theorem evd_any {bs : List Bool} (h : EvD K ta σ H (.list (bs.map PyData.bool))) : EvD K (tCB (rAny K) (tCons ta tNil)) σ H (.bool (bs.any id)) := fun F H1 p a _ k =>
  h F H1 p a _ fun v H2 b hv => by
    obtain ⟨q, xs, rfl, hs, hxs⟩ := of_dp_lst hv
    obtain rfl := of_dpa_bls bs hxs
    exact ⟨q, bs, rfl, ex_l del_le hs, k _ _ b (.bl _)⟩
/-- two tuples added, neither empty -/
theorem evd_catT (h : EvD K ta σ H (.tuple ds)) (h2 : EvD K tb σ H (.tuple es)) (hn : ds ≠ []) (hn2 : es ≠ []) (hl : ds.length + es.length ≤ 100000) : EvD K (tOp (rCatT K) ta tb) σ H (.tuple (ds ++ es)) := fun F H1 p a _ k =>
  two h h2 p a fun v w H2 b p2 hv hw => by
    obtain ⟨q, xs, rfl, hs, hxs⟩ := of_dp_tup hv
    obtain ⟨q2, ys, rfl, hs2, hys⟩ := of_dp_tup hw
    have l1 := dpa_len hxs
    have l2 := dpa_len hys
    refine ⟨q, q2, xs, ys, rfl, rfl, ex_t del_le hs, ex_t del_le hs2, fun e => ?_, by rw [l1, l2]; exact sz_of hl, fun e => ?_, fun _ l hp => ?_⟩
    · rw [e] at l1
      exact hn (List.length_eq_zero_iff.mp l1.symm)
    · rw [e] at l2
      exact absurd (List.length_eq_zero_iff.mp l2.symm) hn2
    · exact k _ _ (b.trans (Ex.new hp)) (new_tup p2 hp (dpa_app hxs hys))

/-! ### what is walked -/
theorem it_tup {a : Addr} {xs : List V} (hs : SqT K Hb a xs) (hd : DpAll K Hb xs ds) : ItD K (Itt K a) Hb ds where
  go := fun i H e hi => by
    have l := dpa_len hd
    exact ⟨xs, xs[i]'(by omega), ex_t e hs, by simp⟩
  yl := fun F i H x H' d p e hi y => by
    obtain ⟨rfl, y⟩ := y
    obtain ⟨v, hv, hdv⟩ := dpa_get hd hi
    have e2 := y xs (ex_t (e.trans del_le) hs)
    rw [hv] at e2
    cases e2
    exact ⟨Ex.refl _, e.dp hdv⟩
  st := fun H e => ⟨xs, ex_t e hs, Nat.le_of_eq (dpa_len hd)⟩
theorem it_lst {a : Addr} {xs : List V} (hs : SqL K Hb a xs) (hd : DpAll K Hb xs ds) : ItD K (Itl K a) Hb ds where
  go := fun i H e hi => by
    have l := dpa_len hd
    exact ⟨xs, xs[i]'(by omega), ex_l e hs, by simp⟩
  yl := fun F i H x H' d p e hi y => by
    obtain ⟨rfl, y⟩ := y
    obtain ⟨v, hv, hdv⟩ := dpa_get hd hi
    have e2 := y xs (ex_l (e.trans del_le) hs)
    rw [hv] at e2
    cases e2
    exact ⟨Ex.refl _, e.dp hdv⟩
  st := fun H e => ⟨xs, ex_l e hs, Nat.le_of_eq (dpa_len hd)⟩
def rngD (lo : Int) (n : Nat) : List PyData := (List.range n).map fun (i : Nat) => PyData.int (lo + (i : Int))
theorem rngD_len {lo : Int} {n : Nat} : (rngD lo n).length = n := by unfold rngD; rw [List.length_map, List.length_range]
theorem rngD_at {lo : Int} {n i : Nat} {d : PyData} (h : (rngD lo n)[i]? = some d) : i < n ∧ d = .int (lo + (i : Int)) := by
  unfold rngD at h
  rw [List.getElem?_map] at h
  by_cases hi : i < n
  · rw [List.getElem?_range hi] at h
    exact ⟨hi, (Option.some.inj h).symm⟩
  · rw [List.getElem?_eq_none (by simpa using hi)] at h
    cases h
theorem it_rng {lo : Int} {n : Nat} : ItD K (Itr lo n) Hb (rngD lo n) where
  go := fun i H e hi => by rw [rngD_len] at hi; exact hi
  yl := fun F i H x H' d p e hi y => by
    obtain ⟨rfl, rfl⟩ := y
    obtain ⟨_, rfl⟩ := rngD_at hi
    exact ⟨Ex.refl _, .int _⟩
  st := fun H e => by rw [rngD_len]; exact Nat.le_refl _
def enumD (ds : List PyData) : List PyData := (List.range ds.length).zipWith (fun (i : Nat) d => PyData.tuple [.int (i : Int), d]) ds
def zipD (ds es : List PyData) : List PyData := ds.zipWith (fun d e => PyData.tuple [d, e]) es
theorem enumD_len : (enumD ds).length = ds.length := by unfold enumD; simp
theorem enumD_at {i : Nat} (h : (enumD ds)[i]? = some d) : ∃ e, ds[i]? = some e ∧ d = .tuple [.int (i : Int), e] := by
  unfold enumD at h
  rw [List.getElem?_zipWith] at h
  by_cases hi : i < ds.length
  · rw [List.getElem?_range hi, List.getElem?_eq_getElem hi] at h
    exact ⟨_, List.getElem?_eq_getElem hi, (Option.some.inj h).symm⟩
  · rw [List.getElem?_eq_none (l := List.range ds.length) (by simpa using hi)] at h
    cases h
theorem zipD_at {i : Nat} (h : (zipD ds es)[i]? = some d) : ∃ x y, ds[i]? = some x ∧ es[i]? = some y ∧ d = .tuple [x, y] := by
  unfold zipD at h
  rw [List.getElem?_zipWith] at h
  cases e1 : ds[i]? with
  | none => rw [e1] at h; cases h
  | some x =>
    cases e2 : es[i]? with
    | none => rw [e1, e2] at h; cases h
    | some y => rw [e1, e2] at h; exact ⟨x, y, rfl, rfl, (Option.some.inj h).symm⟩
theorem pair_new {F : Addr → Bool} {H : Hp} {T : Addr} {x y : V} (p : Prv F H) (hT : H T = none) (hx : Dp K (del H F) x d) (hy : Dp K (del H F) y e) :
    Ex H (upd H T (.tup [x, y])) ∧ Dp K (del (upd H T (.tup [x, y])) F) (.ref T) (.tuple [d, e]) := ⟨Ex.new hT, new_tup p hT (.cons hx (.cons hy .nil))⟩
theorem it_enum {a : Addr} {xs : List V} (hs : SqL K Hb a xs) (hd : DpAll K Hb xs ds) : ItD K (Ite K a) Hb (enumD ds) where
  go := fun i H e hi => by
    rw [enumD_len] at hi
    have l := dpa_len hd
    exact ⟨xs, xs[i]'(by omega), ex_l e hs, by simp⟩
  yl := fun F i H x H' d p e hi y => by
    obtain ⟨T, z, rfl, hT, rfl, y⟩ := y
    obtain ⟨q, hq, rfl⟩ := enumD_at hi
    obtain ⟨v, hv, hdv⟩ := dpa_get hd hq
    have e2 := y xs (ex_l (e.trans del_le) hs)
    rw [hv] at e2
    cases e2
    exact pair_new p hT (.int _) (e.dp hdv)
  st := fun H e => ⟨xs, ex_l e hs, by rw [enumD_len]; exact Nat.le_of_eq (dpa_len hd)⟩
theorem it_zip {a b : Addr} {xs ys : List V} (hs : SqL K Hb a xs) (hd : DpAll K Hb xs ds) (hs2 : SqL K Hb b ys) (hd2 : DpAll K Hb ys es) (hl : ds.length = es.length) : ItD K (Itz K a b) Hb (zipD ds es) where
  go := fun i H e hi => by
    unfold zipD at hi
    rw [List.length_zipWith] at hi
    have l := dpa_len hd
    have l2 := dpa_len hd2
    exact ⟨xs, ys, xs[i]'(by omega), ys[i]'(by omega), ex_l e hs, ex_l e hs2, by simp, by simp⟩
  yl := fun F i H x H' d p e hi y => by
    obtain ⟨T, z, z2, rfl, hT, rfl, y, y2⟩ := y
    obtain ⟨q, q2, hq, hq2, rfl⟩ := zipD_at hi
    obtain ⟨v, hv, hdv⟩ := dpa_get hd hq
    obtain ⟨v2, hv2, hdv2⟩ := dpa_get hd2 hq2
    have e1 := y xs (ex_l (e.trans del_le) hs)
    have e2 := y2 ys (ex_l (e.trans del_le) hs2)
    rw [hv] at e1
    rw [hv2] at e2
    cases e1
    cases e2
    exact pair_new p hT (e.dp hdv) (e.dp hdv2)
  st := fun H e => ⟨xs, ys, ex_l e hs, ex_l e hs2, .inl (by
    unfold zipD
    rw [List.length_zipWith]
    have l := dpa_len hd
    omega)⟩
theorem it_str {z : Str} : ItD K (Its z) Hb (z.cps.toList.map fun c => PyData.str ⟨#[c]⟩) where
  go := fun i H e hi => by
    rw [List.length_map] at hi
    exact (show i < z.cps.size by simpa using hi)
  yl := fun F i H x H' d p e hi y => by
    obtain ⟨rfl, c, hc, rfl⟩ := y
    rw [List.getElem?_map, Array.getElem?_toList, hc] at hi
    cases hi
    exact ⟨Ex.refl _, .str _⟩
  st := fun H e => (show z.cps.size ≤ _ by simp)
theorem ei_tup (h : EvD K te σ H (.tuple ds)) : EvI K (iTup K te) σ H ds := fun F H1 p a R k => h F H1 p a _ fun v H2 b hv => by
  obtain ⟨q, xs, rfl, hs, hxs⟩ := of_dp_tup hv
  exact ⟨q, rfl, ⟨xs, ex_t del_le hs⟩, k _ H2 b (it_tup hs hxs)⟩
theorem ei_lst (h : EvD K te σ H (.list ds)) : EvI K (iList K te) σ H ds := fun F H1 p a R k => h F H1 p a _ fun v H2 b hv => by
  obtain ⟨q, xs, rfl, hs, hxs⟩ := of_dp_lst hv
  exact ⟨q, rfl, ⟨xs, ex_l del_le hs⟩, k _ H2 b (it_lst hs hxs)⟩
theorem ei_rng {n : Nat} (h : EvD K te σ H (.int (n : Int))) (hn : n ≤ 1000000000) : EvI K (iRng1 (tCons te tNil)) σ H (rngD 0 n) := fun F H1 p a R k => h F H1 p a _ fun v H2 b hv => by
  obtain rfl := of_dp_int hv
  refine ⟨(n : Int), rfl, by omega, by omega, ?_⟩
  rw [Int.toNat_natCast]
  exact k _ H2 b it_rng
theorem ei_enum (h : EvD K te σ H (.list ds)) : EvI K (iEnum K (tCons te tNil)) σ H (enumD ds) := fun F H1 p a R k => h F H1 p a _ fun v H2 b hv => by
  obtain ⟨q, xs, rfl, hs, hxs⟩ := of_dp_lst hv
  exact ⟨q, xs, rfl, ex_l del_le hs, k _ H2 b (it_enum hs hxs)⟩
theorem ei_str {z : Str} (h : EvD K te σ H (.str z)) : EvI K (iStr te) σ H (z.cps.toList.map fun c => PyData.str ⟨#[c]⟩) := fun F H1 p a R k => h F H1 p a _ fun v H2 b hv =>
  ⟨z, of_dp_str hv, k _ H2 b it_str⟩

/-! ### comprehensions -/
/-- a target takes x: the slots are σ2 then -/
def EvG (g : TG) (x : V) (σ : L2.St) (H : Hp) (σ2 : L2.St) : Prop := ∀ F H1, Prv F H1 → Ex H (del H1 F) → ∀ Q : L2.St → Hp → Prop, (∀ H2, Ex H1 H2 → Q σ2 H2) → g x σ H1 Q
theorem eg_name {j : Nat} : EvG (gName j) x σ H (σ.set j (some x)) := fun F H1 _ _ Q k => k H1 (Ex.refl H1)
theorem eg_pair {i j : Nat} {a : Addr} (h : SqT K H a [x, y]) : EvG (gTup K 2 (gCons (gName i) (gCons (gName j) gNil))) (.ref a) σ H ((σ.set i (some x)).set j (some y)) := fun F H1 _ e Q k =>
  ⟨a, [x, y], rfl, ex_t (e.trans del_le) h, rfl, x, [y], rfl, y, [], rfl, rfl, k H1 (Ex.refl H1)⟩
theorem evd_lc {α : Type} {wi : TI} {tt : TT} {vs : List Nat} {as : List α} {en : α → PyData} (f : α → Bool) (h : α → PyData) (hi : EvI K wi σ H (as.map en)) (hl : as.length ≤ 100000)
    (ht : ∀ d, d ∈ as → ∀ x H1, Ex H H1 → Dp K H1 x (en d) → ∃ σ2, EvG g x (wipe σ vs) H1 σ2 ∧ wipe σ2 vs = wipe σ vs ∧ EvB tt σ2 H1 (f d) ∧ (f d = true → EvD K te σ2 H1 (h d))) :
    EvD K (tLc wi g tt te vs) σ H (.list ((as.filter f).map h)) := fun F H0 p e Q k => hi F H0 p e _ fun J H1 e1 it Dl hD => by
  have eH1 : Ex H (del H1 F) := e.trans (del_ex e1)
  have ln : (as.map en).length = as.length := List.length_map _
  refine ⟨fun i m H' => m = as.length - i ∧ i ≤ as.length ∧ Ex H1 H' ∧ ∃ acc, H' Dl = some (.lst acc) ∧ DpAll K (del H' (add F Dl)) acc (((as.take i).filter f).map h),
    ⟨_, rfl, Nat.zero_le _, Ex.new hD, [], upd_same, by simpa using DpAll.nil⟩, ?_⟩
  rintro i m H' ⟨rfl, hile, ex, acc, hacc, dacc⟩
  have p1 : Prv F H1 := p.mono e1
  have pA : Prv (add F Dl) H' := (p1.mono ex).add (some_ne hacc)
  by_cases hlt : i < as.length
  · refine .inr ⟨it.go i H' (del_le.trans ex) (by rw [ln]; exact hlt), fun H'' => Ex H1 H'' ∧ ∃ acc, H'' Dl = some (.lst acc) ∧ DpAll K (del H'' (add F Dl)) acc (((as.take (i + 1)).filter f).map h), fun H'' q => ⟨as.length - (i + 1), by omega, rfl, hlt, q⟩, fun x H2 y => ?_⟩
    have hget : as[i]? = some as[i] := List.getElem?_eq_getElem hlt
    have hget2 : (as.map en)[i]? = some (en as[i]) := by rw [List.getElem?_map, hget]; rfl
    have hb : Ex (del H1 F) (del H' (add F Dl)) := ex_add hD (Ex.refl _) ex
    obtain ⟨e2, hx⟩ := it.yl (add F Dl) i H' x H2 (en as[i]) pA hb hget2 y
    have eA : Ex H (del H2 (add F Dl)) := eH1.trans (hb.trans (del_ex e2))
    obtain ⟨σ2, hg, hw, htt, hte⟩ := ht as[i] (List.getElem_mem hlt) x (del H2 (add F Dl)) eA hx
    have pA2 := pA.mono e2
    refine hg (add F Dl) H2 pA2 (Ex.refl _) _ fun H3 e3 => ⟨hw, htt (add F Dl) H3 (pA2.mono e3) (del_ex e3) _ fun H4 e4 => ?_⟩
    have tk : as.take (i + 1) = as.take i ++ [as[i]] := by rw [List.take_succ, hget]; rfl
    have e24 : Ex H' H4 := e2.trans (e3.trans e4)
    cases hf : f as[i] with
    | true =>
      show te σ2 H4 _
      refine hte hf (add F Dl) H4 (pA.mono e24) (del_ex (e3.trans e4)) _ fun w H5 e5 hw5 => ?_
      have e25 : Ex H' H5 := e24.trans e5
      have hz : acc.length ≤ i := by
        rw [dpa_len dacc, List.length_map]
        have h1 := List.length_filter_le f (as.take i)
        rw [List.length_take] at h1
        omega
      refine ⟨acc, e25 _ _ hacc, sz_lt (by omega), fun b o hb => ?_, acc ++ [w], upd_same, ?_⟩
      · rw [upd_ne (ne_of_none hb hD)]
        exact e25 b o (ex b o hb)
      · rw [del_upd add_self, tk, List.filter_append, List.map_append]
        have hs : [as[i]].filter f = [as[i]] := by simp [hf]
        rw [hs]
        exact dpa_app ((del_ex e25).dps dacc) (.cons hw5 .nil)
    | false =>
      show Ex H1 H4 ∧ _
      refine ⟨ex.trans e24, acc, e24 _ _ hacc, ?_⟩
      have hs : [as[i]].filter f = [] := by simp [hf]
      rw [tk, List.filter_append, hs, List.append_nil]
      exact (del_ex e24).dps dacc
  · have hi2 : i = as.length := by omega
    subst hi2
    have hst := it.st H' (del_le.trans ex)
    rw [ln] at hst
    refine .inl ⟨hst, k _ _ (e1.trans ex) (.lst (sq_of (del_at (p1.no hD) hacc)) ?_)⟩
    rw [List.take_length] at dacc
    exact del_add_le.dps dacc
/-- over one name, over two -/
theorem evd_lc1 {α : Type} {wi : TI} {tt : TT} {vs : List Nat} {as : List α} {en : α → PyData} {j : Nat} (f : α → Bool) (h : α → PyData) (hi : EvI K wi σ H (as.map en)) (hl : as.length ≤ 100000) (hw : ∀ x, wipe ((wipe σ vs).set j (some x)) vs = wipe σ vs)
    (ht : ∀ d, d ∈ as → ∀ x H1, Ex H H1 → Dp K H1 x (en d) → EvB tt ((wipe σ vs).set j (some x)) H1 (f d) ∧ (f d = true → EvD K te ((wipe σ vs).set j (some x)) H1 (h d))) :
    EvD K (tLc wi (gName j) tt te vs) σ H (.list ((as.filter f).map h)) := evd_lc f h hi hl fun d hd x H1 e hx => ⟨_, eg_name, hw x, (ht d hd x H1 e hx).1, (ht d hd x H1 e hx).2⟩
/-- without a test -/
theorem evd_lcA {α : Type} {wi : TI} {vs : List Nat} {as : List α} {en : α → PyData} {j : Nat} (h : α → PyData) (hi : EvI K wi σ H (as.map en)) (hl : as.length ≤ 100000) (hw : ∀ x, wipe ((wipe σ vs).set j (some x)) vs = wipe σ vs)
    (ht : ∀ d, d ∈ as → ∀ x H1, Ex H H1 → Dp K H1 x (en d) → EvD K te ((wipe σ vs).set j (some x)) H1 (h d)) :
    EvD K (tLc wi (gName j) tYes te vs) σ H (.list (as.map h)) := evd_is (evd_lc1 (fun _ => true) h hi hl hw fun d hd x H1 e hx => ⟨eb_yes, fun _ => ht d hd x H1 e hx⟩) (by rw [List.filter_eq_self.mpr fun _ _ => rfl])
theorem evd_lc2 {α : Type} {wi : TI} {tt : TT} {vs : List Nat} {as : List α} {e1 e2 : α → PyData} {i j : Nat} (f : α → Bool) (h : α → PyData) (hi : EvI K wi σ H (as.map fun a => .tuple [e1 a, e2 a])) (hl : as.length ≤ 100000) (hw : ∀ x y, wipe (((wipe σ vs).set i (some x)).set j (some y)) vs = wipe σ vs)
    (ht : ∀ a, a ∈ as → ∀ x y H1, Ex H H1 → Dp K H1 x (e1 a) → Dp K H1 y (e2 a) → EvB tt (((wipe σ vs).set i (some x)).set j (some y)) H1 (f a) ∧ (f a = true → EvD K te (((wipe σ vs).set i (some x)).set j (some y)) H1 (h a))) :
    EvD K (tLc wi (gTup K 2 (gCons (gName i) (gCons (gName j) gNil))) tt te vs) σ H (.list ((as.filter f).map h)) := evd_lc f h hi hl fun a ha x H1 e hx => by
  obtain ⟨q, xs, rfl, hs, hxs⟩ := of_dp_tup hx
  cases hxs with
  | cons h1 r =>
    cases r with
    | cons h2 r2 =>
      cases r2
      exact ⟨_, eg_pair hs, hw _ _, (ht a ha _ _ H1 e h1 h2).1, (ht a ha _ _ H1 e h1 h2).2⟩

/-! ### statements -/
variable {tu tw tz : TS}
theorem rd_ret (h : EvD K te σ H d) : RetD K (tRet te) σ H d := fun F H1 p a D k => h F H1 p a _ k
theorem rd_set {i : Nat} (h : EvD K te σ H e) (k : ∀ v H', Ex H H' → Dp K H' v e → RetD K tz (σ.set i (some v)) H' d) : RetD K (tSeq (tAsg te (gName i)) tz) σ H d := fun F H1 p a D q =>
  h F H1 p a _ fun v H2 b hv => k v (del H2 F) (a.trans (del_ex b)) hv F H2 (p.mono b) (Ex.refl _) D fun w H3 c hw => q w H3 (b.trans c) hw
theorem rd_when {b : Bool} (h : EvB t σ H b) (h1 : b = true → RetD K tu σ H d) (h2 : b = false → RetD K tz σ H d) : RetD K (tSeq (tIfS t tu tNext) tz) σ H d := fun F H1 p a D q =>
  h F H1 p a _ fun H2 c => by
    cases b with
    | true => exact h1 rfl F H2 (p.mono c) (a.trans (del_ex c)) _ fun w H3 c' hw => q w H3 (c.trans c') hw
    | false => exact h2 rfl F H2 (p.mono c) (a.trans (del_ex c)) D fun w H3 c' hw => q w H3 (c.trans c') hw
/-- a def's body from the promise -/
theorem ret_of {R : List PyData → PyData → Prop} {t : TS} {vs : List V} {Q : VK} {E : XK} {σ : L2.St} {nx : L2.St → Hp → Prop} (h : spR K R vs H Q E) (k : ∀ ds d H, DpAll K H vs ds → R ds d → RetD K t σ H d) : t { nx := nx, rt := Q } σ H := by
  obtain ⟨F, ds, d, p, hd, hr, q⟩ := h
  exact k ds d _ hd hr F H p (Ex.refl _) _ q
theorem spR_len {R : List PyData → PyData → Prop} {n : Nat} (hR : ∀ ds d, R ds d → ds.length = n) : ∀ vs H Q E, spR K R vs H Q E → vs.length = n := fun vs H Q E h => by
  obtain ⟨F, ds, d, p, hd, hr, q⟩ := h
  rw [dpa_len hd]
  exact hR ds d hr
end
end Kx
/-! ## KC_Star -/
set_option Elab.async false
set_option linter.all false
set_option maxRecDepth 100000
set_option maxHeartbeats 1000000
/-! Targets of our own: a, b, *rest = t; a pair's first place an attribute. -/
namespace Kx
open PySem PySem.Spec PyProof.Rows L2 Evl
section
variable {X : Cx} {pins : List (Addr × Obj)} {σ : L2.St} {H : Hp} {s : Shared}
/-- the items of a tuple, the last name taking the rest as a new list -/
theorem star_items {a : Addr} {xs : List V} {n : Nat} {E : Value → Shared → Prop} {Q : List Value → Shared → Prop} (I : Inv X pins σ H s) (hc : X.calm = true) (hq : SqT X.K H a xs) (hle : n ≤ xs.length)
    (k : ∀ p us s', H p = none → Inv X pins σ (upd H p (.lst (xs.drop n))) s' → Vals (xs.take n ++ [.ref p]) us → Q us s') :
    wpAny (model X.prog X.w) X.A (unpackItems (.ref a) (n + 1) (some n)) Q E s := by
  obtain ⟨its, rv, ht, hz⟩ := I.tuple hq
  have hl := rv.length
  have hlt : a ≠ s.heap.objs.size := Nat.ne_of_lt ht.lt
  have hh := I.ok.hd hc
  unfold unpackItems
  refine wpAny_bind ?_
  unfold notIterableAtAll
  refine wpAny_bind (wpAny_specialOf ht.typeIs slot_tuple_iter.lookup (wpAny_pure ?_))
  simp only [Bool.false_eq_true, if_false]
  refine wpAny_bind (wpAny_holding (iter_tuple ht ?_))
  refine wpAny_bind (wpAny_holding (draw_tuple hlt n 0 _ _ ⟨_, Heap.get?_push_size _ rfl, rfl, rfl⟩ (ht.push _) (by rw [List.size_toArray]; omega) fun h1 hit1 hs1 => ?_))
  have ht1 : IsTup h1 a its.toArray := (ht.push _).extBut hs1.extBut hlt
  rw [Nat.zero_add] at hit1
  rw [List.drop_zero]
  have e1 : its.toArray.toList = its := rfl
  rw [e1]
  have hfl : (its.take n).length = n := by rw [List.length_take]; omega
  rw [if_neg (show ¬ ((its.take n).length < n) by omega)]
  have hit2 := hit1
  obtain ⟨oi, hoi, _⟩ := hit2
  refine wpAny_bind (wpAny_holding (PySem.W.kun_collect (s := { s with heap := h1 }) (T := "tuple_iterator") (items := its.toArray) (.inr (.inr (.inr rfl))) (Walks.tuple (A := X.A.in1) hh s.heap.objs.size a hlt its.toArray) (fun j u st => st.1.typeIs) (k := n) (by rw [List.size_toArray]; omega)
    ⟨hit1, ht1⟩ (Heap.lt_size hoi) ht1.lt (fun h2 tk hk => ?_) (by rw [List.size_toArray]; omega)))
  have e2 : its.toArray.toList.drop n = its.drop n := rfl
  rw [e2]
  have hrl : (its.drop n).length = its.length - n := List.length_drop
  show wpAny _ _ (if (its.drop n).length < n + 1 - 1 - n then _ else _) _ _ _
  rw [if_neg (by omega)]
  have hmid : (its.drop n).length - (n + 1 - 1 - n) = (its.drop n).length := by omega
  show wpAny _ _ (newList ((its.drop n).take ((its.drop n).length - (n + 1 - 1 - n))) >>= fun d => pure (its.take n ++ [d] ++ (its.drop n).drop ((its.drop n).length - (n + 1 - 1 - n)))) _ _ _
  rw [hmid, List.take_length, List.drop_length]
  simp only [List.append_nil]
  have I1 : Inv X pins σ H { s with heap := h2, toks := tk } := I.kept fun b o e => hk b o (Nat.ne_of_lt (Heap.lt_size e)) (hs1.extBut b o (Nat.ne_of_lt (Heap.lt_size e)) (Heap.get?_push_of_some _ e))
  have rd : Vals (xs.drop n) (its.drop n) := rv.drop n
  have hzd : (xs.drop n).length ≤ sizeLine := by rw [List.length_drop]; omega
  refine wpAny_bind (wpAny_newList ?_ (by rw [← rd.length]; exact hzd))
  refine wpAny_pure (k h2.objs.size _ _ (Inv.fresh I1) (Inv.lnew (t' := tk) I1 rd hzd) ((rv.take n).append (.cons rfl .nil)))
def gStar (K : Fg) (n : Nat) (t : TGs) : TG := fun v σ H Q => ∃ a xs, v = .ref a ∧ SqT K H a xs ∧ n ≤ xs.length ∧ ∀ p, H p = none → t (xs.take n ++ [.ref p]) σ (upd H p (.lst (xs.drop n))) Q
theorem pg_star {es : List Expr} {k : Nat} {pos : Pos} {t : TGs} {n : Nat} (hc : X.calm = true) (h : PGs X es t) (hn : (assignEach es X.env).length = n + 1 := by rfl) (hst : (assignEach es X.env).findIdx? (·.1) = some n := by rfl) :
    PG X (.Tuple es k pos) (gStar X.K n t) := by
  refine ⟨fun pins s σ H v u Q I r hw => ?_⟩
  obtain ⟨a, xs, rfl, hq, hle, hw⟩ := hw
  cases r
  rw [assign_Tuple]
  refine wpAny_bind (wpAny_standAt ?_)
  unfold unpack
  rw [hn, hst]
  refine wpAny_bind (wpAny_holding (star_items I hc hq hle fun p us s1 hp I1 rv => ?_))
  exact h.run pins s1 σ _ _ us Q I1 rv (hw p hp)
/-- the starred name among several targets -/
theorem pgs_star {e : Expr} {sp : Pos} {es : List Expr} {t : TG} {u : TGs} (h1 : PG X e t) (h2 : PGs X es u)
    (hs : (assignEach (.Starred e sp :: es) X.env).map (·.2) = assign e X.env :: (assignEach es X.env).map (·.2) := by rfl) : PGs X (.Starred e sp :: es) (gCons t u) := by
  refine ⟨fun pins s σ H vs us Q I r h => ?_⟩
  obtain ⟨v, vr, rfl, h⟩ := h
  cases r with
  | cons r rr =>
    rw [hs]
    refine assignInOrder_cons (thn (h1.run pins s σ H _ _ _ I r h) fun _ s1 ⟨σ1, H1, I1, q1⟩ => ?_)
    exact h2.run pins s1 σ1 H1 _ _ Q I1 rr q1
/-- o.f as a target -/
def gFld (K : Fg) (to : TE) (f : Str) : TG := fun v σ H Q => to σ H fun x H2 => ∃ a C dx fs, x = .ref a ∧ H2 a = some (.ins C dx fs) ∧ Cls K C ∧ NoAttr K C f ∧ fs.length < 1000 ∧ Q σ (upd H2 a (.ins C dx (putF f v fs)))
theorem pg_fld {o : Expr} {f : Str} {pos : Pos} {to : TE} (ho : PE X o to)
    (ha : ∀ v, assign (.Attribute o f pos) X.env v = (do
      let ov ← holding [v] (eval o X.env)
      standAt pos.atName
      holding [v, ov] (setAttr ov f v)
      release [v, ov] []) := by intro _; rfl) : PG X (.Attribute o f pos) (gFld X.K to f) := by
  refine ⟨fun pins s σ H v u Q I r hw => ?_⟩
  rw [ha]
  refine wpAny_bind (wpAny_holding (thn (ho.run pins s σ H _ I hw) fun ov s1 ⟨x, H1, I1, r1, q1⟩ => ?_))
  obtain ⟨a, C, dx, fs, rfl, e, c, n, l, q⟩ := q1
  cases r1
  refine wpAny_bind (wpAny_standAt (wpAny_bind (wpAny_holding (setattr_ok I1 e c n l r fun s2 I2 => ?_))))
  exact wpAny_release ⟨σ, _, I2, q⟩
end
section
variable {K : Fg} {σ : L2.St} {H : Hp} {te : TE} {tz : TS} {d : PyData} {ds : List PyData}
/-- a, b, *rest = e: e a tuple of two things at least -/
theorem rd_star2 {i j l : Nat} {d1 d2 : PyData} (h : EvD K te σ H (.tuple (d1 :: d2 :: ds)))
    (k : ∀ v1 v2 v3 H', Ex H H' → Dp K H' v1 d1 → Dp K H' v2 d2 → Dp K H' v3 (.list ds) → RetD K tz (((σ.set i (some v1)).set j (some v2)).set l (some v3)) H' d) :
    RetD K (tSeq (tAsg te (gStar K 2 (gCons (gName i) (gCons (gName j) (gCons (gName l) gNil))))) tz) σ H d := fun F H1 p a D q =>
  h F H1 p a _ fun v H2 b hv => by
    obtain ⟨x, xs, rfl, hs, hxs⟩ := of_dp_tup hv
    cases hxs with
    | cons h1 r =>
      cases r with
      | cons h2 r2 =>
        refine ⟨x, _, rfl, ex_t del_le hs, by simp, fun y hy => ⟨_, _, rfl, _, _, rfl, _, _, rfl, rfl, ?_⟩⟩
        exact k _ _ (.ref y) (del _ F) (a.trans ((del_ex b).trans (del_ex (Ex.new hy)))) ((del_ex (Ex.new hy)).dp h1) ((del_ex (Ex.new hy)).dp h2) (new_lst (p.mono b) hy r2) F _ ((p.mono b).mono (Ex.new hy)) (Ex.refl _) D
          fun w H3 c hw => q w H3 (b.trans ((Ex.new hy).trans c)) hw
theorem rd_star1 {i l : Nat} {d1 : PyData} (h : EvD K te σ H (.tuple (d1 :: ds)))
    (k : ∀ v1 v3 H', Ex H H' → Dp K H' v1 d1 → Dp K H' v3 (.list ds) → RetD K tz ((σ.set i (some v1)).set l (some v3)) H' d) :
    RetD K (tSeq (tAsg te (gStar K 1 (gCons (gName i) (gCons (gName l) gNil)))) tz) σ H d := fun F H1 p a D q =>
  h F H1 p a _ fun v H2 b hv => by
    obtain ⟨x, xs, rfl, hs, hxs⟩ := of_dp_tup hv
    cases hxs with
    | cons h1 r2 =>
      refine ⟨x, _, rfl, ex_t del_le hs, by simp, fun y hy => ⟨_, _, rfl, _, _, rfl, rfl, ?_⟩⟩
      exact k _ (.ref y) (del _ F) (a.trans ((del_ex b).trans (del_ex (Ex.new hy)))) ((del_ex (Ex.new hy)).dp h1) (new_lst (p.mono b) hy r2) F _ ((p.mono b).mono (Ex.new hy)) (Ex.refl _) D
        fun w H3 c hw => q w H3 (b.trans ((Ex.new hy).trans c)) hw
end
end Kx
/-! ## KD_Text -/
set_option Elab.async false
set_option linter.all false
set_option maxRecDepth 100000
/-! The linked text by places: each def, its names by slot. Printed by wip/gen_text.py. -/
namespace Kx
open PySem PySem.Spec PyProof.Rows L2 Evl
def topS (i : Nat) : Stmt := PySem.Challenge.pw_mustmays_k14_whole_same_at_worlds.main.body.getD i (.Pass ⟨0, 0, 0, 0⟩)
abbrev s_is_word : Stmt := topS 5
abbrev n_is_word : List Str := ["thing", "sign"]
abbrev p_is_word : List Str := ["thing"]
theorem sc_is_word : FnScope n_is_word p_is_word (defScope s_is_word) := ⟨rfl, rfl, rfl, by decide +kernel, rfl, by decide +kernel, by decide +kernel⟩
-- is_word: 0:thing 1:sign
abbrev s_inner_sayings : Stmt := topS 7
abbrev n_inner_sayings : List Str := ["saying", "word", "first", "rest"]
abbrev p_inner_sayings : List Str := ["saying"]
theorem sc_inner_sayings : FnScope n_inner_sayings p_inner_sayings (defScope s_inner_sayings) := ⟨rfl, rfl, rfl, by decide +kernel, rfl, by decide +kernel, by decide +kernel⟩
-- inner_sayings: 0:saying 1:word 2:first 3:rest
abbrev s_made_anew : Stmt := topS 8
abbrev n_made_anew : List Str := ["saying", "inner", "word", "first", "rest"]
abbrev p_made_anew : List Str := ["saying", "inner"]
theorem sc_made_anew : FnScope n_made_anew p_made_anew (defScope s_made_anew) := ⟨rfl, rfl, rfl, by decide +kernel, rfl, by decide +kernel, by decide +kernel⟩
-- made_anew: 0:saying 1:inner 2:word 3:first 4:rest
abbrev s_put_behind : Stmt := topS 10
abbrev n_put_behind : List Str := ["first", "saying", "inner", "found", "one"]
abbrev p_put_behind : List Str := ["first", "saying"]
theorem sc_put_behind : FnScope n_put_behind p_put_behind (defScope s_put_behind) := ⟨rfl, rfl, rfl, by decide +kernel, rfl, by decide +kernel, by decide +kernel⟩
-- put_behind: 0:first 1:saying 2:inner 3:found 4:one
abbrev s_told_out : Stmt := topS 11
abbrev n_told_out : List Str := ["saying", "inner", "one"]
abbrev p_told_out : List Str := ["saying"]
theorem sc_told_out : FnScope n_told_out p_told_out (defScope s_told_out) := ⟨rfl, rfl, rfl, by decide +kernel, rfl, by decide +kernel, by decide +kernel⟩
-- told_out: 0:saying 1:inner 2:one
abbrev s_core_of : Stmt := topS 13
abbrev n_core_of : List Str := ["saying", "inner", "one"]
abbrev p_core_of : List Str := ["saying"]
theorem sc_core_of : FnScope n_core_of p_core_of (defScope s_core_of) := ⟨rfl, rfl, rfl, by decide +kernel, rfl, by decide +kernel, by decide +kernel⟩
-- core_of: 0:saying 1:inner 2:one
abbrev s_in_few_words : Stmt := topS 15
abbrev n_in_few_words : List Str := ["saying", "inner", "one"]
abbrev p_in_few_words : List Str := ["saying"]
theorem sc_in_few_words : FnScope n_in_few_words p_in_few_words (defScope s_in_few_words) := ⟨rfl, rfl, rfl, by decide +kernel, rfl, by decide +kernel, by decide +kernel⟩
-- in_few_words: 0:saying 1:inner 2:one
abbrev s_wv_init : Stmt := inClass (topS 22) 0
abbrev n_wv_init : List Str := ["self", "web", "steps", "letters", "hand", "pairs", "word", "worlds"]
abbrev p_wv_init : List Str := ["self", "web"]
theorem sc_wv_init : FnScope n_wv_init p_wv_init (defScope s_wv_init) := ⟨rfl, rfl, rfl, by decide +kernel, rfl, by decide +kernel, by decide +kernel⟩
-- WebView.__init__: 0:self 1:web 2:steps 3:letters 4:hand 5:pairs 6:word 7:worlds
abbrev s_wv_led_rows : Stmt := inClass (topS 22) 1
abbrev n_wv_led_rows : List Str := ["self", "pairs", "found", "begin", "end"]
abbrev p_wv_led_rows : List Str := ["self", "pairs"]
theorem sc_wv_led_rows : FnScope n_wv_led_rows p_wv_led_rows (defScope s_wv_led_rows) := ⟨rfl, rfl, rfl, by decide +kernel, rfl, by decide +kernel, by decide +kernel⟩
-- WebView.led_rows: 0:self 1:pairs 2:found 3:begin 4:end
abbrev s_wv_led_from : Stmt := inClass (topS 22) 2
abbrev n_wv_led_from : List Str := ["self", "hand", "world", "rows"]
abbrev p_wv_led_from : List Str := ["self", "hand", "world"]
theorem sc_wv_led_from : FnScope n_wv_led_from p_wv_led_from (defScope s_wv_led_from) := ⟨rfl, rfl, rfl, by decide +kernel, rfl, by decide +kernel, by decide +kernel⟩
-- WebView.led_from: 0:self 1:hand 2:world 3:rows
abbrev s_wv_has_letter : Stmt := inClass (topS 22) 4
abbrev n_wv_has_letter : List Str := ["self", "word", "world"]
abbrev p_wv_has_letter : List Str := ["self", "word", "world"]
theorem sc_wv_has_letter : FnScope n_wv_has_letter p_wv_has_letter (defScope s_wv_has_letter) := ⟨rfl, rfl, rfl, by decide +kernel, rfl, by decide +kernel, by decide +kernel⟩
-- WebView.has_letter: 0:self 1:word 2:world
abbrev s_called_anew : Stmt := topS 23
abbrev n_called_anew : List Str := ["web", "kept", "many", "steps", "letters", "calls", "left", "hand", "pairs", "own", "marks", "word", "worlds", "spots", "number", "world", "x", "y"]
abbrev p_called_anew : List Str := ["web", "kept"]
theorem sc_called_anew : FnScope n_called_anew p_called_anew (defScope s_called_anew) := ⟨rfl, rfl, rfl, by decide +kernel, rfl, by decide +kernel, by decide +kernel⟩
-- called_anew: 0:web 1:kept 2:many 3:steps 4:letters 5:calls 6:left 7:hand 8:pairs 9:own 10:marks 11:word 12:worlds 13:spots 14:number 15:world 16:x 17:y
abbrev s_told_truths : Stmt := topS 24
abbrev n_told_truths : List Str := ["web", "first", "second", "own", "kept", "found", "inner", "world", "is_so"]
abbrev p_told_truths : List Str := ["web", "first", "second"]
theorem sc_told_truths : FnScope n_told_truths p_told_truths (defScope s_told_truths) := ⟨rfl, rfl, rfl, by decide +kernel, rfl, by decide +kernel, by decide +kernel⟩
-- told_truths: 0:web 1:first 2:second 3:own 4:kept 5:found 6:inner 7:world 8:is_so
abbrev s_step_truths : Stmt := topS 25
abbrev n_step_truths : List Str := ["web", "word", "hand", "inner", "view", "found", "world", "ends", "end"]
abbrev p_step_truths : List Str := ["web", "word", "hand", "inner"]
theorem sc_step_truths : FnScope n_step_truths p_step_truths (defScope s_step_truths) := ⟨rfl, rfl, rfl, by decide +kernel, rfl, by decide +kernel, by decide +kernel⟩
-- step_truths: 0:web 1:word 2:hand 3:inner 4:view 5:found 6:world 7:ends 8:end
abbrev s_joined_truths : Stmt := topS 26
abbrev n_joined_truths : List Str := ["web", "word", "some", "rows", "found", "world", "own", "one", "row"]
abbrev p_joined_truths : List Str := ["web", "word", "some"]
theorem sc_joined_truths : FnScope n_joined_truths p_joined_truths (defScope s_joined_truths) := ⟨rfl, rfl, rfl, by decide +kernel, rfl, by decide +kernel, by decide +kernel⟩
-- joined_truths: 0:web 1:word 2:some 3:rows 4:found 5:world 6:own 7:one 8:row
abbrev s_truths_in : Stmt := topS 27
abbrev n_truths_in : List Str := ["web", "saying", "word", "rest", "view", "first", "second", "world", "own", "later"]
abbrev p_truths_in : List Str := ["web", "saying"]
theorem sc_truths_in : FnScope n_truths_in p_truths_in (defScope s_truths_in) := ⟨rfl, rfl, rfl, by decide +kernel, rfl, by decide +kernel, by decide +kernel⟩
-- truths_in: 0:web 1:saying 2:word 3:rest 4:view 5:first 6:second 7:world 8:own 9:later
abbrev s_need_world : Stmt := topS 28
abbrev n_need_world : List Str := ["web", "world"]
abbrev p_need_world : List Str := ["web", "world"]
theorem sc_need_world : FnScope n_need_world p_need_world (defScope s_need_world) := ⟨rfl, rfl, rfl, by decide +kernel, rfl, by decide +kernel, by decide +kernel⟩
-- need_world: 0:web 1:world
abbrev s_worlds_reached : Stmt := topS 29
abbrev n_worlds_reached : List Str := ["web", "world", "view", "found", "left", "here", "hand", "end"]
abbrev p_worlds_reached : List Str := ["web", "world"]
theorem sc_worlds_reached : FnScope n_worlds_reached p_worlds_reached (defScope s_worlds_reached) := ⟨rfl, rfl, rfl, by decide +kernel, rfl, by decide +kernel, by decide +kernel⟩
-- worlds_reached: 0:web 1:world 2:view 3:found 4:left 5:here 6:hand 7:end
abbrev s_holds_at : Stmt := topS 30
abbrev n_holds_at : List Str := ["web", "world", "saying", "kept"]
abbrev p_holds_at : List Str := ["web", "world", "saying"]
theorem sc_holds_at : FnScope n_holds_at p_holds_at (defScope s_holds_at) := ⟨rfl, rfl, rfl, by decide +kernel, rfl, by decide +kernel, by decide +kernel⟩
-- holds_at: 0:web 1:world 2:saying 3:kept
abbrev s_worlds_where : Stmt := topS 31
abbrev n_worlds_where : List Str := ["web", "saying", "world", "is_so"]
abbrev p_worlds_where : List Str := ["web", "saying"]
theorem sc_worlds_where : FnScope n_worlds_where p_worlds_where (defScope s_worlds_where) := ⟨rfl, rfl, rfl, by decide +kernel, rfl, by decide +kernel, by decide +kernel⟩
-- worlds_where: 0:web 1:saying 2:world 3:is_so
abbrev s_pushed : Stmt := topS 34
abbrev n_pushed : List Str := ["saying", "is_so", "word", "first", "rest", "both", "turned", "one"]
abbrev p_pushed : List Str := ["saying", "is_so"]
theorem sc_pushed : FnScope n_pushed p_pushed (defScope s_pushed) := ⟨rfl, rfl, rfl, by decide +kernel, rfl, by decide +kernel, by decide +kernel⟩
-- pushed: 0:saying 1:is_so 2:word 3:first 4:rest 5:both 6:turned 7:one
abbrev s_pushed_in : Stmt := topS 35
abbrev n_pushed_in : List Str := ["saying"]
abbrev p_pushed_in : List Str := ["saying"]
theorem sc_pushed_in : FnScope n_pushed_in p_pushed_in (defScope s_pushed_in) := ⟨rfl, rfl, rfl, by decide +kernel, rfl, by decide +kernel, by decide +kernel⟩
-- pushed_in: 0:saying
abbrev s_some_text : Stmt := topS 40
abbrev n_some_text : List Str := ["word", "some", "texts", "one"]
abbrev p_some_text : List Str := ["word", "some"]
theorem sc_some_text : FnScope n_some_text p_some_text (defScope s_some_text) := ⟨rfl, rfl, rfl, by decide +kernel, rfl, by decide +kernel, by decide +kernel⟩
-- some_text: 0:word 1:some 2:texts 3:one
abbrev s_saying_text : Stmt := topS 41
abbrev n_saying_text : List Str := ["saying", "word", "first", "rest", "left", "right"]
abbrev p_saying_text : List Str := ["saying"]
theorem sc_saying_text : FnScope n_saying_text p_saying_text (defScope s_saying_text) := ⟨rfl, rfl, rfl, by decide +kernel, rfl, by decide +kernel, by decide +kernel⟩
-- saying_text: 0:saying 1:word 2:first 3:rest 4:left 5:right
abbrev s_sr_init : Stmt := inClass (topS 44) 0
abbrev n_sr_init : List Str := ["self", "text"]
abbrev p_sr_init : List Str := ["self", "text"]
theorem sc_sr_init : FnScope n_sr_init p_sr_init (defScope s_sr_init) := ⟨rfl, rfl, rfl, by decide +kernel, rfl, by decide +kernel, by decide +kernel⟩
-- SignReader.__init__: 0:self 1:text
abbrev s_sr_ahead : Stmt := inClass (topS 44) 2
abbrev n_sr_ahead : List Str := ["self"]
abbrev p_sr_ahead : List Str := ["self"]
theorem sc_sr_ahead : FnScope n_sr_ahead p_sr_ahead (defScope s_sr_ahead) := ⟨rfl, rfl, rfl, by decide +kernel, rfl, by decide +kernel, by decide +kernel⟩
-- SignReader.ahead: 0:self
abbrev s_sr_take : Stmt := inClass (topS 44) 3
abbrev n_sr_take : List Str := ["self", "sign"]
abbrev p_sr_take : List Str := ["self", "sign"]
theorem sc_sr_take : FnScope n_sr_take p_sr_take (defScope s_sr_take) := ⟨rfl, rfl, rfl, by decide +kernel, rfl, by decide +kernel, by decide +kernel⟩
-- SignReader.take: 0:self 1:sign
abbrev s_sr_letters_here : Stmt := inClass (topS 44) 4
abbrev n_sr_letters_here : List Str := ["self", "begin", "found"]
abbrev p_sr_letters_here : List Str := ["self"]
theorem sc_sr_letters_here : FnScope n_sr_letters_here p_sr_letters_here (defScope s_sr_letters_here) := ⟨rfl, rfl, rfl, by decide +kernel, rfl, by decide +kernel, by decide +kernel⟩
-- SignReader.letters_here: 0:self 1:begin 2:found
abbrev s_sr_handed_here : Stmt := inClass (topS 44) 5
abbrev n_sr_handed_here : List Str := ["self", "word", "left", "right", "name"]
abbrev p_sr_handed_here : List Str := ["self", "word"]
theorem sc_sr_handed_here : FnScope n_sr_handed_here p_sr_handed_here (defScope s_sr_handed_here) := ⟨rfl, rfl, rfl, by decide +kernel, rfl, by decide +kernel, by decide +kernel⟩
-- SignReader.handed_here: 0:self 1:word 2:left 3:right 4:name
abbrev s_sr_room_here : Stmt := inClass (topS 44) 6
abbrev n_sr_room_here : List Str := ["self", "sign", "found"]
abbrev p_sr_room_here : List Str := ["self"]
theorem sc_sr_room_here : FnScope n_sr_room_here p_sr_room_here (defScope s_sr_room_here) := ⟨rfl, rfl, rfl, by decide +kernel, rfl, by decide +kernel, by decide +kernel⟩
-- SignReader.room_here: 0:self 1:sign 2:found
abbrev s_sr_more_here : Stmt := inClass (topS 44) 7
abbrev n_sr_more_here : List Str := ["self", "some", "sign"]
abbrev p_sr_more_here : List Str := ["self", "some"]
theorem sc_sr_more_here : FnScope n_sr_more_here p_sr_more_here (defScope s_sr_more_here) := ⟨rfl, rfl, rfl, by decide +kernel, rfl, by decide +kernel, by decide +kernel⟩
-- SignReader.more_here: 0:self 1:some 2:sign
abbrev s_sr_told_here : Stmt := inClass (topS 44) 8
abbrev n_sr_told_here : List Str := ["self", "first"]
abbrev p_sr_told_here : List Str := ["self"]
theorem sc_sr_told_here : FnScope n_sr_told_here p_sr_told_here (defScope s_sr_told_here) := ⟨rfl, rfl, rfl, by decide +kernel, rfl, by decide +kernel, by decide +kernel⟩
-- SignReader.told_here: 0:self 1:first
abbrev s_sr_saying_here : Stmt := inClass (topS 44) 9
abbrev n_sr_saying_here : List Str := ["self", "sign", "word", "void", "around"]
abbrev p_sr_saying_here : List Str := ["self"]
theorem sc_sr_saying_here : FnScope n_sr_saying_here p_sr_saying_here (defScope s_sr_saying_here) := ⟨rfl, rfl, rfl, by decide +kernel, rfl, by decide +kernel, by decide +kernel⟩
-- SignReader.saying_here: 0:self 1:sign 2:word 3:void 4:around
abbrev s_saying_read : Stmt := topS 45
abbrev n_saying_read : List Str := ["text", "reader", "found"]
abbrev p_saying_read : List Str := ["text"]
theorem sc_saying_read : FnScope n_saying_read p_saying_read (defScope s_saying_read) := ⟨rfl, rfl, rfl, by decide +kernel, rfl, by decide +kernel, by decide +kernel⟩
-- saying_read: 0:text 1:reader 2:found
abbrev s_law_feed : Stmt := topS 47
abbrev n_law_feed : List Str := ["_law_script"]
abbrev p_law_feed : List Str := ["_law_script"]
theorem sc_law_feed : FnScope n_law_feed p_law_feed (defScope s_law_feed) := ⟨rfl, rfl, rfl, by decide +kernel, rfl, by decide +kernel, by decide +kernel⟩
-- _law_feed: 0:_law_script
abbrev s_law_draw : Stmt := topS 48
abbrev n_law_draw : List Str := ["_law_feed_here", "_law_many", "_law_found", "_law_cell", "_law_mixed"]
abbrev p_law_draw : List Str := ["_law_feed_here", "_law_many"]
theorem sc_law_draw : FnScope n_law_draw p_law_draw (defScope s_law_draw) := ⟨rfl, rfl, rfl, by decide +kernel, rfl, by decide +kernel, by decide +kernel⟩
-- _law_draw: 0:_law_feed_here 1:_law_many 2:_law_found 3:_law_cell 4:_law_mixed
abbrev s_law_saying : Stmt := topS 49
abbrev n_law_saying : List Str := ["_law_feed_here", "_law_left", "_law_told", "_law_way", "_law_many", "_law_some", "_law_hand", "_law_k"]
abbrev p_law_saying : List Str := ["_law_feed_here", "_law_left", "_law_told"]
theorem sc_law_saying : FnScope n_law_saying p_law_saying (defScope s_law_saying) := ⟨rfl, rfl, rfl, by decide +kernel, rfl, by decide +kernel, by decide +kernel⟩
-- _law_saying: 0:_law_feed_here 1:_law_left 2:_law_told 3:_law_way 4:_law_many 5:_law_some 6:_law_hand 7:_law_k
abbrev s_law_web : Stmt := topS 50
abbrev n_law_web : List Str := ["_law_feed_here", "_law_many", "_law_steps", "_law_letters", "_law_hand", "_law_pairs", "_law_word", "_law_worlds", "_law_k"]
abbrev p_law_web : List Str := ["_law_feed_here"]
theorem sc_law_web : FnScope n_law_web p_law_web (defScope s_law_web) := ⟨rfl, rfl, rfl, by decide +kernel, rfl, by decide +kernel, by decide +kernel⟩
-- _law_web: 0:_law_feed_here 1:_law_many 2:_law_steps 3:_law_letters 4:_law_hand 5:_law_pairs 6:_law_word 7:_law_worlds 8:_law_k
abbrev s_law_ends : Stmt := topS 51
abbrev n_law_ends : List Str := ["_law_pairs", "_law_here", "_law_worlds", "_law_inner", "_law_pair"]
abbrev p_law_ends : List Str := ["_law_pairs", "_law_here", "_law_worlds", "_law_inner"]
theorem sc_law_ends : FnScope n_law_ends p_law_ends (defScope s_law_ends) := ⟨rfl, rfl, rfl, by decide +kernel, rfl, by decide +kernel, by decide +kernel⟩
-- _law_ends: 0:_law_pairs 1:_law_here 2:_law_worlds 3:_law_inner 4:_law_pair
abbrev s_law_where : Stmt := topS 52
abbrev n_law_where : List Str := ["_law_web_here", "_law_worlds", "_law_s", "_law_steps", "_law_letters", "_law_inner", "_law_some", "_law_many", "_law_pairs", "_law_ends_here", "_law_first", "_law_second", "_law_k", "_law_one"]
abbrev p_law_where : List Str := ["_law_web_here", "_law_worlds", "_law_s"]
theorem sc_law_where : FnScope n_law_where p_law_where (defScope s_law_where) := ⟨rfl, rfl, rfl, by decide +kernel, rfl, by decide +kernel, by decide +kernel⟩
-- _law_where: 0:_law_web_here 1:_law_worlds 2:_law_s 3:_law_steps 4:_law_letters 5:_law_inner 6:_law_some 7:_law_many 8:_law_pairs 9:_law_ends_here 10:_law_first 11:_law_second 12:_law_k 13:_law_one
abbrev s_law_is_right : Stmt := topS 53
abbrev n_law_is_right : List Str := ["_law_web_here", "_law_s", "_law_some", "_law_every", "_law_due", "_law_rest", "_law_musts", "_law_one", "_law_k"]
abbrev p_law_is_right : List Str := ["_law_web_here", "_law_s", "_law_some"]
theorem sc_law_is_right : FnScope n_law_is_right p_law_is_right (defScope s_law_is_right) := ⟨rfl, rfl, rfl, by decide +kernel, rfl, by decide +kernel, by decide +kernel⟩
-- _law_is_right: 0:_law_web_here 1:_law_s 2:_law_some 3:_law_every 4:_law_due 5:_law_rest 6:_law_musts 7:_law_one 8:_law_k
abbrev s_law : Stmt := topS 54
abbrev n_law : List Str := ["_law_script", "_law_feed_here", "_law_turn", "_law_web_here", "_law_k", "_law_s", "_law_some", "_law_letter", "_law_plain"]
abbrev p_law : List Str := ["_law_script"]
theorem sc_law : FnScope n_law p_law (defScope s_law) := ⟨rfl, rfl, rfl, by decide +kernel, rfl, by decide +kernel, by decide +kernel⟩
-- law: 0:_law_script 1:_law_feed_here 2:_law_turn 3:_law_web_here 4:_law_k 5:_law_s 6:_law_some 7:_law_letter 8:_law_plain
end Kx
/-! ## KE_Ops -/
set_option Elab.async false
set_option linter.all false
set_option maxRecDepth 100000
set_option maxHeartbeats 1000000
/-! Operators by data: lists added, repeated, data compared. -/
namespace Kx
open PySem PySem.Spec PyProof.Rows L2 Evl
section
variable {X : Cx}
def rCatL (K : Fg) : R2 := fun x y H Q => ∃ l b xs zs, x = .ref l ∧ y = .ref b ∧ SqL K H l xs ∧ SqL K H b zs ∧ xs.length + zs.length ≤ sizeLine ∧ ∀ p, H p = none → Q (.ref p) (upd H p (.lst (xs ++ zs)))
theorem op_catL : OpR X (binaryOp .Add) (rCatL X.K) := by
  intro pins s σ H x y v u Q I rx ry h
  obtain ⟨l, b, xs, zs, rfl, rfl, hl, hb, hz, q⟩ := h
  cases rx
  cases ry
  obtain ⟨its, r1, ⟨⟨c1, d1, dt1, sl1⟩, n1, o1, e1, f1, g1⟩, z1⟩ := I.list hl
  obtain ⟨its2, r2, ⟨⟨c2, d2, dt2, sl2⟩, n2, o2, e2, f2, g2⟩, z2⟩ := I.list hb
  simp only at e1 g1 e2 g2
  subst e1 g1 e2 g2
  have l1 := r1.length
  have l2 := r2.length
  refine concat_meets ⟨_, o1, rfl⟩ ⟨_, o2, rfl⟩ noFill_list_add seq_list_add PySem.F.slot_list_add PySem.F.entry_list_add (PySem.F.args_list_add_2 _ _)
    (list_addW l b its.toArray its2.toArray n1 n2 d1 d2 sl1 sl2 (by simp only [List.size_toArray]; omega)) ⟨o1, o2, ?_⟩
  have e : its.toArray ++ its2.toArray = (its ++ its2).toArray := by simp
  rw [e]
  exact ⟨.ref _, _, Inv.lnew (t' := s.toks) I (r1.append r2) (by rw [List.length_append]; exact hz), rfl, q _ (Inv.fresh I)⟩
end
section
variable {K : Fg} {σ : L2.St} {H : Hp} {ta tb te : TE} {d e : PyData} {ds es : List PyData}
theorem evd_catL (h : EvD K ta σ H (.list ds)) (h2 : EvD K tb σ H (.list es)) (hl : ds.length + es.length ≤ 100000 := by first | decide | (simp only [List.length_cons, List.length_nil]; decide)) : EvD K (tOp (rCatL K) ta tb) σ H (.list (ds ++ es)) := fun F H1 p a _ k =>
  two h h2 p a fun v w H2 b p2 hv hw => by
    obtain ⟨q, xs, rfl, hs, hxs⟩ := of_dp_lst hv
    obtain ⟨q2, ys, rfl, hs2, hys⟩ := of_dp_lst hw
    have l1 := dpa_len hxs
    have l2 := dpa_len hys
    exact ⟨q, q2, xs, ys, rfl, rfl, ex_l del_le hs, ex_l del_le hs2, by rw [l1, l2]; exact sz_of hl, fun l hp => k _ _ (b.trans (Ex.new hp)) (new_lst p2 hp (dpa_app hxs hys))⟩
/-- [x] * n -/
theorem evd_rep1 {n : Nat} (h : EvD K te σ H d) (h2 : EvD K tb σ H (.int (n : Int))) (hn : n ≤ 100000) : EvD K (tOp rRep (tLst (tCons te tNil)) tb) σ H (.list (List.replicate n d)) := fun F H1 p a _ k =>
  h F H1 p a _ fun v H2 b hv => ⟨sz_of (by simp), fun q hq => h2 F _ ((p.mono b).mono (Ex.new hq)) (a.trans (del_ex (b.trans (Ex.new hq)))) _ fun w H3 c hw => by
    obtain rfl := of_dp_int hw
    have hq3 := c q _ upd_same
    refine ⟨q, (n : Int), [v], rfl, rfl, hq3, by omega, by omega, by simp; exact sz_of hn, fun l hp => ?_⟩
    have pb := ((p.mono b).mono (Ex.new hq)).mono c
    have hf : DpAll K (del H3 F) (List.replicate n v) (List.replicate n d) := by
      have h1 : Dp K (del H3 F) v d := (del_ex ((Ex.new hq).trans c)).dp hv
      clear h2 k hn hw
      induction n with
      | zero => exact .nil
      | succ m ih => exact .cons h1 ih
    have e1 : (List.replicate (Int.toNat (n : Int)) [v]).flatten = List.replicate n v := by
      rw [Int.toNat_natCast]
      clear h2 k hn hw hf
      induction n with
      | zero => rfl
      | succ m ih => rw [List.replicate_succ, List.flatten_cons, ih]; rfl
    rw [e1]
    exact k _ _ (b.trans ((Ex.new hq).trans (c.trans (Ex.new hp)))) (new_lst pb hp hf)⟩
theorem eqT {s s' : Str} {b : Bool} (h : EvD K ta σ H (.str s)) (h2 : EvD K tb σ H (.str s')) (q : decide (s = s') = b) : EvB (tTest (tOp rEq ta tb)) σ H b := eb_is (et_d (evd_eqS h h2)) q
theorem neT {s s' : Str} {b : Bool} (h : EvD K ta σ H (.str s)) (h2 : EvD K tb σ H (.str s')) (q : (!decide (s = s')) = b) : EvB (tTest (tOp rNe ta tb)) σ H b := eb_is (et_d (evd_neS h h2)) q
theorem inT {s : Str} {ss : List Str} {b : Bool} (h : EvD K ta σ H (.str s)) (h2 : EvD K tb σ H d) (hq : seqD d = some (ss.map PyData.str)) (q : decide (s ∈ ss) = b) : EvB (tTest (tOp (rIn K false) ta tb)) σ H b := eb_is (et_d (evd_inS (neg := false) h h2 hq)) q
theorem evd_ifT {t : TT} (h : EvB t σ H true) (h1 : EvD K ta σ H d) : EvD K (tIf t ta tb) σ H d := evd_if h (fun _ => h1) fun z => nomatch z
theorem evd_ifF {t : TT} (h : EvB t σ H false) (h1 : EvD K tb σ H d) : EvD K (tIf t ta tb) σ H d := evd_if h (fun z => nomatch z) fun _ => h1
theorem rd_T {t : TT} {tu tz : TS} (h : EvB t σ H true) (h1 : RetD K tu σ H d) : RetD K (tSeq (tIfS t tu tNext) tz) σ H d := rd_when h (fun _ => h1) fun z => nomatch z
theorem rd_F {t : TT} {tu tz : TS} (h : EvB t σ H false) (h1 : RetD K tz σ H d) : RetD K (tSeq (tIfS t tu tNext) tz) σ H d := rd_when h (fun z => nomatch z) fun _ => h1
theorem evd_eqD (h : EvD K ta σ H d) (h2 : EvD K tb σ H e) (s1 : SeqAt.shaped d = true) (s2 : SeqAt.shaped e = true) : EvD K (tOp (rEqD K) ta tb) σ H (.bool (PyData.eqv d e)) := fun F H1 p a _ k =>
  two h h2 p a fun v w H2 b p2 hv hw => ⟨d, e, del_le.dp hv, del_le.dp hw, s1, s2, k _ _ b (.bl _)⟩
theorem evd_neD (h : EvD K ta σ H d) (h2 : EvD K tb σ H e) (s1 : SeqAt.shaped d = true) (s2 : SeqAt.shaped e = true) : EvD K (tOp (rNeD K) ta tb) σ H (.bool (!PyData.eqv d e)) := fun F H1 p a _ k =>
  two h h2 p a fun v w H2 b p2 hv hw => ⟨d, e, del_le.dp hv, del_le.dp hw, s1, s2, k _ _ b (.bl _)⟩
end
end Kx
/-! ## KF_Frame -/
set_option Elab.async false
set_option linter.all false
set_option maxRecDepth 100000
set_option maxHeartbeats 1000000
/-! Defs by their names; the module's facts; sayings as data. -/
namespace Kx
open PySem PySem.Spec PyProof.Rows L2 Evl
/-- a def of the top -/
def Dfn (K : Fg) (mg : Str → Option Value) (x : Str) (st : Stmt) : Prop := ∃ f fd, FunD K x x (defArgs st) (defBody st) (defScope st) [] [] f fd ∧ mg x = some (.ref f)
/-- a method of the class at C -/
def Mtd (K : Fg) (C : Addr) (m qual : Str) (st : Stmt) : Prop := ∃ f fd, FunD K m qual (defArgs st) (defBody st) (defScope st) [] [] f fd ∧ Meth K C m f
/-- its class's __init__ -/
def Ini (K : Fg) (C : Addr) (qual : Str) (st : Stmt) : Prop := ∃ f fd, FunD K "__init__" qual (defArgs st) (defBody st) (defScope st) [] [] f fd ∧ Mk K C f
section
variable (P : Program) (w : World) (K : Fg) (mg : Str → Option Value) (base : Heap) (k : Nat)
def Cal (x : Str) (sp : Sp) : Prop := ∃ f fd ps, FnOk P w K mg base CX0 k f fd ps sp ∧ mg x = some (.ref f) ∧ PySem.W.keepIn K (.ref f) = true ∧ Binds K fd ps []
def Met (C : Addr) (m : Str) (sp : Sp) : Prop := ∃ f fd ps, FnOk P w K mg base CX0 k f fd ps sp ∧ Cls K C ∧ Meth K C m f ∧ Binds K fd ps []
def Mak (C : Addr) (x : Str) (sp : Sp) : Prop := ∃ f fd ps, FnOk P w K mg base CX0 k f fd ps sp ∧ mg x = some (.ref C) ∧ Mk K C f ∧ Binds K fd ps []
end
section
variable {P : Program} {w : World} {K : Fg} {mg : Str → Option Value} {base : Heap} {k j : Nat}
/-- how a def without defaults binds -/
abbrev BndsOf (x qual : Str) (st : Stmt) (ps : List Str) : Prop := ∀ (kV doc pm : Value) (an : Option Addr) (cdv ct : Value) (us : List Value), us.length = ps.length →
  bindArgs (PySem.W.fnOf x qual (defArgs st) (defBody st) (defScope st) .none kV doc pm an cdv ct) ⟨us, []⟩ = pure (ps.zip us)
/-- a body keeps a promise -/
abbrev Body (P : Program) (w : World) (K : Fg) (mg : Str → Option Value) (base : Heap) (k : Nat) (qual : Str) (st : Stmt) (N : List Str) (sp : Sp) : Prop :=
  ∀ (f : Addr) (cdv : Value) (A : Around) (outer : List Env) (s : Shared) (H : Hp) (vs : List V) (Q : VK) (E : XK), Room k (A.deeper (envOfC qual (defScope st) s.heap.objs.size f cdv)) → sp vs H Q E →
      ∃ t, PSs (cxOf CX0 P w K mg base N qual (defScope st) f cdv A outer s H E).nox (defBody st) t ∧ t { nx := fun _ H' => Q .non H', rt := Q } (start N vs) H
theorem ok_of {x qual : Str} {st : Stmt} {f : Addr} {fd : FuncData} {N ps : List Str} {sp : Sp} (F : FunD K x qual (defArgs st) (defBody st) (defScope st) [] [] f fd) (S : FnScope N ps (defScope st)) (len : ∀ vs H Q E, sp vs H Q E → vs.length = ps.length)
    (b : Body P w K mg base k qual st N sp) : FnOk P w K mg base CX0 (k + 1) f fd ps sp :=
  F.ok S len fun cdv A outer s H vs Q E hr h => let ⟨t, h1, h2⟩ := b f cdv A outer s H vs Q E hr h; ⟨t, h1.nox, h2⟩
theorem cal_of {x : Str} {st : Stmt} {N ps : List Str} {sp : Sp} (D : Dfn K mg x st) (S : FnScope N ps (defScope st)) (hb : BndsOf x x st ps) (len : ∀ vs H Q E, sp vs H Q E → vs.length = ps.length)
    (b : Body P w K mg base k x st N sp) : Cal P w K mg base (k + 1) x sp := let ⟨f, fd, F, e⟩ := D; ⟨f, fd, ps, ok_of F S len b, e, F.kp, F.bindsN hb⟩
theorem met_of {C : Addr} {m qual : Str} {st : Stmt} {N ps : List Str} {sp : Sp} (c : Cls K C) (D : Mtd K C m qual st) (S : FnScope N ps (defScope st)) (hb : BndsOf m qual st ps) (len : ∀ vs H Q E, sp vs H Q E → vs.length = ps.length)
    (b : Body P w K mg base k qual st N sp) : Met P w K mg base (k + 1) C m sp := let ⟨f, fd, F, e⟩ := D; ⟨f, fd, ps, ok_of F S len b, c, e, F.bindsN hb⟩
theorem mak_of {C : Addr} {x qual : Str} {st : Stmt} {N ps : List Str} {sp : Sp} (hm : mg x = some (.ref C)) (D : Ini K C qual st) (S : FnScope N ps (defScope st)) (hb : BndsOf "__init__" qual st ps) (len : ∀ vs H Q E, sp vs H Q E → vs.length = ps.length)
    (b : Body P w K mg base k qual st N sp) : Mak P w K mg base (k + 1) C x sp := let ⟨f, fd, F, e⟩ := D; ⟨f, fd, ps, ok_of F S len b, hm, e, F.bindsN hb⟩
theorem Cal.mono {x : Str} {sp : Sp} (c : Cal P w K mg base j x sp) (h : j ≤ k) : Cal P w K mg base k x sp := let ⟨f, fd, ps, F, r⟩ := c; ⟨f, fd, ps, F.mono h, r⟩
theorem Met.mono {C : Addr} {x : Str} {sp : Sp} (c : Met P w K mg base j C x sp) (h : j ≤ k) : Met P w K mg base k C x sp := let ⟨f, fd, ps, F, r⟩ := c; ⟨f, fd, ps, F.mono h, r⟩
theorem Mak.mono {C : Addr} {x : Str} {sp : Sp} (c : Mak P w K mg base j C x sp) (h : j ≤ k) : Mak P w K mg base k C x sp := let ⟨f, fd, ps, F, r⟩ := c; ⟨f, fd, ps, F.mono h, r⟩
/-- a promise that is never asked -/
theorem cal_no {x : Str} {sp : Sp} {st : Stmt} {N ps : List Str} (D : Dfn K mg x st) (hb : BndsOf x x st ps) (no : ∀ vs H Q E, ¬ sp vs H Q E) : Cal P w K mg base k x sp := let ⟨f, fd, F, e⟩ := D
  ⟨f, fd, ps, ⟨fun vs H Q E h => absurd h (no vs H Q E), fun A outer s H args us vs Q E _ _ _ _ h => absurd h (no vs H Q E)⟩, e, F.kp, F.bindsN hb⟩
theorem met_no {C : Addr} {m qual : Str} {sp : Sp} {st : Stmt} {ps : List Str} (c : Cls K C) (D : Mtd K C m qual st) (hb : BndsOf m qual st ps) (no : ∀ vs H Q E, ¬ sp vs H Q E) : Met P w K mg base k C m sp := let ⟨f, fd, F, e⟩ := D
  ⟨f, fd, ps, ⟨fun vs H Q E h => absurd h (no vs H Q E), fun A outer s H args us vs Q E _ _ _ _ h => absurd h (no vs H Q E)⟩, c, e, F.bindsN hb⟩
end
section
variable {X : Cx} {k j : Nat} {C : Addr} {x m : Str} {sp : Sp} {p pos apos : Pos} {e o : Expr} {es : List Expr} {ta : TE} {t : TA}
theorem pc_ (c : Cal X.prog X.w X.K X.mg X.base k x sp) (hr : Room j X.A) (hk : k ≤ j) (ha : PA X (e :: es) t) (hg : Gl X x := by rfl)
    (hdb : (x == ("__debug__" : Str)) = false := by decide) (he : starEach (e :: es) X.env = (false, eval e X.env) :: starEach es X.env := by rfl) (hpl : (backTo pos (starEach es X.env)).any (·.1) = false := by rfl) :
    PE X (.Call (.Name x p) (e :: es) [] pos) (tCall sp [] E0 t) := let ⟨_, _, _, F, hm, kp, b⟩ := c; pe_call F (hr.mono hk) hg hm kp b .nil pass0 ha hdb he hpl
theorem pk_ (c : Mak X.prog X.w X.K X.mg X.base k C x sp) (hr : Room j X.A) (hk : k + 1 ≤ j) (ha : PA X (e :: es) t) (hg : Gl X x := by rfl)
    (hdb : (x == ("__debug__" : Str)) = false := by decide) (he : starEach (e :: es) X.env = (false, eval e X.env) :: starEach es X.env := by rfl) (hpl : (backTo pos (starEach es X.env)).any (·.1) = false := by rfl) :
    PE X (.Call (.Name x p) (e :: es) [] pos) (tMake C sp [] E0 t) := let ⟨_, _, _, F, hm, M, b⟩ := c; pe_make M F (hr.mono hk) hg hm b .nil pass0 ha hdb he hpl
theorem pm_ {pl : Sem Bool} (c : Met X.prog X.w X.K X.mg X.base k C m sp) (hr : Room j X.A) (hk : k ≤ j) (he : PE X o ta) (ha : PA X (e :: es) t)
    (hst : starEach (e :: es) X.env = (false, eval e X.env) :: starEach es X.env := by rfl) (hpl : (backTo pos (starEach es X.env)).any (·.1) = false := by rfl)
    (ht : eval (.Call (.Attribute o m apos) (e :: es) [] pos) X.env = (do
      let ov ← eval o X.env
      standAt apos.atName
      let (f, first) ← holding [ov] (getMethod ov m pl)
      callWith pos f first (backTo pos (starEach (e :: es) X.env)) (backToKw pos (keywordEach [] X.env))) := by rfl) :
    PE X (.Call (.Attribute o m apos) (e :: es) [] pos) (tMeth C m sp [] E0 ta t) := let ⟨_, _, _, F, hc, hm, b⟩ := c; pe_meth (pl := pl) he hc hm F (hr.mono hk) b .nil pass0 ha hst hpl ht
theorem pm0_ {pl : Sem Bool} (c : Met X.prog X.w X.K X.mg X.base k C m sp) (hr : Room j X.A) (hk : k ≤ j) (he : PE X o ta)
    (ht : eval (.Call (.Attribute o m apos) [] [] pos) X.env = (do
      let ov ← eval o X.env
      standAt apos.atName
      let (f, first) ← holding [ov] (getMethod ov m pl)
      callWith pos f first (backTo pos (starEach [] X.env)) (backToKw pos (keywordEach [] X.env))) := by rfl) :
    PE X (.Call (.Attribute o m apos) [] [] pos) (tMeth C m sp [] E0 ta tNil) := let ⟨_, _, _, F, hc, hm, b⟩ := c; pe_meth0 (pl := pl) he hc hm F (hr.mono hk) b .nil pass0 ht
end

/-! ### what the top has written -/
structure Tx (K : Fg) (w : World) (mg : Str → Option Value) : Prop where
  tuple_ : mg "tuple" = none
  len_ : mg "len" = none
  all_ : mg "all" = none
  any_ : mg "any" = none
  range_ : mg "range" = none
  enumerate_ : mg "enumerate" = none
  zip_ : mg "zip" = none
  sorted_ : mg "sorted" = none
  dict_ : mg "dict" = none
  int_ : mg "int" = none
  list_ : mg "list" = none
  isinstance_ : mg "isinstance" = none
  str_ : mg "str" = none
  letters : ∃ t, mg "LETTERS" = some (.str "abcdefghijklmnopqrstuvwxyz" t)
  longest : ∃ t, mg "LONGEST" = some (.int 8 t)
  handed : ∃ a, mg "HANDED" = some (.ref a) ∧ ∀ H, SqT K H a [.str "must", .str "may"]

/-! ### sayings as data -/
abbrev sg (c : Nat) : Str := ⟨#[c]⟩
mutual
def enc : Sy → PyData
  | .lt c => .tuple [.str "letter", .str (sg c)]
  | .nt s => .tuple [.str "not", enc s]
  | .jn true l => .tuple [.str "and", .tuple (encL l)]
  | .jn false l => .tuple [.str "or", .tuple (encL l)]
  | .so s t => .tuple [.str "so", enc s, enc t]
  | .md true h s => .tuple [.str "must", .str (sg h), enc s]
  | .md false h s => .tuple [.str "may", .str (sg h), enc s]
  | .td s t => .tuple [.str "told", enc s, enc t]
def encL : List Sy → List PyData
  | [] => []
  | s :: r => enc s :: encL r
end
theorem encL_map : ∀ l, encL l = l.map enc
  | [] => rfl
  | s :: r => by rw [encL, encL_map r]; rfl
/-- the sayings that stand in one -/
def inn : Sy → List Sy
  | .lt _ => []
  | .nt s => [s]
  | .jn _ l => l
  | .so s t => [s, t]
  | .md _ _ s => [s]
  | .td s t => [s, t]
/-- of a depth, no and, or too wide -/
def fit : Nat → Sy → Bool
  | 0, _ => false
  | _ + 1, .lt _ => true
  | n + 1, .nt s => fit n s
  | n + 1, .jn _ l => decide (l.length ≤ 100) && l.all (fit n)
  | n + 1, .so s t => fit n s && fit n t
  | n + 1, .md _ _ s => fit n s
  | n + 1, .td s t => fit n s && fit n t
theorem fit_inn {n : Nat} {s : Sy} (h : fit (n + 1) s = true) : (inn s).length ≤ 100 ∧ ∀ u, u ∈ inn s → fit n u = true := by
  cases s <;> simp only [fit, Bool.and_eq_true, decide_eq_true_eq, List.all_eq_true] at h
  · exact ⟨by simp [inn], fun u hu => by simp [inn] at hu⟩
  · exact ⟨by simp [inn], fun u hu => by simp [inn] at hu; subst hu; exact h⟩
  · exact ⟨h.1, h.2⟩
  · exact ⟨by simp [inn], fun u hu => by simp [inn] at hu; rcases hu with rfl | rfl; exact h.1; exact h.2⟩
  · exact ⟨by simp [inn], fun u hu => by simp [inn] at hu; subst hu; exact h⟩
  · exact ⟨by simp [inn], fun u hu => by simp [inn] at hu; rcases hu with rfl | rfl; exact h.1; exact h.2⟩
theorem fit_zero {s : Sy} (h : fit 0 s = true) : False := by cases h
/-- the word at its head -/
def hdw : Sy → Str
  | .lt _ => "letter"
  | .nt _ => "not"
  | .jn true _ => "and"
  | .jn false _ => "or"
  | .so _ _ => "so"
  | .md true _ _ => "must"
  | .md false _ _ => "may"
  | .td _ _ => "told"
/-- what stands behind the head -/
def tlw : Sy → List PyData
  | .lt c => [.str (sg c)]
  | .nt s => [enc s]
  | .jn _ l => [.tuple (encL l)]
  | .so s t => [enc s, enc t]
  | .md _ h s => [.str (sg h), enc s]
  | .td s t => [enc s, enc t]
theorem enc_eq (s : Sy) : enc s = .tuple (.str (hdw s) :: tlw s) := by
  cases s with
  | jn b l => cases b <;> rw [enc] <;> rfl
  | md b h s => cases b <;> rw [enc] <;> rfl
  | _ => rw [enc] <;> rfl
end Kx
/-! ## KG_Say -/
set_option Elab.async false
set_option linter.all false
set_option maxRecDepth 100000
set_option maxHeartbeats 2000000
namespace Kx
open PySem PySem.Spec PyProof.Rows L2 Evl
section
variable {P : Program} {w : World} {K : Fg} {mg : Str → Option Value} {base : Heap}
/-- what of a saying a tuple display begins with: word, first, *rest = saying -/
theorem two_tl (s : Sy) : ∃ d ds, tlw s = d :: ds := by cases s <;> exact ⟨_, _, rfl⟩
abbrev R_inner (ds : List PyData) (d : PyData) : Prop := ∃ s, ds = [enc s] ∧ d = .tuple (encL (inn s))
theorem inner_sayings_ok (T : Tx K w mg) (D : Dfn K mg "inner_sayings" s_inner_sayings) : Cal P w K mg base 1 "inner_sayings" (spR K R_inner) := by
  refine cal_of D sc_inner_sayings (fun _ _ _ _ _ _ us hl => match us, hl with | [_], _ => rfl) (spR_len fun ds d h => by obtain ⟨s, rfl, _⟩ := h; rfl) fun f cdv A outer s H vs Q E hr h => ?_
  obtain ⟨aH, gH, hH⟩ := T.handed
  refine ⟨_, pss_cons (ps_asg (pv 0) (pg_star rfl (pgs_cons (pg_name (i := 1) sc_inner_sayings.nd rfl (.inl rfl)) (pgs_cons (pg_name (i := 2) sc_inner_sayings.nd rfl (.inl rfl)) (pgs_star (pg_name (i := 3) sc_inner_sayings.nd rfl (.inl rfl)) pgs_nil)))))
    (pss_cons (ps_if (pt_cmpR op_eq (pv 1) pe_str (nomark _)) (pss_one (ps_ret (pe_tup pa_nil))) pss_nil)
    (pss_cons (ps_if (pt_cmpR op_in_seq (pv 1) (pe_tup (pa_cons pe_str (pa_cons pe_str pa_nil))) (by rfl)) (pss_one (ps_ret (pv 2))) pss_nil)
    (pss_one (ps_ret (pe_ifExp (pt_cmpR op_in_seq (pv 1) (pe_glob (v := .ref aH) rfl gH rfl) (by rfl)) (pe_callTy call_tuple_of rfl T.tuple_ (by decide +kernel) (pa_cons (pv 3) pa_nil))
      (pe_callTy call_tuple_of rfl T.tuple_ (by decide +kernel) (pa_cons (pe_op op_catL (pe_lst (pa_cons (pv 2) pa_nil)) (pv 3)) pa_nil))))))), ?_⟩
  refine ret_of h fun ds d H hd hR => ?_
  obtain ⟨s, rfl, rfl⟩ := hR
  obtain ⟨x, rfl, hx⟩ : ∃ x, vs = [x] ∧ Dp K H x (enc s) := by
    cases hd with
    | cons q r => cases r; exact ⟨_, rfl, q⟩
  rw [enc_eq] at hx
  obtain ⟨d1, ds1, e1⟩ := two_tl s
  rw [e1] at hx
  refine rd_star2 (evd_var rfl hx) fun v1 v2 v3 H1 ex h1 h2 h3 => ?_
  have w1 : decide (("letter" : Str) = "letter") = true := decide_eq_true rfl
  cases s with
  | lt c => exact rd_T (eqT (evd_var rfl h1) evd_str w1) (rd_ret (evd_is (evd_tup evds_nil) (by simp [inn, encL])))
  | jn b l =>
    have b1 : decide (hdw (.jn b l) = "letter") = false := by cases b <;> kernel_rfl
    have b2 : decide (hdw (.jn b l) ∈ (["and", "or"] : List Str)) = true := by cases b <;> kernel_rfl
    refine rd_F (eqT (evd_var rfl h1) evd_str b1) (rd_T (inT (ss := ["and", "or"]) (evd_var rfl h1) (evd_tup (evds_cons evd_str (evds_cons evd_str evds_nil))) rfl b2) ?_)
    cases e1
    exact rd_ret (evd_var rfl h2)
  | nt s =>
    cases e1
    refine rd_F (eqT (evd_var rfl h1) evd_str (by kernel_rfl)) (rd_F (inT (ss := ["and", "or"]) (evd_var rfl h1) (evd_tup (evds_cons evd_str (evds_cons evd_str evds_nil))) rfl (by kernel_rfl)) ?_)
    refine rd_ret (evd_ifF (inT (ss := ["must", "may"]) (evd_var rfl h1) (evd_c (.tup (hH _) (dpa_strs ["must", "may"]))) rfl (by kernel_rfl)) ?_)
    exact evd_is (evd_tupL (evd_catL (evd_lst (evds_cons (evd_var rfl h2) evds_nil)) (evd_var rfl h3))) (by simp [inn, encL])
  | so s t =>
    cases e1
    refine rd_F (eqT (evd_var rfl h1) evd_str (by kernel_rfl)) (rd_F (inT (ss := ["and", "or"]) (evd_var rfl h1) (evd_tup (evds_cons evd_str (evds_cons evd_str evds_nil))) rfl (by kernel_rfl)) ?_)
    refine rd_ret (evd_ifF (inT (ss := ["must", "may"]) (evd_var rfl h1) (evd_c (.tup (hH _) (dpa_strs ["must", "may"]))) rfl (by kernel_rfl)) ?_)
    exact evd_is (evd_tupL (evd_catL (evd_lst (evds_cons (evd_var rfl h2) evds_nil)) (evd_var rfl h3))) (by simp [inn, encL])
  | td s t =>
    cases e1
    refine rd_F (eqT (evd_var rfl h1) evd_str (by kernel_rfl)) (rd_F (inT (ss := ["and", "or"]) (evd_var rfl h1) (evd_tup (evds_cons evd_str (evds_cons evd_str evds_nil))) rfl (by kernel_rfl)) ?_)
    refine rd_ret (evd_ifF (inT (ss := ["must", "may"]) (evd_var rfl h1) (evd_c (.tup (hH _) (dpa_strs ["must", "may"]))) rfl (by kernel_rfl)) ?_)
    exact evd_is (evd_tupL (evd_catL (evd_lst (evds_cons (evd_var rfl h2) evds_nil)) (evd_var rfl h3))) (by simp [inn, encL])
  | md b c s =>
    have b1 : decide (hdw (.md b c s) = "letter") = false := by cases b <;> kernel_rfl
    have b2 : decide (hdw (.md b c s) ∈ (["and", "or"] : List Str)) = false := by cases b <;> kernel_rfl
    have b3 : decide (hdw (.md b c s) ∈ (["must", "may"] : List Str)) = true := by cases b <;> kernel_rfl
    cases e1
    refine rd_F (eqT (evd_var rfl h1) evd_str b1) (rd_F (inT (ss := ["and", "or"]) (evd_var rfl h1) (evd_tup (evds_cons evd_str (evds_cons evd_str evds_nil))) rfl b2) ?_)
    refine rd_ret (evd_ifT (inT (ss := ["must", "may"]) (evd_var rfl h1) (evd_c (.tup (hH _) (dpa_strs ["must", "may"]))) rfl b3) ?_)
    exact evd_is (evd_tupL (evd_var rfl h3)) (by simp [inn, encL])
theorem len_two {α : Type} : ∀ {l : List α}, l.length = 2 → ∃ a b, l = [a, b]
  | [a, b], _ => ⟨a, b, rfl⟩
/-- a saying made anew -/
def mk : Sy → List Sy → Sy
  | .nt _, [a] => .nt a
  | .jn b _, l => .jn b l
  | .so _ _, [a, b] => .so a b
  | .md b h _, [a] => .md b h a
  | .td _ _, [a, b] => .td a b
  | s, _ => s
abbrev R_made (ds : List PyData) (d : PyData) : Prop := ∃ s l, ds = [enc s, .list (encL l)] ∧ l.length = (inn s).length ∧ d = enc (mk s l)
theorem made_anew_ok (T : Tx K w mg) (D : Dfn K mg "made_anew" s_made_anew) : Cal P w K mg base 1 "made_anew" (spR K R_made) := by
  refine cal_of D sc_made_anew (fun _ _ _ _ _ _ us hl => match us, hl with | [_, _], _ => rfl) (spR_len fun ds d h => by obtain ⟨s, l, rfl, _⟩ := h; rfl) fun f cdv A outer s H vs Q E hr h => ?_
  obtain ⟨aH, gH, hH⟩ := T.handed
  refine ⟨_, pss_cons (ps_asg (pv 0) (pg_star rfl (pgs_cons (pg_name (i := 2) sc_made_anew.nd rfl (.inl rfl)) (pgs_cons (pg_name (i := 3) sc_made_anew.nd rfl (.inl rfl)) (pgs_star (pg_name (i := 4) sc_made_anew.nd rfl (.inl rfl)) pgs_nil)))))
    (pss_cons (ps_if (pt_cmpR op_eq (pv 2) pe_str (nomark _)) (pss_one (ps_ret (pv 0))) pss_nil)
    (pss_cons (ps_if (pt_cmpR op_in_seq (pv 2) (pe_tup (pa_cons pe_str (pa_cons pe_str pa_nil))) (by rfl)) (pss_one (ps_ret (pe_tup (pa_cons (pv 2) (pa_cons (pe_callTy call_tuple_of rfl T.tuple_ (by decide +kernel) (pa_cons (pv 1) pa_nil)) pa_nil))))) pss_nil)
    (pss_one (ps_ret (pe_op op_catT (pe_ifExp (pt_cmpR op_in_seq (pv 2) (pe_glob (v := .ref aH) rfl gH rfl) (by rfl)) (pe_tup (pa_cons (pv 2) (pa_cons (pv 3) pa_nil))) (pe_tup (pa_cons (pv 2) pa_nil)))
      (pe_callTy call_tuple_of rfl T.tuple_ (by decide +kernel) (pa_cons (pv 1) pa_nil))))))), ?_⟩
  refine ret_of h fun ds d H hd hR => ?_
  obtain ⟨s, l, rfl, hlen, rfl⟩ := hR
  obtain ⟨x, y, rfl, hx0, hy⟩ : ∃ x y, vs = [x, y] ∧ Dp K H x (enc s) ∧ Dp K H y (.list (encL l)) := by
    cases hd with
    | cons q r => cases r with | cons q2 r2 => cases r2; exact ⟨_, _, rfl, q, q2⟩
  have hx := hx0
  rw [enc_eq] at hx
  obtain ⟨d1, ds1, e1⟩ := two_tl s
  rw [e1] at hx
  refine rd_star2 (evd_var rfl hx) fun v1 v2 v3 H1 ex h1 h2 h3 => ?_
  have hx1 := ex.dp hx0
  have hy1 := ex.dp hy
  cases s with
  | lt c => exact rd_T (eqT (evd_var rfl h1) evd_str (by kernel_rfl)) (rd_ret (evd_var rfl hx1))
  | jn b m =>
    have b1 : decide (hdw (.jn b m) = "letter") = false := by cases b <;> kernel_rfl
    have b2 : decide (hdw (.jn b m) ∈ (["and", "or"] : List Str)) = true := by cases b <;> kernel_rfl
    refine rd_F (eqT (evd_var rfl h1) evd_str b1) (rd_T (inT (ss := ["and", "or"]) (evd_var rfl h1) (evd_tup (evds_cons evd_str (evds_cons evd_str evds_nil))) rfl b2) ?_)
    exact rd_ret (evd_is (evd_tup (evds_cons (evd_var rfl h1) (evds_cons (evd_tupL (evd_var rfl hy1)) evds_nil))) (by cases b <;> simp [mk, enc, hdw]))
  | md b c m =>
    have b1 : decide (hdw (.md b c m) = "letter") = false := by cases b <;> kernel_rfl
    have b2 : decide (hdw (.md b c m) ∈ (["and", "or"] : List Str)) = false := by cases b <;> kernel_rfl
    have b3 : decide (hdw (.md b c m) ∈ (["must", "may"] : List Str)) = true := by cases b <;> kernel_rfl
    cases e1
    obtain ⟨a, rfl⟩ : ∃ a, l = [a] := List.length_eq_one_iff.mp (by simpa [inn] using hlen)
    refine rd_F (eqT (evd_var rfl h1) evd_str b1) (rd_F (inT (ss := ["and", "or"]) (evd_var rfl h1) (evd_tup (evds_cons evd_str (evds_cons evd_str evds_nil))) rfl b2) ?_)
    refine rd_ret (evd_is (evd_catT (evd_ifT (inT (ss := ["must", "may"]) (evd_var rfl h1) (evd_c (.tup (hH _) (dpa_strs ["must", "may"]))) rfl b3) (evd_tup (evds_cons (evd_var rfl h1) (evds_cons (evd_var rfl h2) evds_nil)))) (evd_tupL (evd_var rfl hy1))
      (by simp) (by simp [encL]) (by simp [encL])) ?_)
    cases b <;> simp [mk, enc, hdw, encL]
  | nt m =>
    cases e1
    obtain ⟨a, rfl⟩ : ∃ a, l = [a] := List.length_eq_one_iff.mp (by simpa [inn] using hlen)
    refine rd_F (eqT (evd_var rfl h1) evd_str (by kernel_rfl)) (rd_F (inT (ss := ["and", "or"]) (evd_var rfl h1) (evd_tup (evds_cons evd_str (evds_cons evd_str evds_nil))) rfl (by kernel_rfl)) ?_)
    refine rd_ret (evd_is (evd_catT (evd_ifF (inT (ss := ["must", "may"]) (evd_var rfl h1) (evd_c (.tup (hH _) (dpa_strs ["must", "may"]))) rfl (by kernel_rfl)) (evd_tup (evds_cons (evd_var rfl h1) evds_nil))) (evd_tupL (evd_var rfl hy1))
      (by simp) (by simp [encL]) (by simp [encL])) ?_)
    simp [mk, enc, hdw, encL]
  | so m n =>
    cases e1
    obtain ⟨a, b, rfl⟩ : ∃ a b, l = [a, b] := len_two (by simpa [inn] using hlen)
    refine rd_F (eqT (evd_var rfl h1) evd_str (by kernel_rfl)) (rd_F (inT (ss := ["and", "or"]) (evd_var rfl h1) (evd_tup (evds_cons evd_str (evds_cons evd_str evds_nil))) rfl (by kernel_rfl)) ?_)
    refine rd_ret (evd_is (evd_catT (evd_ifF (inT (ss := ["must", "may"]) (evd_var rfl h1) (evd_c (.tup (hH _) (dpa_strs ["must", "may"]))) rfl (by kernel_rfl)) (evd_tup (evds_cons (evd_var rfl h1) evds_nil))) (evd_tupL (evd_var rfl hy1))
      (by simp) (by simp [encL]) (by simp [encL])) ?_)
    simp [mk, enc, hdw, encL]
  | td m n =>
    cases e1
    obtain ⟨a, b, rfl⟩ : ∃ a b, l = [a, b] := len_two (by simpa [inn] using hlen)
    refine rd_F (eqT (evd_var rfl h1) evd_str (by kernel_rfl)) (rd_F (inT (ss := ["and", "or"]) (evd_var rfl h1) (evd_tup (evds_cons evd_str (evds_cons evd_str evds_nil))) rfl (by kernel_rfl)) ?_)
    refine rd_ret (evd_is (evd_catT (evd_ifF (inT (ss := ["must", "may"]) (evd_var rfl h1) (evd_c (.tup (hH _) (dpa_strs ["must", "may"]))) rfl (by kernel_rfl)) (evd_tup (evds_cons (evd_var rfl h1) evds_nil))) (evd_tupL (evd_var rfl hy1))
      (by simp) (by simp [encL]) (by simp [encL])) ?_)
    simp [mk, enc, hdw, encL]
theorem mk_inn (g : Sy → Sy) (s : Sy) : mk s ((inn s).map g) = match s with
  | .lt c => .lt c
  | .nt a => .nt (g a)
  | .jn b l => .jn b (l.map g)
  | .so a b => .so (g a) (g b)
  | .md b h a => .md b h (g a)
  | .td a b => .td (g a) (g b) := by cases s <;> rfl
theorem encLm (g : Sy → Sy) (l : List Sy) : encL (l.map g) = l.map fun s => enc (g s) := by rw [encL_map, List.map_map]; rfl
theorem may_or (s : Sy) : (∃ c m, s = .md false c m) ∨ ∀ c m, s ≠ .md false c m := by
  cases s with
  | md b c m =>
    cases b with
    | false => exact .inl ⟨c, m, rfl⟩
    | true => exact .inr fun c m h => nomatch h
  | _ => exact .inr fun c m h => nomatch h
theorem not_may {s : Sy} (h : ∀ c m, s ≠ .md false c m) : decide (hdw s = "may") = false := by
  cases s with
  | md b c m =>
    cases b with
    | false => exact absurd rfl (h c m)
    | true => kernel_rfl
  | jn b l => cases b <;> kernel_rfl
  | _ => kernel_rfl
theorem co_else {s : Sy} (h : ∀ c m, s ≠ .md false c m) : co s = mk s ((inn s).map co) := by
  cases s with
  | md b c m =>
    cases b with
    | false => exact absurd rfl (h c m)
    | true => rw [co]; rfl
  | jn b l => rw [co, coL_map]; rfl
  | _ => rw [co] <;> rfl
theorem bad {b : Bool} {p : Prop} (h : b = true) (h2 : b = false) : p := by rw [h] at h2; cases h2
theorem pb_and {f s : Sy} (h : ∀ c m, s ≠ .md false c m) (q : decide (hdw s ∈ (["and", "so"] : List Str)) = true) : pb f s = mk s ((inn s).map (pb f)) := by
  cases s with
  | jn b l =>
    cases b with
    | true => rw [pb, pbL_map]; rfl
    | false => exact bad q (by kernel_rfl)
  | so a b => rw [pb]; rfl
  | md b c m => cases b <;> exact bad q (by kernel_rfl)
  | _ => exact bad q (by kernel_rfl)
theorem pb_else {f s : Sy} (h : ∀ c m, s ≠ .md false c m) (q : decide (hdw s ∈ (["and", "so"] : List Str)) = false) : pb f s = .so f (mk s ((inn s).map (pb f))) := by
  cases s with
  | md b c m =>
    cases b with
    | false => exact absurd rfl (h c m)
    | true => rw [pb]; rfl
  | jn b l =>
    cases b with
    | true => exact bad (by kernel_rfl) q
    | false => rw [pb, pbL_map]; rfl
  | so a b => exact bad (by kernel_rfl) q
  | _ => rw [pb] <;> rfl
abbrev R_core (n : Nat) (ds : List PyData) (d : PyData) : Prop := ∃ s, ds = [enc s] ∧ fit n s = true ∧ d = enc (co s)
theorem core_of_ok (D : Dfn K mg "core_of" s_core_of) (ci : Cal P w K mg base 1 "inner_sayings" (spR K R_inner)) (cm : Cal P w K mg base 1 "made_anew" (spR K R_made)) :
    ∀ n, Cal P w K mg base (n + 1) "core_of" (spR K (R_core n))
  | 0 => cal_no (N := n_core_of) (ps := p_core_of) D (fun _ _ _ _ _ _ us hl => match us, hl with | [_], _ => rfl) fun vs H Q E h => by
    obtain ⟨_, _, _, _, _, ⟨s, _, hf, _⟩, _⟩ := h
    exact fit_zero hf
  | n + 1 => by
    have ih := core_of_ok D ci cm n
    refine cal_of D sc_core_of (fun _ _ _ _ _ _ us hl => match us, hl with | [_], _ => rfl) (spR_len fun ds d h => by obtain ⟨s, rfl, _⟩ := h; rfl) fun f cdv A outer s H vs Q E hr h => ?_
    refine ⟨_, pss_cons (ps_setLc (i := 1) (own := [("one", 2)]) (g := gName 2) (tt := tYes) rfl sc_core_of.nd rfl rfl (sw_true rfl rfl rfl (by decide +kernel)) (pi_tup (pc_ ci hr (by omega) (pa_cons (pv 0) pa_nil))) (blkOk_by (N := n_core_of) (sc := defScope s_core_of) (own := [("one", 2)]) (by decide +kernel))
        (fun _ _ _ _ _ => pg_name (i := 2) sc_core_of.nd rfl (Or.inl rfl)) (fun _ _ _ _ _ => pts_nil) (fun _ _ _ _ _ => pc_ ih hr (by omega) (pa_cons (pv 2) pa_nil)))
      (pss_cons (ps_if (pt_cmpR op_eq (pe_ix ix_tup (pv 0) pe_int (fun _ _ => rfl)) pe_str (nomark _)) (pss_one (ps_ret (pe_tup (pa_cons pe_str (pa_cons (pe_tup (pa_cons pe_str (pa_cons (pe_ix ix_tup (pv 0) pe_int (fun _ _ => rfl)) (pa_cons (pe_tup (pa_cons pe_str (pa_cons (pe_ix ix_list (pv 1) pe_int (fun _ _ => rfl)) pa_nil))) pa_nil)))) pa_nil))))) pss_nil)
      (pss_one (ps_ret (pc_ cm hr (by omega) (pa_cons (pv 0) (pa_cons (pv 1) pa_nil)))))), ?_⟩
    refine ret_of h fun ds d H hd hR => ?_
    obtain ⟨s, rfl, hf, rfl⟩ := hR
    obtain ⟨x, rfl, hx⟩ : ∃ x, vs = [x] ∧ Dp K H x (enc s) := by
      cases hd with
      | cons q r => cases r; exact ⟨_, rfl, q⟩
    obtain ⟨hw, hin⟩ := fit_inn hf
    refine rd_set (evd_lcA (as := inn s) (en := enc) (fun u => enc (co u)) (ei_tup (evd_call (evds_cons (evd_var rfl hx) evds_nil) ⟨s, rfl, by rw [encL_map]⟩)) (by omega) (fun _ => rfl)
      (fun u hu y H1 e hy => evd_call (evds_cons (evd_var rfl hy) evds_nil) ⟨u, rfl, hin u hu, rfl⟩)) fun v H1 ex hv => ?_
    have hx1 := ex.dp hx
    have hx2 := hx1
    rw [enc_eq] at hx2
    rcases may_or s with ⟨c, m, rfl⟩ | hm
    · refine rd_T (eqT (evd_ixT (i := 0) (evd_var rfl hx2) evd_int rfl) evd_str (by kernel_rfl)) (rd_ret (evd_is (evd_tup (evds_cons evd_str (evds_cons (evd_tup (evds_cons evd_str (evds_cons (evd_ixT (i := 1) (evd_var rfl hx2) evd_int rfl)
          (evds_cons (evd_tup (evds_cons evd_str (evds_cons (evd_ixL (i := 0) (evd_var rfl hv) evd_int rfl) evds_nil))) evds_nil)))) evds_nil))) ?_))
      simp [co, enc]
    · refine rd_F (eqT (evd_ixT (i := 0) (evd_var rfl hx2) evd_int rfl) evd_str (not_may hm)) (rd_ret (evd_call (evds_cons (evd_var rfl hx1) (evds_cons (evd_var rfl hv) evds_nil)) ⟨_, (inn s).map co, by rw [encLm], by simp, ?_⟩))
      rw [co_else hm]
abbrev R_told (n : Nat) (ds : List PyData) (d : PyData) : Prop := ∃ s, ds = [enc s] ∧ fit n s = true ∧ fit 1000 (tt s) = true ∧ d = enc (tt s)
abbrev R_put (n : Nat) (ds : List PyData) (d : PyData) : Prop := ∃ f s, ds = [enc f, enc s] ∧ fit n s = true ∧ d = enc (pb f s)
theorem put_behind_ok (D : Dfn K mg "put_behind" s_put_behind) (ci : Cal P w K mg base 1 "inner_sayings" (spR K R_inner)) (cm : Cal P w K mg base 1 "made_anew" (spR K R_made)) :
    ∀ n, Cal P w K mg base (n + 1) "put_behind" (spR K (R_put n))
  | 0 => cal_no (N := n_put_behind) (ps := p_put_behind) D (fun _ _ _ _ _ _ us hl => match us, hl with | [_, _], _ => rfl) fun vs H Q E h => by
    obtain ⟨_, _, _, _, _, ⟨f, s, _, hf, _⟩, _⟩ := h
    exact fit_zero hf
  | n + 1 => by
    have ih := put_behind_ok D ci cm n
    refine cal_of D sc_put_behind (fun _ _ _ _ _ _ us hl => match us, hl with | [_, _], _ => rfl) (spR_len fun ds d h => by obtain ⟨f, s, rfl, _⟩ := h; rfl) fun f cdv A outer s H vs Q E hr h => ?_
    refine ⟨_, pss_cons (ps_setLc (i := 2) (own := [("one", 4)]) (g := gName 4) (tt := tYes) rfl sc_put_behind.nd rfl rfl (sw_true rfl rfl rfl (by decide +kernel)) (pi_tup (pc_ ci hr (by omega) (pa_cons (pv 1) pa_nil))) (blkOk_by (N := n_put_behind) (sc := defScope s_put_behind) (own := [("one", 4)]) (by decide +kernel))
        (fun _ _ _ _ _ => pg_name (i := 4) sc_put_behind.nd rfl (Or.inl rfl)) (fun _ _ _ _ _ => pts_nil) (fun _ _ _ _ _ => pc_ ih hr (by omega) (pa_cons (pv 0) (pa_cons (pv 4) pa_nil))))
      (pss_cons (ps_if (pt_cmpR op_eq (pe_ix ix_tup (pv 1) pe_int (fun _ _ => rfl)) pe_str (nomark _)) (pss_one (ps_ret (pe_tup (pa_cons pe_str (pa_cons (pv 0) (pa_cons (pe_tup (pa_cons pe_str (pa_cons (pe_ix ix_tup (pv 1) pe_int (fun _ _ => rfl)) (pa_cons (pe_tup (pa_cons pe_str (pa_cons (pe_tup (pa_cons (pv 0) (pa_cons (pe_ix ix_list (pv 2) pe_int (fun _ _ => rfl)) pa_nil))) pa_nil))) pa_nil)))) pa_nil)))))) pss_nil)
      (pss_cons (ps_set (i := 3) sc_put_behind.nd rfl (Or.inl rfl) (pc_ cm hr (by omega) (pa_cons (pv 1) (pa_cons (pv 2) pa_nil))))
      (pss_one (ps_ret (pe_ifExp (pt_cmpR op_in_seq (pe_ix ix_tup (pv 1) pe_int (fun _ _ => rfl)) (pe_tup (pa_cons pe_str (pa_cons pe_str pa_nil))) (by rfl)) (pv 3) (pe_tup (pa_cons pe_str (pa_cons (pv 0) (pa_cons (pv 3) pa_nil))))))))), ?_⟩
    refine ret_of h fun ds d H hd hR => ?_
    obtain ⟨g, s, rfl, hf, rfl⟩ := hR
    obtain ⟨z, x, rfl, hz, hx⟩ : ∃ z x, vs = [z, x] ∧ Dp K H z (enc g) ∧ Dp K H x (enc s) := by
      cases hd with
      | cons q r => cases r with | cons q2 r2 => cases r2; exact ⟨_, _, rfl, q, q2⟩
    obtain ⟨hw, hin⟩ := fit_inn hf
    refine rd_set (evd_lcA (as := inn s) (en := enc) (fun u => enc (pb g u)) (ei_tup (evd_call (evds_cons (evd_var rfl hx) evds_nil) ⟨s, rfl, by rw [encL_map]⟩)) (by omega) (fun _ => rfl)
      (fun u hu y H1 e hy => evd_call (evds_cons (evd_var rfl (e.dp hz)) (evds_cons (evd_var rfl hy) evds_nil)) ⟨g, u, rfl, hin u hu, rfl⟩)) fun v H1 ex hv => ?_
    have hx1 := ex.dp hx
    have hz1 := ex.dp hz
    have hx2 := hx1
    rw [enc_eq] at hx2
    rcases may_or s with ⟨c, m, rfl⟩ | hm
    · refine rd_T (eqT (evd_ixT (i := 0) (evd_var rfl hx2) evd_int rfl) evd_str (by kernel_rfl)) (rd_ret (evd_is (evd_tup (evds_cons evd_str (evds_cons (evd_var rfl hz1) (evds_cons (evd_tup (evds_cons evd_str (evds_cons (evd_ixT (i := 1) (evd_var rfl hx2) evd_int rfl)
          (evds_cons (evd_tup (evds_cons evd_str (evds_cons (evd_tup (evds_cons (evd_var rfl hz1) (evds_cons (evd_ixL (i := 0) (evd_var rfl hv) evd_int rfl) evds_nil))) evds_nil))) evds_nil)))) evds_nil)))) ?_))
      simp [pb, enc, encL]
    · refine rd_F (eqT (evd_ixT (i := 0) (evd_var rfl hx2) evd_int rfl) evd_str (not_may hm)) ?_
      refine rd_set (evd_call (evds_cons (evd_var rfl hx1) (evds_cons (evd_var rfl hv) evds_nil)) ⟨s, (inn s).map (pb g), by rw [encLm], by simp, rfl⟩) fun v3 H2 ex2 hv3 => ?_
      refine rd_ret (evd_if (inT (ss := ["and", "so"]) (evd_ixT (i := 0) (evd_var rfl (ex2.dp hx2)) evd_int rfl) (evd_tup (evds_cons evd_str (evds_cons evd_str evds_nil))) rfl rfl) (fun q => ?_) fun q => ?_)
      · exact evd_is (evd_var rfl hv3) (by rw [pb_and hm q])
      · exact evd_is (evd_tup (evds_cons evd_str (evds_cons (evd_var rfl (ex2.dp hz1)) (evds_cons (evd_var rfl hv3) evds_nil)))) (by rw [pb_else hm q, enc])
end
end Kx
/-! ## KH_Turn -/
set_option Elab.async false
set_option linter.all false
set_option maxRecDepth 100000
set_option maxHeartbeats 2000000
namespace Kx
open PySem PySem.Spec PyProof.Rows L2 Evl
theorem fit_of : ∀ (n : Nat) (s : Sy), dp s ≤ n → wide s = true → fit n s = true
  | 0, s, h, _ => by have := dp_pos s; omega
  | n + 1, .lt c, _, _ => rfl
  | n + 1, .nt s, h, w => by rw [dp] at h; rw [wide] at w; rw [fit]; exact fit_of n s (by omega) w
  | n + 1, .jn b l, h, w => by
    rw [dp] at h
    obtain ⟨w1, w2⟩ := wide_jn w
    rw [fit, Bool.and_eq_true, List.all_eq_true]
    exact ⟨decide_eq_true w1, fun s hs => fit_of n s (by have := dp_mem hs; omega) (w2 s hs)⟩
  | n + 1, .so s t, h, w => by
    rw [dp] at h; rw [wide, Bool.and_eq_true] at w
    rw [fit, fit_of n s (by omega) w.1, fit_of n t (by omega) w.2]; rfl
  | n + 1, .md b x s, h, w => by rw [dp] at h; rw [wide] at w; rw [fit]; exact fit_of n s (by omega) w
  | n + 1, .td s t, h, w => by
    rw [dp] at h; rw [wide, Bool.and_eq_true] at w
    rw [fit, fit_of n s (by omega) w.1, fit_of n t (by omega) w.2]; rfl
theorem cm_inn {s u : Sy} (h : u ∈ inn s) : cm u ≤ cm s := by
  cases s with
  | lt c => cases h
  | nt a => simp only [inn, List.mem_singleton] at h; subst h; simp only [cm]; omega
  | jn b l => have := cm_jn (b := b) (show u ∈ l from h); omega
  | so a b => simp only [inn, List.mem_cons, List.not_mem_nil, or_false] at h; simp only [cm]; rcases h with rfl | rfl <;> omega
  | md b c a => simp only [inn, List.mem_singleton] at h; subst h; simp only [cm]; omega
  | td a b => simp only [inn, List.mem_cons, List.not_mem_nil, or_false] at h; simp only [cm]; rcases h with rfl | rfl <;> omega
theorem wide_inn {s u : Sy} (w : wide s = true) (h : u ∈ inn s) : wide u = true := by
  cases s with
  | lt c => cases h
  | nt a => simp only [inn, List.mem_singleton] at h; subst h; rwa [wide] at w
  | jn b l => exact (wide_jn w).2 u h
  | so a b => rw [wide, Bool.and_eq_true] at w; simp only [inn, List.mem_cons, List.not_mem_nil, or_false] at h; rcases h with rfl | rfl; exact w.1; exact w.2
  | md b c a => simp only [inn, List.mem_singleton] at h; subst h; rwa [wide] at w
  | td a b => rw [wide, Bool.and_eq_true] at w; simp only [inn, List.mem_cons, List.not_mem_nil, or_false] at h; rcases h with rfl | rfl; exact w.1; exact w.2
theorem plain_inn {s u : Sy} (w : plain s = true) (h : u ∈ inn s) : plain u = true := by
  cases s with
  | lt c => cases h
  | nt a => simp only [inn, List.mem_singleton] at h; subst h; rwa [plain] at w
  | jn b l => exact plain_jn w u h
  | so a b => rw [plain, Bool.and_eq_true] at w; simp only [inn, List.mem_cons, List.not_mem_nil, or_false] at h; rcases h with rfl | rfl; exact w.1; exact w.2
  | md b c a => simp only [inn, List.mem_singleton] at h; subst h; rwa [plain] at w
  | td a b => rw [plain] at w; cases w
section
variable {P : Program} {w : World} {K : Fg} {mg : Str → Option Value} {base : Heap}
theorem td_or (s : Sy) : (∃ a b, s = .td a b) ∨ ∀ a b, s ≠ .td a b := by
  cases s with
  | td a b => exact .inl ⟨a, b, rfl⟩
  | _ => exact .inr fun a b h => nomatch h
theorem not_td {s : Sy} (h : ∀ a b, s ≠ .td a b) : decide (hdw s = "told") = false := by
  cases s with
  | td a b => exact absurd rfl (h a b)
  | jn b l => cases b <;> kernel_rfl
  | md b c m => cases b <;> kernel_rfl
  | _ => kernel_rfl
theorem tt_else {s : Sy} (h : ∀ a b, s ≠ .td a b) : tt s = mk s ((inn s).map tt) := by
  cases s with
  | td a b => exact absurd rfl (h a b)
  | jn b l => rw [tt, ttL_map]; rfl
  | _ => rw [tt] <;> rfl
abbrev R_tt (n : Nat) (ds : List PyData) (d : PyData) : Prop := ∃ s, ds = [enc s] ∧ fit n s = true ∧ wide s = true ∧ (plain s = true ∨ cm s ≤ 7) ∧ d = enc (tt s)
theorem told_out_ok (D : Dfn K mg "told_out" s_told_out) (c_inner_sayings : Cal P w K mg base 1 "inner_sayings" (spR K R_inner)) (c_made_anew : Cal P w K mg base 1 "made_anew" (spR K R_made))
    (c_put_behind : Cal P w K mg base 65 "put_behind" (spR K (R_put 64))) :
    ∀ n, Cal P w K mg base (n + 65) "told_out" (spR K (R_tt n))
  | 0 => cal_no (N := n_told_out) (ps := p_told_out) D (fun _ _ _ _ _ _ us hl => match us, hl with | [_], _ => rfl) fun vs H Q E h => by
    obtain ⟨_, _, _, _, _, ⟨s, _, hf, _⟩, _⟩ := h
    exact fit_zero hf
  | n + 1 => by
    have c_told_out := told_out_ok D c_inner_sayings c_made_anew c_put_behind n
    rw [show n + 1 + 65 = (n + 65) + 1 by omega]
    refine cal_of D sc_told_out (fun _ _ _ _ _ _ us hl => match us, hl with | [_], _ => rfl) (spR_len fun ds d h => by obtain ⟨s, rfl, _⟩ := h; rfl) fun f cdv A outer s H vs Q E hr h => ?_
    refine ⟨_, (pss_cons (ps_setLc (i := 1) (own := [("one", 2)]) (g := gName 2) (tt := tYes) rfl sc_told_out.nd rfl rfl (sw_true rfl rfl rfl (by decide +kernel)) (show PI _ _ _ (iTup K _) from pi_tup (pc_ c_inner_sayings hr (by omega) (pa_cons (pv 0) pa_nil))) (blkOk_by (N := n_told_out) (sc := defScope s_told_out) (own := [("one", 2)]) (by decide +kernel)) (fun _ _ _ _ _ => (pg_name (i := 2) sc_told_out.nd rfl (Or.inl rfl))) (fun _ _ _ _ _ => pts_nil) (fun _ _ _ _ _ => (pc_ c_told_out hr (by omega) (pa_cons (pv 2) pa_nil))))
        (pss_one (ps_ret (pe_ifExp (pt_cmpR op_eq (pe_ix (show IxR _ (rIxT K) from ix_tup) (pv 0) pe_int (fun _ _ => rfl)) pe_str (nomark _)) (pc_ c_put_behind hr (by omega) (pa_cons (pe_ix (show IxR _ (rIxL K) from ix_list) (pv 1) pe_int (fun _ _ => rfl)) (pa_cons (pe_ix (show IxR _ (rIxL K) from ix_list) (pv 1) pe_int (fun _ _ => rfl)) pa_nil))) (pc_ c_made_anew hr (by omega) (pa_cons (pv 0) (pa_cons (pv 1) pa_nil))))))), ?_⟩
    refine ret_of h fun ds d H hd hR => ?_
    obtain ⟨s, rfl, hf, hwd, hcm, rfl⟩ := hR
    obtain ⟨x, rfl, hx⟩ : ∃ x, vs = [x] ∧ Dp K H x (enc s) := by
      cases hd with
      | cons q r => cases r; exact ⟨_, rfl, q⟩
    obtain ⟨hw, hin⟩ := fit_inn hf
    refine rd_set (evd_lcA (as := inn s) (en := enc) (fun u => enc (tt u)) (ei_tup (evd_call (evds_cons (evd_var rfl hx) evds_nil) ⟨s, rfl, by rw [encL_map]⟩)) (by omega) (fun _ => rfl)
      (fun u hu y H1 e hy => evd_call (evds_cons (evd_var rfl hy) evds_nil) ⟨u, rfl, hin u hu, wide_inn hwd hu, hcm.imp (fun h => plain_inn h hu) fun h => Nat.le_trans (cm_inn hu) h, rfl⟩)) fun v H1 ex hv => ?_
    have hx1 := ex.dp hx
    have hx2 := hx1
    rw [enc_eq] at hx2
    rcases td_or s with ⟨a, b, rfl⟩ | hm
    · refine rd_ret (evd_ifT (eqT (evd_ixT (i := 0) (evd_var rfl hx2) evd_int rfl) evd_str (by kernel_rfl)) (evd_call (evds_cons (evd_ixL (i := 0) (evd_var rfl hv) evd_int rfl) (evds_cons (evd_ixL (i := 1) (evd_var rfl hv) evd_int rfl) evds_nil)) ⟨tt a, tt b, rfl, ?_, by rw [tt]⟩))
      rw [wide, Bool.and_eq_true] at hwd
      have hcm : cm (.td a b) ≤ 7 := hcm.resolve_left fun h => by simp [plain] at h
      rw [cm] at hcm
      refine fit_of 64 _ ?_ (wide_tt b hwd.2)
      have h1 := (tt_size b).1
      have h2 : (cm b + 1) * (cm b + 1) ≤ 7 * 7 := Nat.mul_le_mul (by omega) (by omega)
      omega
    · refine rd_ret (evd_ifF (eqT (evd_ixT (i := 0) (evd_var rfl hx2) evd_int rfl) evd_str (not_td hm)) (evd_call (evds_cons (evd_var rfl hx1) (evds_cons (evd_var rfl hv) evds_nil)) ⟨_, (inn s).map tt, by rw [encLm], by simp, ?_⟩))
      rw [tt_else hm]

theorem fw_else {s : Sy} (h1 : decide (hdw s = "or") = false) (h2 : decide (hdw s = "so") = false) (h3 : decide (hdw s = "may") = false) : fw s = mk s ((inn s).map fw) := by
  cases s with
  | jn b l =>
    cases b with
    | true => rw [fw, fwL_map]; rfl
    | false => exact bad (by kernel_rfl) h1
  | so a b => exact bad (by kernel_rfl) h2
  | md b c m =>
    cases b with
    | true => rw [fw] <;> rfl
    | false => exact bad (by kernel_rfl) h3
  | _ => rw [fw] <;> rfl
abbrev R_fw (n : Nat) (ds : List PyData) (d : PyData) : Prop := ∃ s, ds = [enc s] ∧ fit n s = true ∧ d = enc (fw s)
theorem fw_kind (s : Sy) : (∃ l, s = .jn false l) ∨ (∃ a b, s = .so a b) ∨ (∃ c m, s = .md false c m) ∨ (decide (hdw s = "or") = false ∧ decide (hdw s = "so") = false ∧ decide (hdw s = "may") = false) := by
  cases s with
  | jn b l =>
    cases b with
    | true => exact .inr (.inr (.inr ⟨by kernel_rfl, by kernel_rfl, by kernel_rfl⟩))
    | false => exact .inl ⟨l, rfl⟩
  | so a b => exact .inr (.inl ⟨a, b, rfl⟩)
  | md b c m =>
    cases b with
    | true => exact .inr (.inr (.inr ⟨by kernel_rfl, by kernel_rfl, by kernel_rfl⟩))
    | false => exact .inr (.inr (.inl ⟨c, m, rfl⟩))
  | _ => exact .inr (.inr (.inr ⟨by kernel_rfl, by kernel_rfl, by kernel_rfl⟩))
theorem in_few_words_ok (T : Tx K w mg) (D : Dfn K mg "in_few_words" s_in_few_words) (c_inner_sayings : Cal P w K mg base 1 "inner_sayings" (spR K R_inner)) (c_made_anew : Cal P w K mg base 1 "made_anew" (spR K R_made)) :
    ∀ n, Cal P w K mg base (n + 1) "in_few_words" (spR K (R_fw n))
  | 0 => cal_no (N := n_in_few_words) (ps := p_in_few_words) D (fun _ _ _ _ _ _ us hl => match us, hl with | [_], _ => rfl) fun vs H Q E h => by
    obtain ⟨_, _, _, _, _, ⟨s, _, hf, _⟩, _⟩ := h
    exact fit_zero hf
  | n + 1 => by
    have c_in_few_words := in_few_words_ok T D c_inner_sayings c_made_anew n
    refine cal_of D sc_in_few_words (fun _ _ _ _ _ _ us hl => match us, hl with | [_], _ => rfl) (spR_len fun ds d h => by obtain ⟨s, rfl, _⟩ := h; rfl) fun f cdv A outer s H vs Q E hr h => ?_
    refine ⟨_, (pss_cons (ps_setLc (i := 1) (own := [("one", 2)]) (g := gName 2) (tt := tYes) rfl sc_in_few_words.nd rfl rfl (sw_true rfl rfl rfl (by decide +kernel)) (show PI _ _ _ (iTup K _) from pi_tup (pc_ c_inner_sayings hr (by omega) (pa_cons (pv 0) pa_nil))) (blkOk_by (N := n_in_few_words) (sc := defScope s_in_few_words) (own := [("one", 2)]) (by decide +kernel)) (fun _ _ _ _ _ => (pg_name (i := 2) sc_in_few_words.nd rfl (Or.inl rfl))) (fun _ _ _ _ _ => pts_nil) (fun _ _ _ _ _ => (pc_ c_in_few_words hr (by omega) (pa_cons (pv 2) pa_nil))))
        (pss_cons (ps_if (pt_cmpR op_eq (pe_ix (show IxR _ (rIxT K) from ix_tup) (pv 0) pe_int (fun _ _ => rfl)) pe_str (nomark _)) (pss_one (ps_ret (pe_tup (pa_cons pe_str (pa_cons (pe_tup (pa_cons pe_str (pa_cons (pe_callTy call_tuple_of rfl T.tuple_ (by decide +kernel) (pa_cons (pe_lc (own := [("one", 2)]) (g := gName 2) (tt := tYes) rfl sc_in_few_words.nd (show PI _ _ _ (iList K _) from pi_list (pv 1)) (blkOk_by (N := n_in_few_words) (sc := defScope s_in_few_words) (own := [("one", 2)]) (by decide +kernel)) (fun _ _ _ _ _ => (pg_name (i := 2) sc_in_few_words.nd rfl (Or.inl rfl))) (fun _ _ _ _ _ => pts_nil) (fun _ _ _ _ _ => (pe_tup (pa_cons pe_str (pa_cons (pv 2) pa_nil))))) pa_nil)) pa_nil))) pa_nil))))) pss_nil)
        (pss_cons (ps_if (pt_cmpR op_eq (pe_ix (show IxR _ (rIxT K) from ix_tup) (pv 0) pe_int (fun _ _ => rfl)) pe_str (nomark _)) (pss_one (ps_ret (pe_tup (pa_cons pe_str (pa_cons (pe_tup (pa_cons pe_str (pa_cons (pe_tup (pa_cons (pe_ix (show IxR _ (rIxL K) from ix_list) (pv 1) pe_int (fun _ _ => rfl)) (pa_cons (pe_tup (pa_cons pe_str (pa_cons (pe_ix (show IxR _ (rIxL K) from ix_list) (pv 1) pe_int (fun _ _ => rfl)) pa_nil))) pa_nil))) pa_nil))) pa_nil))))) pss_nil)
        (pss_cons (ps_if (pt_cmpR op_eq (pe_ix (show IxR _ (rIxT K) from ix_tup) (pv 0) pe_int (fun _ _ => rfl)) pe_str (nomark _)) (pss_one (ps_ret (pe_tup (pa_cons pe_str (pa_cons (pe_tup (pa_cons pe_str (pa_cons (pe_ix (show IxR _ (rIxT K) from ix_tup) (pv 0) pe_int (fun _ _ => rfl)) (pa_cons (pe_tup (pa_cons pe_str (pa_cons (pe_ix (show IxR _ (rIxL K) from ix_list) (pv 1) pe_int (fun _ _ => rfl)) pa_nil))) pa_nil)))) pa_nil))))) pss_nil)
        (pss_one (ps_ret (pc_ c_made_anew hr (by omega) (pa_cons (pv 0) (pa_cons (pv 1) pa_nil))))))))), ?_⟩
    refine ret_of h fun ds d H hd hR => ?_
    obtain ⟨s, rfl, hf, rfl⟩ := hR
    obtain ⟨x, rfl, hx⟩ : ∃ x, vs = [x] ∧ Dp K H x (enc s) := by
      cases hd with
      | cons q r => cases r; exact ⟨_, rfl, q⟩
    obtain ⟨hw, hin⟩ := fit_inn hf
    refine rd_set (evd_lcA (as := inn s) (en := enc) (fun u => enc (fw u)) (ei_tup (evd_call (evds_cons (evd_var rfl hx) evds_nil) ⟨s, rfl, by rw [encL_map]⟩)) (by omega) (fun _ => rfl)
      (fun u hu y H1 e hy => evd_call (evds_cons (evd_var rfl hy) evds_nil) ⟨u, rfl, hin u hu, rfl⟩)) fun v H1 ex hv => ?_
    have hx1 := ex.dp hx
    have hx2 := hx1
    rw [enc_eq] at hx2
    have t0 : EvD K (tOp (rIxT K) (tVar 0) (tC (.int 0))) _ H1 (.str (hdw s)) := evd_ixT (i := 0) (σ := [some x, some v, none]) (evd_var rfl hx2) evd_int rfl
    rcases fw_kind s with ⟨l, rfl⟩ | ⟨a, b, rfl⟩ | ⟨c, m, rfl⟩ | ⟨q1, q2, q3⟩
    · refine rd_T (eqT t0 evd_str (by kernel_rfl)) (rd_ret (evd_is (evd_tup (evds_cons evd_str (evds_cons (evd_tup (evds_cons evd_str (evds_cons
        (evd_tupL (evd_lcA (as := l.map fw) (en := enc) (fun u => enc (.nt u)) (ei_lst (evd_is (evd_var rfl hv) (by rw [List.map_map]; rfl))) (by rw [List.length_map]; simp [inn] at hw; omega) (fun _ => rfl)
          (fun u hu y H2 e hy => evd_is (evd_tup (evds_cons evd_str (evds_cons (evd_var rfl hy) evds_nil))) (by rw [enc])))) evds_nil))) evds_nil))) ?_))
      simp [fw, enc, fwN_map, encL_map]
    · refine rd_F (eqT t0 evd_str (by kernel_rfl)) (rd_T (eqT t0 evd_str (by kernel_rfl)) (rd_ret (evd_is (evd_tup (evds_cons evd_str (evds_cons (evd_tup (evds_cons evd_str (evds_cons
        (evd_tup (evds_cons (evd_ixL (i := 0) (evd_var rfl hv) evd_int rfl) (evds_cons (evd_tup (evds_cons evd_str (evds_cons (evd_ixL (i := 1) (evd_var rfl hv) evd_int rfl) evds_nil))) evds_nil))) evds_nil))) evds_nil))) ?_)))
      simp [fw, enc, encL]
    · refine rd_F (eqT t0 evd_str (by kernel_rfl)) (rd_F (eqT t0 evd_str (by kernel_rfl)) (rd_T (eqT t0 evd_str (by kernel_rfl)) (rd_ret (evd_is (evd_tup (evds_cons evd_str (evds_cons (evd_tup (evds_cons evd_str (evds_cons (evd_ixT (i := 1) (evd_var rfl hx2) evd_int rfl)
          (evds_cons (evd_tup (evds_cons evd_str (evds_cons (evd_ixL (i := 0) (evd_var rfl hv) evd_int rfl) evds_nil))) evds_nil)))) evds_nil))) ?_))))
      simp [fw, enc]
    · refine rd_F (eqT t0 evd_str q1) (rd_F (eqT t0 evd_str q2) (rd_F (eqT t0 evd_str q3) (rd_ret (evd_call (evds_cons (evd_var rfl hx1) (evds_cons (evd_var rfl hv) evds_nil)) ⟨_, (inn s).map fw, by rw [encLm], by simp, ?_⟩))))
      rw [fw_else q1 q2 q3]

/-! ### the module's dicts -/
structure Ty (K : Fg) (w : World) (mg : Str → Option Value) : Prop where
  ABOUT : ∃ a, mg "ABOUT" = some (.ref a) ∧ KDct K w a "and" (.str "or") ∧ KDct K w a "or" (.str "and") ∧ KDct K w a "must" (.str "may") ∧ KDct K w a "may" (.str "must")
section
variable {σ : L2.St} {H : Hp} {ta tb : TE} {d : PyData}
theorem evd_ixK {a : Addr} {z : Str} {v : V} (kd : KDct K w a z v) (hd : ∀ H, Dp K H v d) (h2 : EvD K tb σ H (.str z)) : EvD K (tOp (rIxD K w) (tC (.ref a)) tb) σ H d := fun F H1 p q Q k =>
  h2 F H1 p q _ fun y H2 b hy => by
    obtain rfl := of_dp_str hy
    exact ⟨a, z, v, rfl, rfl, kd, k _ H2 b (hd _)⟩
theorem of_one {vs : List V} (hd : DpAll K H vs [d]) : ∃ x, vs = [x] ∧ Dp K H x d := by
  cases hd with
  | cons q r => cases r; exact ⟨_, rfl, q⟩
theorem of_two {vs : List V} {e : PyData} (hd : DpAll K H vs [d, e]) : ∃ x y, vs = [x, y] ∧ Dp K H x d ∧ Dp K H y e := by
  cases hd with
  | cons q r => cases r with | cons q2 r2 => cases r2; exact ⟨_, _, rfl, q, q2⟩
theorem of_three {vs : List V} {e g : PyData} (hd : DpAll K H vs [d, e, g]) : ∃ x y z, vs = [x, y, z] ∧ Dp K H x d ∧ Dp K H y e ∧ Dp K H z g := by
  cases hd with
  | cons q r =>
    obtain ⟨y, z, rfl, h1, h2⟩ := of_two r
    exact ⟨_, _, _, rfl, q, h1, h2⟩
theorem of_four {vs : List V} {e g i : PyData} (hd : DpAll K H vs [d, e, g, i]) : ∃ x y z u, vs = [x, y, z, u] ∧ Dp K H x d ∧ Dp K H y e ∧ Dp K H z g ∧ Dp K H u i := by
  cases hd with
  | cons q r =>
    obtain ⟨y, z, u, rfl, h1, h2, h3⟩ := of_three r
    exact ⟨_, _, _, _, rfl, q, h1, h2, h3⟩
end
abbrev R_push (n : Nat) (ds : List PyData) (d : PyData) : Prop := ∃ s b, ds = [enc s, .bool b] ∧ fit n s = true ∧ plain s = true ∧ d = enc (pu b s)
theorem pushed_ok (T : Tx K w mg) (Y : Ty K w mg) (D : Dfn K mg "pushed" s_pushed) : ∀ n, Cal P w K mg base (n + 1) "pushed" (spR K (R_push n))
  | 0 => cal_no (N := n_pushed) (ps := p_pushed) D (fun _ _ _ _ _ _ us hl => match us, hl with | [_, _], _ => rfl) fun vs H Q E h => by
    obtain ⟨_, _, _, _, _, ⟨s, _, _, hf, _⟩, _⟩ := h
    exact fit_zero hf
  | n + 1 => by
    have c_pushed := pushed_ok T Y D n
    refine cal_of D sc_pushed (fun _ _ _ _ _ _ us hl => match us, hl with | [_, _], _ => rfl) (spR_len fun ds d h => by obtain ⟨s, b, rfl, _⟩ := h; rfl) fun f cdv A outer s H vs Q E hr h => ?_
    obtain ⟨aABOUT, gABOUT, k1, k2, k3, k4⟩ := Y.ABOUT
    refine ⟨_, (pss_cons (ps_asg (pv 0) (pg_star rfl (pgs_cons (pg_name (i := 2) sc_pushed.nd rfl (Or.inl rfl)) (pgs_cons (pg_name (i := 3) sc_pushed.nd rfl (Or.inl rfl)) (pgs_star (pg_name (i := 4) sc_pushed.nd rfl (Or.inl rfl)) pgs_nil)))))
        (pss_cons (ps_if (pt_cmpR op_eq (pv 2) pe_str (nomark _)) (pss_one (ps_ret (pe_ifExp (pt_val (pv 1)) (pv 0) (pe_tup (pa_cons pe_str (pa_cons (pv 0) pa_nil)))))) pss_nil)
        (pss_cons (ps_if (pt_cmpR op_eq (pv 2) pe_str (nomark _)) (pss_one (ps_ret (pc_ c_pushed hr (by omega) (pa_cons (pv 3) (pa_cons (pe_not (pv 1)) pa_nil))))) pss_nil)
        (pss_cons (ps_if (pt_cmpR op_eq (pv 2) pe_str (nomark _)) (pss_cons (ps_set (i := 5) sc_pushed.nd rfl (Or.inl rfl) (pe_tup (pa_cons (pc_ c_pushed hr (by omega) (pa_cons (pv 3) (pa_cons (pe_not (pv 1)) pa_nil))) (pa_cons (pc_ c_pushed hr (by omega) (pa_cons (pe_ix (show IxR _ (rIxL K) from ix_list) (pv 4) pe_int (fun _ _ => rfl)) (pa_cons (pv 1) pa_nil))) pa_nil))))
        (pss_one (ps_ret (pe_ifExp (pt_val (pv 1)) (pe_tup (pa_cons pe_str (pa_cons (pv 5) pa_nil))) (pe_tup (pa_cons pe_str (pa_cons (pv 5) pa_nil))))))) pss_nil)
        (pss_cons (ps_set (i := 6) sc_pushed.nd rfl (Or.inl rfl) (pe_ifExp (pt_val (pv 1)) (pv 2) (pe_ix ix_kdict (pe_glob (v := .ref aABOUT) rfl gABOUT rfl) (pv 2) (fun _ _ => rfl))))
        (pss_cons (ps_if (pt_cmpR (show OpR _ _ (rIn K false) from op_in_seq) (pv 2) (pe_tup (pa_cons pe_str (pa_cons pe_str pa_nil))) (by rfl)) (pss_one (ps_ret (pe_tup (pa_cons (pv 6) (pa_cons (pe_callTy call_tuple_of rfl T.tuple_ (by decide +kernel) (pa_cons (pe_lc (own := [("one", 7)]) (g := gName 7) (tt := tYes) rfl sc_pushed.nd (show PI _ _ _ (iTup K _) from pi_tup (pv 3)) (blkOk_by (N := n_pushed) (sc := defScope s_pushed) (own := [("one", 7)]) (by decide +kernel)) (fun _ _ _ _ _ => (pg_name (i := 7) sc_pushed.nd rfl (Or.inl rfl))) (fun _ _ _ _ _ => pts_nil) (fun _ _ _ _ _ => (pc_ c_pushed hr (by omega) (pa_cons (pv 7) (pa_cons (pv 1) pa_nil))))) pa_nil)) pa_nil))))) pss_nil)
        (pss_one (ps_ret (pe_tup (pa_cons (pv 6) (pa_cons (pv 3) (pa_cons (pc_ c_pushed hr (by omega) (pa_cons (pe_ix (show IxR _ (rIxL K) from ix_list) (pv 4) pe_int (fun _ _ => rfl)) (pa_cons (pv 1) pa_nil))) pa_nil)))))))))))), ?_⟩
    refine ret_of h fun ds d H hd hR => ?_
    obtain ⟨s, b, rfl, hf, hp, rfl⟩ := hR
    obtain ⟨x, y, rfl, hx0, hy⟩ := of_two hd
    obtain ⟨hw, hin⟩ := fit_inn hf
    have hx := hx0
    rw [enc_eq] at hx
    obtain ⟨d1, ds1, e1⟩ := two_tl s
    rw [e1] at hx
    refine rd_star2 (evd_var rfl hx) fun v1 v2 v3 H1 ex h1 h2 h3 => ?_
    have hx1 := ex.dp hx0
    have hy1 := ex.dp hy
    cases s with
    | lt c =>
      refine rd_T (eqT (evd_var rfl h1) evd_str (by kernel_rfl)) (rd_ret ?_)
      cases b
      · exact evd_ifF (et_dB (evd_var rfl hy1)) (evd_is (evd_tup (evds_cons evd_str (evds_cons (evd_var rfl hx1) evds_nil))) (by simp [pu, enc]))
      · exact evd_ifT (et_dB (evd_var rfl hy1)) (evd_is (evd_var rfl hx1) (by simp [pu]))
    | nt m =>
      cases e1
      refine rd_F (eqT (evd_var rfl h1) evd_str (by kernel_rfl)) (rd_T (eqT (evd_var rfl h1) evd_str (by kernel_rfl)) (rd_ret ?_))
      exact evd_call (evds_cons (evd_var rfl h2) (evds_cons (evd_not (evd_var rfl hy1)) evds_nil)) ⟨m, !b, rfl, hin m (by simp [inn]), by simpa [plain] using hp, by rw [pu]⟩
    | so m n' =>
      cases e1
      rw [plain] at hp
      obtain ⟨p1, p2⟩ := and_of hp
      refine rd_F (eqT (evd_var rfl h1) evd_str (by kernel_rfl)) (rd_F (eqT (evd_var rfl h1) evd_str (by kernel_rfl)) (rd_T (eqT (evd_var rfl h1) evd_str (by kernel_rfl)) ?_))
      refine rd_set (evd_tup (evds_cons (evd_call (evds_cons (evd_var rfl h2) (evds_cons (evd_not (evd_var rfl hy1)) evds_nil)) ⟨m, !b, rfl, hin m (by simp [inn]), p1, rfl⟩)
        (evds_cons (evd_call (evds_cons (evd_ixL (i := 0) (evd_var rfl h3) evd_int rfl) (evds_cons (evd_var rfl hy1) evds_nil)) ⟨n', b, rfl, hin n' (by simp [inn]), p2, rfl⟩) evds_nil))) fun v5 H2 ex2 h5 => ?_
      have hy2 := ex2.dp hy1
      cases b
      · exact rd_ret (evd_ifF (et_dB (evd_var rfl hy2)) (evd_is (evd_tup (evds_cons evd_str (evds_cons (evd_var rfl h5) evds_nil))) (by simp [pu, enc, encL])))
      · exact rd_ret (evd_ifT (et_dB (evd_var rfl hy2)) (evd_is (evd_tup (evds_cons evd_str (evds_cons (evd_var rfl h5) evds_nil))) (by simp [pu, enc, encL])))
    | jn c l =>
      cases e1
      have b1 : decide (hdw (.jn c l) = "letter") = false := by cases c <;> kernel_rfl
      have b2 : decide (hdw (.jn c l) = "not") = false := by cases c <;> kernel_rfl
      have b3 : decide (hdw (.jn c l) = "so") = false := by cases c <;> kernel_rfl
      have b4 : decide (hdw (.jn c l) ∈ (["and", "or"] : List Str)) = true := by cases c <;> kernel_rfl
      have tw : ∀ y, Dp K H1 y (.bool b) → EvD K (tIf (tB (tVar 1)) (tVar 2) (tOp (rIxD K w) (tC (.ref aABOUT)) (tVar 2))) [some x, some y, some v1, some v2, some v3, none, none, none] H1 (.str (hdw (.jn (if b then c else !c) []))) := fun y hy => by
        cases b
        · refine evd_ifF (et_dB (evd_var rfl hy)) ?_
          cases c
          · exact evd_ixK k2 (fun _ => .str _) (evd_var rfl h1)
          · exact evd_ixK k1 (fun _ => .str _) (evd_var rfl h1)
        · exact evd_ifT (et_dB (evd_var rfl hy)) (evd_is (evd_var rfl h1) (by cases c <;> rfl))
      refine rd_F (eqT (evd_var rfl h1) evd_str b1) (rd_F (eqT (evd_var rfl h1) evd_str b2) (rd_F (eqT (evd_var rfl h1) evd_str b3) (rd_set (tw y hy1) fun v6 H2 ex2 h6 => ?_)))
      have h1' := ex2.dp h1
      have h2' := ex2.dp h2
      have hy2 := ex2.dp hy1
      refine rd_T (inT (ss := ["and", "or"]) (evd_var rfl h1') (evd_tup (evds_cons evd_str (evds_cons evd_str evds_nil))) rfl b4) ?_
      refine rd_ret (evd_is (evd_tup (evds_cons (evd_var rfl h6) (evds_cons (evd_tupL (evd_lcA (as := l) (en := enc) (fun u => enc (pu b u)) (ei_tup (evd_is (evd_var rfl h2') (by rw [encL_map]))) (by simp [inn] at hw; omega) (fun _ => rfl)
        (fun u hu z H3 e hz => evd_call (evds_cons (evd_var rfl hz) (evds_cons (evd_var rfl (e.dp hy2)) evds_nil)) ⟨u, b, rfl, hin u hu, plain_jn hp u hu, rfl⟩))) evds_nil))) ?_)
      rw [pu, enc_eq (.jn _ _)]
      simp only [tlw, puL_map, encLm]
      cases b <;> cases c <;> rfl
    | md c hh m =>
      cases e1
      have b1 : decide (hdw (.md c hh m) = "letter") = false := by cases c <;> kernel_rfl
      have b2 : decide (hdw (.md c hh m) = "not") = false := by cases c <;> kernel_rfl
      have b3 : decide (hdw (.md c hh m) = "so") = false := by cases c <;> kernel_rfl
      have b4 : decide (hdw (.md c hh m) ∈ (["and", "or"] : List Str)) = false := by cases c <;> kernel_rfl
      have tw : ∀ y, Dp K H1 y (.bool b) → EvD K (tIf (tB (tVar 1)) (tVar 2) (tOp (rIxD K w) (tC (.ref aABOUT)) (tVar 2))) [some x, some y, some v1, some v2, some v3, none, none, none] H1 (.str (hdw (.md (if b then c else !c) hh m))) := fun y hy => by
        cases b
        · refine evd_ifF (et_dB (evd_var rfl hy)) ?_
          cases c
          · exact evd_ixK k4 (fun _ => .str _) (evd_var rfl h1)
          · exact evd_ixK k3 (fun _ => .str _) (evd_var rfl h1)
        · exact evd_ifT (et_dB (evd_var rfl hy)) (evd_is (evd_var rfl h1) (by cases c <;> rfl))
      refine rd_F (eqT (evd_var rfl h1) evd_str b1) (rd_F (eqT (evd_var rfl h1) evd_str b2) (rd_F (eqT (evd_var rfl h1) evd_str b3) (rd_set (tw y hy1) fun v6 H2 ex2 h6 => ?_)))
      have h1' := ex2.dp h1
      have h2' := ex2.dp h2
      have h3' := ex2.dp h3
      have hy2 := ex2.dp hy1
      refine rd_F (inT (ss := ["and", "or"]) (evd_var rfl h1') (evd_tup (evds_cons evd_str (evds_cons evd_str evds_nil))) rfl b4) ?_
      refine rd_ret (evd_is (evd_tup (evds_cons (evd_var rfl h6) (evds_cons (evd_var rfl h2') (evds_cons (evd_call (evds_cons (evd_ixL (i := 0) (evd_var rfl h3') evd_int rfl) (evds_cons (evd_var rfl hy2) evds_nil)) ⟨m, b, rfl, hin m (by simp [inn]), by simpa [plain] using hp, rfl⟩) evds_nil)))) ?_)
      rw [pu, enc_eq (.md _ _ _)]
      cases b <;> cases c <;> rfl
    | td a b => rw [plain] at hp; cases hp
abbrev R_pushin (n : Nat) (ds : List PyData) (d : PyData) : Prop := ∃ s, ds = [enc s] ∧ fit n s = true ∧ plain s = true ∧ d = enc (pu true s)
theorem pushed_in_ok (D : Dfn K mg "pushed_in" s_pushed_in) (n : Nat) (c_pushed : Cal P w K mg base (n + 1) "pushed" (spR K (R_push n))) : Cal P w K mg base (n + 2) "pushed_in" (spR K (R_pushin n)) := by
  refine cal_of D sc_pushed_in (fun _ _ _ _ _ _ us hl => match us, hl with | [_], _ => rfl) (spR_len fun ds d h => by obtain ⟨s, rfl, _⟩ := h; rfl) fun f cdv A outer s H vs Q E hr h => ?_
  refine ⟨_, (pss_one (ps_ret (pc_ c_pushed hr (by omega) (pa_cons (pv 0) (pa_cons pe_bl pa_nil))))), ?_⟩
  refine ret_of h fun ds d H hd hR => ?_
  obtain ⟨s, rfl, hf, hp, rfl⟩ := hR
  obtain ⟨x, rfl, hx⟩ := of_one hd
  exact rd_ret (evd_call (evds_cons (evd_var rfl hx) (evds_cons evd_bl evds_nil)) ⟨s, true, rfl, hf, hp, rfl⟩)
end
end Kx
/-! ## KI_Text -/
set_option Elab.async false
set_option linter.all false
set_option maxRecDepth 100000
set_option maxHeartbeats 2000000
/-! Sayings as texts: written. -/
namespace Kx
open PySem PySem.Spec PyProof.Rows L2 Evl
open SX (S S_len S_cat)
abbrev sn (b : Bool) : Nat := if b then 38 else 124
section
variable {X : Cx}
/-- the signs of a text of two signs, one target each -/
theorem two_items {pins : List (Addr × Obj)} {σ : L2.St} {H : Hp} {s : Shared} {x y : Nat} {t : Tok} {E : Value → Shared → Prop} {Q : List Value → Shared → Prop} (I : Inv X pins σ H s) (hc : X.calm = true) (hx : x < 128) (hy : y < 128)
    (k : ∀ us s', Inv X pins σ H s' → Vals [.str (S [x]), .str (S [y])] us → Q us s') :
    wpAny (model X.prog X.w) X.A (unpackItems (.str (S [x, y]) t) 2 none) Q E s := by
  have hh := I.ok.hd hc
  have ha : (S [x, y]).cps.all (· < 128) = true := by simp [S, hx, hy]
  unfold unpackItems
  refine wpAny_bind ?_
  unfold notIterableAtAll
  refine wpAny_bind (wpAny_specialOf (typeIs_str s _ t) F.slot_str_iter.lookup (wpAny_pure ?_))
  simp only [Bool.false_eq_true, if_false]
  refine wpAny_bind (wpAny_holding (wpAny_pyIter_ascii ha ?_))
  refine wpAny_bind (wpAny_holding ?_)
  show wpAny _ _ (pyNext (.ref s.heap.objs.size) >>= _) _ _ _
  have it0 : (s.heap.push { cls := .type "str_ascii_iterator", data := .fields #[.str (S [x, y]) t, .int 0 0] }).IsStrIter s.heap.objs.size "str_ascii_iterator" (S [x, y]) t 0 := ⟨_, Heap.get?_push_size _ rfl, rfl, rfl⟩
  refine wpAny_bind (wpAny_pyNext_ascii_item it0 (c := x) rfl fun h1 it1 sb1 => ?_)
  dsimp only
  refine wpAny_bind (wpAny_holding ?_)
  show wpAny _ _ (pyNext (.ref s.heap.objs.size) >>= _) _ _ _
  refine wpAny_bind (wpAny_pyNext_ascii_item it1 (c := y) rfl fun h2 it2 sb2 => ?_)
  dsimp only
  refine wpAny_bind (wpAny_holding ?_)
  show wpAny _ _ (pure []) _ _ _
  refine wpAny_pure (wpAny_pure (wpAny_pure ?_))
  rw [if_neg (by simp)]
  refine wpAny_bind (wpAny_holding (wpAny_pyNext_ascii_end hh it2 rfl fun h3 eb => ?_))
  simp only [Option.isSome_none, Bool.false_eq_true, if_false]
  refine wpAny_pure (k _ _ ?_ (.cons ⟨_, rfl⟩ (.cons ⟨_, rfl⟩ .nil)))
  exact I.kept fun b o e => by
    have hb := Nat.ne_of_lt (Heap.lt_size e)
    exact eb b o hb (sb2.extBut b o hb (sb1.extBut b o hb (Heap.get?_push_of_some _ e)))
def gTwo (t : TGs) : TG := fun v σ H Q => ∃ x y : Nat, v = .str (S [x, y]) ∧ x < 128 ∧ y < 128 ∧ t [.str (S [x]), .str (S [y])] σ H Q
theorem pg_two {es : List Expr} {k : Nat} {pos : Pos} {t : TGs} (hc : X.calm = true) (h : PGs X es t) (hn : (assignEach es X.env).length = 2 := by rfl) (hst : (assignEach es X.env).findIdx? (·.1) = none := by rfl) :
    PG X (.Tuple es k pos) (gTwo t) := by
  refine ⟨fun pins s σ H v u Q I r hw => ?_⟩
  obtain ⟨x, y, rfl, hx, hy, hw⟩ := hw
  obtain ⟨tk, rfl⟩ := r
  rw [assign_Tuple]
  refine wpAny_bind (wpAny_standAt ?_)
  unfold unpack
  rw [hn, hst]
  exact wpAny_bind (wpAny_holding (two_items I hc hx hy fun us s1 I1 rv => h.run pins s1 σ _ _ us Q I1 rv hw))
end
theorem rd_two {K : Fg} {σ : L2.St} {H : Hp} {te : TE} {tz : TS} {d : PyData} {i j x y : Nat} (h : EvD K te σ H (.str (S [x, y]))) (hx : x < 128) (hy : y < 128) (k : RetD K tz ((σ.set i (some (.str (S [x])))).set j (some (.str (S [y])))) H d) :
    RetD K (tSeq (tAsg te (gTwo (gCons (gName i) (gCons (gName j) gNil)))) tz) σ H d := fun F H1 p a D q =>
  h F H1 p a _ fun v H2 b hv => by
    obtain rfl := of_dp_str hv
    exact ⟨x, y, rfl, hx, hy, _, _, rfl, _, _, rfl, rfl, k F _ (p.mono b) (a.trans (del_ex b)) D fun w H3 c hw => q w H3 (b.trans c) hw⟩
mutual
def tx : Sy → List Nat
  | .lt c => [c]
  | .nt s => 126 :: tx s
  | .jn b [] => [if b then 84 else 70]
  | .jn b (a :: []) => 40 :: sn b :: (tx a ++ [41])
  | .jn b (a :: c :: r) => 40 :: (tx a ++ (sn b :: (tx c ++ (txR b r ++ [41]))))
  | .so s t => 40 :: (tx s ++ 62 :: (tx t ++ [41]))
  | .md true h s => 91 :: h :: 93 :: tx s
  | .md false h s => 60 :: h :: 62 :: tx s
  | .td s t => 123 :: (tx s ++ 125 :: tx t)
def txR (b : Bool) : List Sy → List Nat
  | [] => []
  | s :: r => sn b :: (tx s ++ txR b r)
end
theorem joinL_tx (b : Bool) : ∀ (a : Sy) (l : List Sy), TL.joinL [sn b] ((a :: l).map tx) = tx a ++ txR b l
  | a, [] => by rw [txR]; simp [TL.joinL]
  | a, c :: r => by
    have ih := joinL_tx b c r
    rw [List.map_cons, List.map_cons] at *
    rw [TL.joinL, ih, txR]
    simp
    all_goals simp
theorem txR_sum (b : Bool) : ∀ l : List Sy, (l.map fun s => (tx s).length).sum + l.length = (txR b l).length
  | [] => by simp [txR]
  | s :: r => by
    have := txR_sum b r
    simp only [List.map_cons, List.sum_cons, List.length_cons, txR, List.length_append]
    omega
theorem txR_mem {b : Bool} : ∀ {l : List Sy} {s : Sy}, s ∈ l → (tx s).length ≤ (txR b l).length
  | a :: r, s, h => by
    rw [txR, List.length_cons, List.length_append]
    rcases List.mem_cons.mp h with rfl | h
    · omega
    · have := txR_mem (b := b) h
      omega
theorem tx_inn {s u : Sy} (h : u ∈ inn s) : (tx u).length < (tx s).length := by
  cases s with
  | lt c => cases h
  | nt a => simp only [inn, List.mem_singleton] at h; subst h; simp [tx]
  | jn b l =>
    cases l with
    | nil => cases h
    | cons a r =>
      cases r with
      | nil => simp only [inn, List.mem_singleton] at h; subst h; simp [tx]; omega
      | cons c r =>
        simp only [inn, List.mem_cons] at h
        rcases h with rfl | rfl | h
        · simp [tx]; omega
        · simp [tx]; omega
        · have := txR_mem (b := b) h
          simp [tx]; omega
  | so a b => simp only [inn, List.mem_cons, List.not_mem_nil, or_false] at h; rcases h with rfl | rfl <;> simp [tx] <;> omega
  | md b c a => simp only [inn, List.mem_singleton] at h; subst h; cases b <;> simp [tx] <;> omega
  | td a b => simp only [inn, List.mem_cons, List.not_mem_nil, or_false] at h; rcases h with rfl | rfl <;> simp [tx] <;> omega
section
variable {P : Program} {w : World} {K : Fg} {mg : Str → Option Value} {base : Heap} {σ : L2.St} {H : Hp} {ta tb te : TE} {d : PyData}
theorem evd_cS {z : Str} {l : List Nat} (h : z = S l) : EvD K (tC (.str z)) σ H (.str (S l)) := h ▸ evd_str
abbrev rAddS : R2 := fun x y H Q => ∃ i j, x = .str i ∧ y = .str j ∧ i.length + j.length ≤ sizeLine ∧ Q (.str (i ++ j)) H
theorem evd_addS {a b : List Nat} (h : EvD K ta σ H (.str (S a))) (h2 : EvD K tb σ H (.str (S b))) (hl : a.length + b.length ≤ 10000000) : EvD K (tOp rAddS ta tb) σ H (.str (S (a ++ b))) := fun F H1 p e _ k =>
  two h h2 p e fun v w H2 c _ hv hw => by
    obtain rfl := of_dp_str hv
    obtain rfl := of_dp_str hw
    refine ⟨_, _, rfl, rfl, by rw [S_len, S_len]; exact Nat.le_trans hl (by decide), ?_⟩
    rw [S_cat]
    exact k _ H2 c (.str _)
abbrev rInK (K : Fg) (a : Addr) : R2 := fun x y H Q => ∃ (z : Str) (r : Option Value), x = .str z ∧ y = .ref a ∧ PySem.W.nsIn K a z = some r ∧ Q (.bl r.isSome) H
abbrev rNotInK (K : Fg) (a : Addr) : R2 := fun x y H Q => ∃ (z : Str) (r : Option Value), x = .str z ∧ y = .ref a ∧ PySem.W.nsIn K a z = some r ∧ Q (.bl (!r.isSome)) H
/-- is z a key of the module's dict -/
def HasK (K : Fg) (a : Addr) (z : Str) (b : Bool) : Prop := ∃ r, PySem.W.nsIn K a z = some r ∧ r.isSome = b
theorem inK {a : Addr} {z : Str} {b : Bool} (h : EvD K ta σ H (.str z)) (q : HasK K a z b) : EvB (tTest (tOp (rInK K a) ta (tC (.ref a)))) σ H b := by
  obtain ⟨r, hr, rfl⟩ := q
  exact et_d (K := K) fun F H1 p e _ k => h F H1 p e _ fun v H2 c hv => by
    obtain rfl := of_dp_str hv
    exact ⟨z, r, rfl, rfl, hr, k _ H2 c (.bl _)⟩
theorem evd_join {a : List Nat} {ys : List (List Nat)} (h : EvD K ta σ H (.str (S a))) (h2 : EvD K tb σ H (.list (ys.map fun y => .str (S y)))) (hl : (ys.map (·.length)).sum + ys.length * a.length ≤ 16777216) :
    EvD K (tM1 (fun x xs H Q => ∃ a p, ∃ ys : List Str, x = .str a ∧ xs = [.ref p] ∧ (SqL K H p (ys.map V.str) ∨ SqT K H p (ys.map V.str)) ∧
      (ys.map (·.length)).sum + ys.length * a.length ≤ 16777216 ∧ Q (.str (Txt.join a ys)) H) ta tb) σ H (.str (S (TL.joinL a ys))) := fun F H1 p e Q k =>
  h F H1 p e _ fun v H2 c hv => by
    obtain rfl := of_dp_str hv
    refine ⟨⟨_, rfl⟩, h2 F H2 (p.mono c) (e.trans (del_ex c)) _ fun w H3 c2 hw => ?_⟩
    obtain ⟨q, xs, rfl, hs, hxs⟩ := of_dp_lst hw
    have e1 : (ys.map fun y => PyData.str (S y)) = (ys.map S).map PyData.str := by rw [List.map_map]; rfl
    rw [e1] at hxs
    obtain rfl := of_dpa_strs _ hxs
    refine ⟨S a, q, ys.map S, rfl, rfl, .inl (ex_l del_le hs), by rw [SX.lens, List.length_map, S_len]; exact hl, ?_⟩
    rw [SX.join_S]
    exact k _ H3 (c.trans c2) (.str _)
theorem rd_pair {i j : Nat} {d1 d2 d : PyData} {tz : TS} (h : EvD K te σ H (.tuple [d1, d2]))
    (k : ∀ v1 v2 H', Ex H H' → Dp K H' v1 d1 → Dp K H' v2 d2 → RetD K tz ((σ.set i (some v1)).set j (some v2)) H' d) :
    RetD K (tSeq (tAsg te (gTup K 2 (gCons (gName i) (gCons (gName j) gNil)))) tz) σ H d := fun F H1 p a D q =>
  h F H1 p a _ fun v H2 b hv => by
    obtain ⟨x, xs, rfl, hs, hxs⟩ := of_dp_tup hv
    obtain ⟨y, z, rfl, h1, h2⟩ := of_two hxs
    exact ⟨x, _, rfl, ex_t del_le hs, rfl, _, _, rfl, _, _, rfl, rfl, k _ _ _ (a.trans (del_ex b)) h1 h2 F _ (p.mono b) (Ex.refl _) D fun w H3 c hw => q w H3 (b.trans c) hw⟩
/-- the texts' dicts -/
structure Tv (K : Fg) (w : World) (mg : Str → Option Value) : Prop where
  SIGNS : ∃ a es n, mg "SIGNS" = some (.ref a) ∧ KDict K w a es n ∧ KDct K w a "and" (.str "&") ∧ KDct K w a "or" (.str (S [124])) ∧ HasK K a "and" true ∧ HasK K a "or" true ∧ HasK K a "so" false ∧ HasK K a "told" false ∧ HasK K a "must" false ∧ HasK K a "may" false
  VOID : ∃ a, mg "VOID" = some (.ref a) ∧ KDct K w a "and" (.str "T") ∧ KDct K w a "or" (.str "F")
  AROUND : ∃ a, mg "AROUND" = some (.ref a) ∧ KDct K w a "must" (.str (S [91, 93])) ∧ KDct K w a "may" (.str (S [60, 62]))
theorem kd_str {a : Addr} {z x y : Str} (h : KDct K w a z (.str x)) (e : x = y) : KDct K w a z (.str y) := e ▸ h
abbrev R_some (n : Nat) (ds : List PyData) (d : PyData) : Prop := ∃ b l, ds = [.str (hdw (.jn b l)), .tuple (encL l)] ∧ l.length ≤ 100 ∧ (∀ u, u ∈ l → fit n u = true) ∧ (tx (.jn b l)).length ≤ 1000000 ∧ d = .str (S (tx (.jn b l)))
abbrev R_text (n : Nat) (ds : List PyData) (d : PyData) : Prop := ∃ s, ds = [enc s] ∧ fit n s = true ∧ (tx s).length ≤ 1000000 ∧ d = .str (S (tx s))
theorem some_text_ok (T : Tx K w mg) (Z : Tv K w mg) (D : Dfn K mg "some_text" s_some_text) {n k : Nat} (c_saying_text : Cal P w K mg base k "saying_text" (spR K (R_text n))) : Cal P w K mg base (k + 1) "some_text" (spR K (R_some n)) := by
  refine cal_of D sc_some_text (fun _ _ _ _ _ _ us hl => match us, hl with | [_, _], _ => rfl) (spR_len fun ds d h => by obtain ⟨b, l, rfl, _⟩ := h; rfl) fun f cdv A outer s H vs Q E hr h => ?_
  obtain ⟨aVOID, gVOID, kv1, kv2⟩ := Z.VOID
  obtain ⟨aSIGNS, es, m, gSIGNS, kSIGNS, ks1, ks2, _⟩ := Z.SIGNS
  refine ⟨_, (pss_cons (ps_if (pt_cmpR op_eq (pe_callB call_len_seq rfl T.len_ PySem.boot_len (pa_cons (pv 1) pa_nil)) pe_int (nomark _)) (pss_one (ps_ret (pe_ix ix_kdict (pe_glob (v := .ref aVOID) rfl gVOID rfl) (pv 0) (fun _ _ => rfl)))) pss_nil)
        (pss_cons (ps_setLc (i := 2) (own := [("one", 3)]) (g := gName 3) (tt := tYes) rfl sc_some_text.nd rfl rfl (sw_true rfl rfl rfl (by decide +kernel)) (show PI _ _ _ (iTup K _) from pi_tup (pv 1)) (blkOk_by (N := n_some_text) (sc := defScope s_some_text) (own := [("one", 3)]) (by decide +kernel)) (fun _ _ _ _ _ => (pg_name (i := 3) sc_some_text.nd rfl (Or.inl rfl))) (fun _ _ _ _ _ => pts_nil) (fun _ _ _ _ _ => (pc_ c_saying_text hr (by omega) (pa_cons (pv 3) pa_nil))))
        (pss_cons (ps_if (pt_cmpR op_eq (pe_callB call_len_seq rfl T.len_ PySem.boot_len (pa_cons (pv 2) pa_nil)) pe_int (nomark _)) (pss_one (ps_ret (pe_op op_add_str (pe_op op_add_str (pe_op op_add_str pe_str (pe_ix ix_kdict (pe_glob (v := .ref aSIGNS) rfl gSIGNS rfl) (pv 0) (fun _ _ => rfl))) (pe_ix (show IxR _ (rIxL K) from ix_list) (pv 2) pe_int (fun _ _ => rfl))) pe_str))) pss_nil)
        (pss_one (ps_ret (pe_op op_add_str (pe_op op_add_str pe_str (pe_join (pe_ix ix_kdict (pe_glob (v := .ref aSIGNS) rfl gSIGNS rfl) (pv 0) (fun _ _ => rfl)) (pv 2))) pe_str)))))), ?_⟩
  refine ret_of h fun ds d H hd hR => ?_
  obtain ⟨b, l, rfl, hw, hin, hlen, rfl⟩ := hR
  obtain ⟨x, y, rfl, hx, hy⟩ := of_two hd
  have sg : ∀ σ H, EvD K (tVar 0) σ H (.str (hdw (.jn b l))) → EvD K (tOp (rIxD K w) (tC (.ref aSIGNS)) (tVar 0)) σ H (.str (S [sn b])) := fun σ H h => by
    cases b
    · exact evd_ixK (kd_str ks2 (by kernel_rfl)) (fun _ => .str _) h
    · exact evd_ixK (kd_str ks1 (by kernel_rfl)) (fun _ => .str _) h
  have q1 : ("(" : Str) = S [40] := by kernel_rfl
  have q2 : (")" : Str) = S [41] := by kernel_rfl
  cases l with
  | nil =>
    refine rd_T (eb_is (et_d (evd_eqI (evd_len (evd_var rfl hy) (show seqD _ = some _ from rfl)) evd_int)) (by simp [encL])) (rd_ret ?_)
    rw [tx]
    cases b
    · exact evd_ixK (kd_str kv2 (by kernel_rfl)) (fun _ => .str _) (evd_var rfl hx)
    · exact evd_ixK (kd_str kv1 (by kernel_rfl)) (fun _ => .str _) (evd_var rfl hx)
  | cons a r =>
    refine rd_F (eb_is (et_d (evd_eqI (evd_len (evd_var rfl hy) (show seqD _ = some _ from rfl)) evd_int)) (decide_eq_false (by rw [encL, List.length_cons]; omega))) ?_
    have inl : ∀ u, u ∈ a :: r → (tx u).length ≤ 1000000 := fun u hu => by have := tx_inn (s := .jn b (a :: r)) (u := u) hu; omega
    refine rd_set (evd_lcA (as := a :: r) (en := enc) (fun u => .str (S (tx u))) (ei_tup (evd_is (evd_var rfl hy) (by rw [encL_map]))) (by omega) (fun _ => rfl)
      (fun u hu z H3 e hz => evd_call (evds_cons (evd_var rfl hz) evds_nil) ⟨u, rfl, hin u hu, inl u hu, rfl⟩)) fun v2 H1 ex h2 => ?_
    have hx1 := ex.dp hx
    cases r with
    | nil =>
      rw [tx] at hlen ⊢
      simp only [List.length_cons, List.length_append, List.length_nil] at hlen
      refine rd_T (eb_is (et_d (evd_eqI (evd_len (evd_var rfl h2) (show seqD _ = some _ from rfl)) evd_int)) (by simp)) (rd_ret (evd_is (evd_addS (evd_addS (evd_addS (evd_cS q1) (sg _ _ (evd_var rfl hx1)) (by simp)) (evd_ixL (i := 0) (evd_var rfl h2) evd_int rfl) ?_) (evd_cS q2) ?_) ?_))
      · simp; omega
      · simp; omega
      · simp
    | cons c r =>
      have e1 : tx (.jn b (a :: c :: r)) = 40 :: (TL.joinL [sn b] ((a :: c :: r).map tx) ++ [41]) := by rw [joinL_tx, tx, txR]; simp
      have hs := txR_sum b (a :: c :: r)
      rw [tx] at hlen
      simp only [List.length_cons, List.length_append, List.length_nil, txR, List.map_cons, List.sum_cons] at hlen hs
      refine rd_F (eb_is (et_d (evd_eqI (evd_len (evd_var rfl h2) (show seqD _ = some _ from rfl)) evd_int)) (decide_eq_false (by simp only [List.length_map, List.length_cons]; omega))) (rd_ret (evd_is (evd_addS (evd_addS (evd_cS q1) (evd_join (ys := (a :: c :: r).map tx) (sg _ _ (evd_var rfl hx1)) (evd_is (evd_var rfl h2) (by rw [List.map_map]; rfl)) ?_) ?_) (evd_cS q2) ?_) ?_))
      · rw [List.map_map]
        simp only [List.map_cons, List.sum_cons, List.length_map, List.length_cons, List.length_nil, Function.comp_apply]
        have e2 : (List.map (List.length ∘ tx) r) = r.map fun s => (tx s).length := rfl
        rw [e2]
        omega
      · rw [joinL_tx, txR]; simp; omega
      · rw [joinL_tx, txR]; simp; omega
      · rw [e1]; simp
theorem saying_text_ok (T : Tx K w mg) (Z : Tv K w mg) (D : Dfn K mg "saying_text" s_saying_text) (D2 : Dfn K mg "some_text" s_some_text) : ∀ n, Cal P w K mg base (2 * n + 1) "saying_text" (spR K (R_text n))
  | 0 => cal_no (N := n_saying_text) (ps := p_saying_text) D (fun _ _ _ _ _ _ us hl => match us, hl with | [_], _ => rfl) fun vs H Q E h => by
    obtain ⟨_, _, _, _, _, ⟨s, _, hf, _⟩, _⟩ := h
    exact fit_zero hf
  | n + 1 => by
    have c_saying_text := saying_text_ok T Z D D2 n
    have c_some_text := some_text_ok T Z D2 c_saying_text
    refine cal_of (k := 2 * n + 2) D sc_saying_text (fun _ _ _ _ _ _ us hl => match us, hl with | [_], _ => rfl) (spR_len fun ds d h => by obtain ⟨s, rfl, _⟩ := h; rfl) fun f cdv A outer s H vs Q E hr h => ?_
    obtain ⟨aSIGNS, es, m, gSIGNS, kSIGNS, _, _, ks1, ks2, ks3, ks4, ks5, ks6⟩ := Z.SIGNS
    obtain ⟨aAROUND, gAROUND, ka1, ka2⟩ := Z.AROUND
    refine ⟨_, (pss_cons (ps_asg (pv 0) (pg_star rfl (pgs_cons (pg_name (i := 1) sc_saying_text.nd rfl (Or.inl rfl)) (pgs_cons (pg_name (i := 2) sc_saying_text.nd rfl (Or.inl rfl)) (pgs_star (pg_name (i := 3) sc_saying_text.nd rfl (Or.inl rfl)) pgs_nil)))))
        (pss_cons (ps_if (pt_cmpR op_eq (pv 1) pe_str (nomark _)) (pss_one (ps_ret (pv 2))) pss_nil)
        (pss_cons (ps_if (pt_cmpR op_eq (pv 1) pe_str (nomark _)) (pss_one (ps_ret (pe_op op_add_str pe_str (pc_ c_saying_text hr (by omega) (pa_cons (pv 2) pa_nil))))) pss_nil)
        (pss_cons (ps_if (pt_cmpR (op_in_kd kSIGNS) (pv 1) (pe_glob (v := .ref aSIGNS) rfl gSIGNS rfl) (by rfl)) (pss_one (ps_ret (pc_ c_some_text hr (by omega) (pa_cons (pv 1) (pa_cons (pv 2) pa_nil))))) pss_nil)
        (pss_cons (ps_if (pt_cmpR op_eq (pv 1) pe_str (nomark _)) (pss_one (ps_ret (pe_op op_add_str (pe_op op_add_str (pe_op op_add_str (pe_op op_add_str pe_str (pc_ c_saying_text hr (by omega) (pa_cons (pv 2) pa_nil))) pe_str) (pc_ c_saying_text hr (by omega) (pa_cons (pe_ix (show IxR _ (rIxL K) from ix_list) (pv 3) pe_int (fun _ _ => rfl)) pa_nil))) pe_str))) pss_nil)
        (pss_cons (ps_if (pt_cmpR op_eq (pv 1) pe_str (nomark _)) (pss_one (ps_ret (pe_op op_add_str (pe_op op_add_str (pe_op op_add_str pe_str (pc_ c_saying_text hr (by omega) (pa_cons (pv 2) pa_nil))) pe_str) (pc_ c_saying_text hr (by omega) (pa_cons (pe_ix (show IxR _ (rIxL K) from ix_list) (pv 3) pe_int (fun _ _ => rfl)) pa_nil))))) pss_nil)
        (pss_cons (ps_asg (pe_ix ix_kdict (pe_glob (v := .ref aAROUND) rfl gAROUND rfl) (pv 1) (fun _ _ => rfl)) (pg_two rfl (pgs_cons (pg_name (i := 4) sc_saying_text.nd rfl (Or.inl rfl)) (pgs_cons (pg_name (i := 5) sc_saying_text.nd rfl (Or.inl rfl)) pgs_nil))))
        (pss_one (ps_ret (pe_op op_add_str (pe_op op_add_str (pe_op op_add_str (pv 4) (pv 2)) (pv 5)) (pc_ c_saying_text hr (by omega) (pa_cons (pe_ix (show IxR _ (rIxL K) from ix_list) (pv 3) pe_int (fun _ _ => rfl)) pa_nil)))))))))))), ?_⟩
    refine ret_of h fun ds d H hd hR => ?_
    obtain ⟨s, rfl, hf, hlen, rfl⟩ := hR
    obtain ⟨x, rfl, hx0⟩ := of_one hd
    obtain ⟨hw, hin⟩ := fit_inn hf
    have inl : ∀ u, u ∈ inn s → (tx u).length ≤ 1000000 := fun u hu => by have := tx_inn hu; omega
    have hx := hx0
    rw [enc_eq] at hx
    obtain ⟨d1, ds1, e1⟩ := two_tl s
    rw [e1] at hx
    refine rd_star2 (evd_var rfl hx) fun v1 v2 v3 H1 ex h1 h2 h3 => ?_
    have q0 : ("~" : Str) = S [126] := by kernel_rfl
    have q1 : ("(" : Str) = S [40] := by kernel_rfl
    have q2 : (")" : Str) = S [41] := by kernel_rfl
    have q3 : (">" : Str) = S [62] := by kernel_rfl
    have q4 : ("{" : Str) = S [123] := by kernel_rfl
    have q5 : ("}" : Str) = S [125] := by kernel_rfl
    have q6 : ("[" : Str) = S [91] := by kernel_rfl
    have q7 : ("]" : Str) = S [93] := by kernel_rfl
    have q8 : ("<" : Str) = S [60] := by kernel_rfl
    cases s with
    | lt c =>
      cases e1
      exact rd_T (eqT (evd_var rfl h1) evd_str (by kernel_rfl)) (rd_ret (evd_var rfl h2))
    | nt m =>
      cases e1
      have l1 := inl m (by simp [inn])
      refine rd_F (eqT (evd_var rfl h1) evd_str (by kernel_rfl)) (rd_T (eqT (evd_var rfl h1) evd_str (by kernel_rfl)) (rd_ret (evd_is (evd_addS (evd_cS q0) (evd_call (evds_cons (evd_var rfl h2) evds_nil) ⟨m, rfl, hin m (by simp [inn]), l1, rfl⟩) (by simp; omega)) (by simp [tx]))))
    | jn b l =>
      cases e1
      have b1 : decide (hdw (.jn b l) = "letter") = false := by cases b <;> kernel_rfl
      have b2 : decide (hdw (.jn b l) = "not") = false := by cases b <;> kernel_rfl
      have hk : HasK K aSIGNS (hdw (.jn b l)) true := by cases b; exact ks2; exact ks1
      refine rd_F (eqT (evd_var rfl h1) evd_str b1) (rd_F (eqT (evd_var rfl h1) evd_str b2) (rd_T (inK (evd_var rfl h1) hk) (rd_ret ?_)))
      exact evd_call (evds_cons (evd_var rfl h1) (evds_cons (evd_var rfl h2) evds_nil)) ⟨b, l, rfl, hw, hin, hlen, rfl⟩
    | so m n' =>
      cases e1
      have l1 := inl m (by simp [inn])
      have l2 := inl n' (by simp [inn])
      refine rd_F (eqT (evd_var rfl h1) evd_str (by kernel_rfl)) (rd_F (eqT (evd_var rfl h1) evd_str (by kernel_rfl)) (rd_F (inK (evd_var rfl h1) ks3) (rd_T (eqT (evd_var rfl h1) evd_str (by kernel_rfl)) (rd_ret ?_))))
      refine evd_is (evd_addS (evd_addS (evd_addS (evd_addS (evd_cS q1) (evd_call (evds_cons (evd_var rfl h2) evds_nil) ⟨m, rfl, hin m (by simp [inn]), l1, rfl⟩) (by simp; omega)) (evd_cS q3) (by simp; omega))
        (evd_call (evds_cons (evd_ixL (i := 0) (evd_var rfl h3) evd_int rfl) evds_nil) ⟨n', rfl, hin n' (by simp [inn]), l2, rfl⟩) (by simp; omega)) (evd_cS q2) (by simp; omega)) (by simp [tx])
    | td m n' =>
      cases e1
      have l1 := inl m (by simp [inn])
      have l2 := inl n' (by simp [inn])
      refine rd_F (eqT (evd_var rfl h1) evd_str (by kernel_rfl)) (rd_F (eqT (evd_var rfl h1) evd_str (by kernel_rfl)) (rd_F (inK (evd_var rfl h1) ks4) (rd_F (eqT (evd_var rfl h1) evd_str (by kernel_rfl)) (rd_T (eqT (evd_var rfl h1) evd_str (by kernel_rfl)) (rd_ret ?_)))))
      refine evd_is (evd_addS (evd_addS (evd_addS (evd_cS q4) (evd_call (evds_cons (evd_var rfl h2) evds_nil) ⟨m, rfl, hin m (by simp [inn]), l1, rfl⟩) (by simp; omega)) (evd_cS q5) (by simp; omega))
        (evd_call (evds_cons (evd_ixL (i := 0) (evd_var rfl h3) evd_int rfl) evds_nil) ⟨n', rfl, hin n' (by simp [inn]), l2, rfl⟩) (by simp; omega)) (by simp [tx])
    | md c hh m =>
      cases e1
      have l1 := inl m (by simp [inn])
      have b1 : decide (hdw (.md c hh m) = "letter") = false := by cases c <;> kernel_rfl
      have b2 : decide (hdw (.md c hh m) = "not") = false := by cases c <;> kernel_rfl
      have b3 : decide (hdw (.md c hh m) = "so") = false := by cases c <;> kernel_rfl
      have b4 : decide (hdw (.md c hh m) = "told") = false := by cases c <;> kernel_rfl
      have hk : HasK K aSIGNS (hdw (.md c hh m)) false := by cases c; exact ks6; exact ks5
      refine rd_F (eqT (evd_var rfl h1) evd_str b1) (rd_F (eqT (evd_var rfl h1) evd_str b2) (rd_F (inK (evd_var rfl h1) hk) (rd_F (eqT (evd_var rfl h1) evd_str b3) (rd_F (eqT (evd_var rfl h1) evd_str b4) ?_))))
      cases c
      · refine rd_two (evd_ixK ka2 (fun _ => .str _) (evd_var rfl h1)) (by decide) (by decide) ?_
        refine rd_ret (evd_is (evd_addS (evd_addS (evd_addS (evd_var rfl (.str (S [60]))) (b := [hh]) (evd_var rfl h2) (by simp)) (evd_var rfl (.str (S [62]))) (by simp))
          (evd_call (evds_cons (evd_ixL (i := 0) (evd_var rfl h3) evd_int rfl) evds_nil) ⟨m, rfl, hin m (by simp [inn]), l1, rfl⟩) (by simp; omega)) (by simp [tx]))
      · refine rd_two (evd_ixK ka1 (fun _ => .str _) (evd_var rfl h1)) (by decide) (by decide) ?_
        refine rd_ret (evd_is (evd_addS (evd_addS (evd_addS (evd_var rfl (.str (S [91]))) (b := [hh]) (evd_var rfl h2) (by simp)) (evd_var rfl (.str (S [93]))) (by simp))
          (evd_call (evds_cons (evd_ixL (i := 0) (evd_var rfl h3) evd_int rfl) evds_nil) ⟨m, rfl, hin m (by simp [inn]), l1, rfl⟩) (by simp; omega)) (by simp [tx]))
end
end Kx
/-! ## KJ_Raw -/
set_option Elab.async false
set_option linter.all false
set_option maxRecDepth 100000
set_option maxHeartbeats 1000000
/-! Values by what they are, promises by what their values are, loops over data with private things. -/
namespace Kx
open PySem PySem.Spec PyProof.Rows L2 Evl
/-- evaluates to a value of which P holds -/
def EvP (te : TE) (σ : L2.St) (H : Hp) (P : Hp → V → Prop) : Prop := ∀ F H1, Prv F H1 → Ex H (del H1 F) → ∀ Q : VK, (∀ v H2, Ex H1 H2 → P (del H2 F) v → Q v H2) → te σ H1 Q
/-- kept while the heap grows -/
def Mon (P : Hp → V → Prop) : Prop := ∀ H H' v, Ex H H' → P H v → P H' v
/-- the promise of a def: R says of the arguments what holds of its value -/
def spV (R : Hp → List V → (Hp → V → Prop) → Prop) : Sp := fun vs H Q _ => ∃ F P, Prv F H ∧ R (del H F) vs P ∧ ∀ v H2, Ex H H2 → P (del H2 F) v → Q v H2
/-- a block hands back a value of which P holds -/
def RetP (t : TS) (σ : L2.St) (H : Hp) (P : Hp → V → Prop) : Prop := ∀ F H1, Prv F H1 → Ex H (del H1 F) → ∀ D : Ends, (∀ v H2, Ex H1 H2 → P (del H2 F) v → D.rt v H2) → t D σ H1
section
variable {K : Fg} {σ σ2 : L2.St} {H H' H1 Hb : Hp} {ta tb te tx : TE} {t u : TT} {x y z v : V} {d e : PyData} {ds es : List PyData} {g : TG} {P P2 : Hp → V → Prop}
theorem EvP.mono (q : Ex H H') (h : EvP te σ H P) : EvP te σ H' P := fun F H1 p a Q k => h F H1 p (q.trans a) Q k
theorem RetP.mono {t : TS} (q : Ex H H') (h : RetP t σ H P) : RetP t σ H' P := fun F H1 p a Q k => h F H1 p (q.trans a) Q k
theorem evp_of (h : EvD K te σ H d) : EvP te σ H fun H v => Dp K H v d := h
theorem evd_of (h : EvP te σ H fun H v => Dp K H v d) : EvD K te σ H d := h
theorem evp_imp (h : EvP te σ H P) (q : ∀ H v, P H v → P2 H v) : EvP te σ H P2 := fun F H1 p a Q k => h F H1 p a Q fun v H2 b hv => k v H2 b (q _ _ hv)
theorem evp_var {i : Nat} (h : σ[i]? = some (some v)) (m : Mon P) (hp : P H v) : EvP (tVar i) σ H P := fun F H1 p a Q k => ⟨v, h, k v H1 (Ex.refl H1) (m _ _ _ a hp)⟩
theorem rp_ret (h : EvP te σ H P) : RetP (tRet te) σ H P := fun F H1 p a D k => h F H1 p a _ k
theorem rp_set {i : Nat} {tz : TS} (h : EvP te σ H P2) (k : ∀ v H', Ex H H' → P2 H' v → RetP tz (σ.set i (some v)) H' P) : RetP (tSeq (tAsg te (gName i)) tz) σ H P := fun F H1 p a D q =>
  h F H1 p a _ fun v H2 b hv => k v (del H2 F) (a.trans (del_ex b)) hv F H2 (p.mono b) (Ex.refl _) D fun w H3 c hw => q w H3 (b.trans c) hw
theorem rp_of {t : TS} (h : RetD K t σ H d) : RetP t σ H fun H v => Dp K H v d := h
theorem rd_of {t : TS} (h : RetP t σ H fun H v => Dp K H v d) : RetD K t σ H d := h
/-- a value of any kind kept in a name, the block handing back a datum -/
theorem rd_setP {i : Nat} {tz : TS} (h : EvP te σ H P2) (k : ∀ v H', Ex H H' → P2 H' v → RetD K tz (σ.set i (some v)) H' d) : RetD K (tSeq (tAsg te (gName i)) tz) σ H d := fun F H1 p a D q =>
  h F H1 p a _ fun v H2 b hv => k v (del H2 F) (a.trans (del_ex b)) hv F H2 (p.mono b) (Ex.refl _) D fun w H3 c hw => q w H3 (b.trans c) hw
/-- a def's body from the promise -/
theorem retP_of {R : Hp → List V → (Hp → V → Prop) → Prop} {t : TS} {vs : List V} {Q : VK} {E : XK} {σ : L2.St} {nx : L2.St → Hp → Prop} (h : spV R vs H Q E) (k : ∀ P H, R H vs P → RetP t σ H P) : t { nx := nx, rt := Q } σ H := by
  obtain ⟨F, P, p, hr, q⟩ := h
  exact k P _ hr F H p (Ex.refl _) _ q
theorem spV_len {R : Hp → List V → (Hp → V → Prop) → Prop} {n : Nat} (hR : ∀ H vs P, R H vs P → vs.length = n) : ∀ vs H Q E, spV R vs H Q E → vs.length = n := fun vs H Q E h => by
  obtain ⟨F, P, p, hr, q⟩ := h
  exact hR _ _ _ hr
/-- a call of it -/
theorem evp_call {R : Hp → List V → (Hp → V → Prop) → Prop} {E : XK} {tr : TA} (h : EvDs K tr σ H ds) (hr : ∀ H' vs, Ex H H' → DpAll K H' vs ds → R H' vs P) : EvP (tCall (spV R) [] E tr) σ H P := fun F H1 p a Q k =>
  h F H1 p a _ fun vs H2 b hvs => ⟨F, P, p.mono b, by rw [List.append_nil]; exact hr _ _ (a.trans (del_ex b)) hvs, fun v H3 c hv => k v H3 (b.trans c) hv⟩
/-- a method's call: the receiver an instance -/
theorem evp_meth {R : Hp → List V → (Hp → V → Prop) → Prop} {E : XK} {C : Addr} {m : Str} {tr : TA} (h0 : EvP ta σ H P2) (hi : ∀ H' v, P2 H' v → ∃ a dx fs, v = .ref a ∧ H' a = some (.ins C dx fs) ∧ fs.lookup m = none) (m2 : Mon P2) (h : EvDs K tr σ H ds)
    (hr : ∀ H' v vs, Ex H H' → P2 H' v → DpAll K H' vs ds → R H' (v :: vs) P) : EvP (tMeth C m (spV R) [] E ta tr) σ H P := fun F H1 p a Q k =>
  h0 F H1 p a _ fun v H2 b hv => by
    obtain ⟨q, dx, fs, rfl, hq, hl⟩ := hi _ _ hv
    refine ⟨q, dx, fs, rfl, del_le _ _ hq, hl, h F H2 (p.mono b) (a.trans (del_ex b)) _ fun vs H3 c hvs => ⟨F, P, (p.mono b).mono c, ?_, fun w H4 c2 hw => k w H4 (b.trans (c.trans c2)) hw⟩⟩
    rw [List.append_nil]
    exact hr _ _ _ (a.trans ((del_ex b).trans (del_ex c))) (m2 _ _ _ (del_ex c) hv) hvs
/-- a number that a field holds, and any other -/
theorem evp_fld {C : Addr} {f : Str} (h0 : EvP ta σ H P2) (hc : Cls K C) (hn : NoAttr K C f) (hi : ∀ H' v, P2 H' v → ∃ a dx fs w, v = .ref a ∧ H' a = some (.ins C dx fs) ∧ fs.lookup f = some w ∧ P H' w) : EvP (tFld K ta f) σ H P := fun F H1 p a Q k =>
  h0 F H1 p a _ fun v H2 b hv => by
    obtain ⟨q, dx, fs, w, rfl, hq, hl, hw⟩ := hi _ _ hv
    exact ⟨q, C, dx, fs, w, rfl, del_le _ _ hq, hc, hn, hl, k w H2 b hw⟩

/-! ### for over data; what is private may change from turn to turn -/
variable {wi : TI} {tbd tz : TS}
theorem for_d {F : Addr → Bool} {D : Ends} {its : List PyData} (hi : EvI K wi σ H its) (p : Prv F H1) (e : Ex H (del H1 F))
    (body : ∀ H2, Ex H1 H2 → ∃ Pv : Nat → (Addr → Bool) → L2.St → Hp → Prop, Pv 0 F σ H2 ∧ (∀ i F' σ H H', Ex H H' → Pv i F' σ H → Pv i F' σ H') ∧
      (∀ i x σ H' F' d, its[i]? = some d → Pv i F' σ H' → Prv F' H' → Ex (del H2 F) (del H' F') → Dp K (del H' F') x d → g x σ H' fun σ2 H3 =>
        tbd { D with nx := fun σ H'' => ∃ F'', Pv (i + 1) F'' σ H'' ∧ Prv F'' H'' ∧ Ex (del H2 F) (del H'' F''), ct := fun σ H'' => ∃ F'', Pv (i + 1) F'' σ H'' ∧ Prv F'' H'' ∧ Ex (del H2 F) (del H'' F''), bk := D.nx } σ2 H3) ∧
      ∀ σ H' F', Pv its.length F' σ H' → Prv F' H' → Ex (del H2 F) (del H' F') → D.nx σ H') : tFor wi g tbd D σ H1 :=
  hi F H1 p e _ fun J H2 e1 it => by
    obtain ⟨Pv, h0, st, hs, hd⟩ := body H2 e1
    refine ⟨fun i m σ H' => m = its.length - i ∧ i ≤ its.length ∧ ∃ F', Pv i F' σ H' ∧ Prv F' H' ∧ Ex (del H2 F) (del H' F'), ⟨_, rfl, Nat.zero_le _, F, h0, p.mono e1, Ex.refl _⟩, ?_⟩
    rintro i m σ H' ⟨rfl, hile, F', hp, pF, ex⟩
    by_cases hlt : i < its.length
    · refine .inr ⟨it.go i H' (ex.trans del_le) hlt, fun σ H'' => ∃ F'', Pv (i + 1) F'' σ H'' ∧ Prv F'' H'' ∧ Ex (del H2 F) (del H'' F''), fun σ' H'' q => ⟨its.length - (i + 1), by omega, rfl, hlt, q⟩, fun x H3 y => ?_⟩
      have hget : its[i]? = some its[i] := List.getElem?_eq_getElem hlt
      obtain ⟨e2, hx⟩ := it.yl F' i H' x H3 _ pF ex hget y
      exact hs i x σ H3 F' _ hget (st _ _ _ _ _ e2 hp) (pF.mono e2) (ex.trans (del_ex e2)) hx
    · have hi2 : i = its.length := by omega
      subst hi2
      exact .inl ⟨it.st H' (ex.trans del_le), hd σ H' F' hp pF ex⟩

/-! ### changes at private places -/
theorem prv_upd {F : Addr → Bool} {p : Addr} {o : HO} (q : Prv F H) : Prv F (upd H p o) := fun b hb => by
  by_cases e : b = p
  · subst e; rw [upd_same]; exact fun z => nomatch z
  · rw [upd_ne e]; exact q b hb
/-- xs.append(e) -/
theorem app_ok {F : Addr → Bool} {D : Ends} {i : Nat} {p : Addr} {acc : List V} (hv : σ[i]? = some (some (.ref p))) (hF : F p = true) (hH : H1 p = some (.lst acc)) (hz : acc.length < 100000) (h : EvP te σ H P) (q : Prv F H1) (e : Ex H (del H1 F))
    (k : ∀ v H2, Ex H1 H2 → P (del H2 F) v → H2 p = some (.lst acc) → D.nx σ (upd H2 p (.lst (acc ++ [v])))) : tDrop (tBM K "list" rAppend (tVar i) (tCons te tNil)) D σ H1 :=
  ⟨_, hv, .inl ⟨rfl, acc, sq_of hH⟩, h F H1 q e _ fun v H2 b hv => ⟨p, acc, v, rfl, rfl, b _ _ hH, sz_lt hz, k v H2 b hv (b _ _ hH)⟩⟩
end
end Kx
/-! ## KK_View -/
set_option Elab.async false
set_option linter.all false
set_option maxRecDepth 100000
set_option maxHeartbeats 2000000
/-! A web as data, the view of it. -/
namespace Kx
open PySem PySem.Spec PyProof.Rows L2 Evl
open SX (S S_len S_cat)
inductive Fa {α β : Type} (R : α → β → Prop) : List α → List β → Prop where
  | nil : Fa R [] []
  | cons {a b l m} (h : R a b) (t : Fa R l m) : Fa R (a :: l) (b :: m)
theorem Fa.imp {α β : Type} {R R2 : α → β → Prop} (h : ∀ a b, R a b → R2 a b) : ∀ {l : List α} {m : List β}, Fa R l m → Fa R2 l m
  | _, _, .nil => .nil
  | _, _, .cons q t => .cons (h _ _ q) (t.imp h)
theorem Fa.len {α β : Type} {R : α → β → Prop} : ∀ {l : List α} {m : List β}, Fa R l m → l.length = m.length
  | _, _, .nil => rfl
  | _, _, .cons _ t => by rw [List.length_cons, List.length_cons, t.len]
theorem Fa.snoc {α β : Type} {R : α → β → Prop} {a : α} {b : β} (h : R a b) : ∀ {l : List α} {m : List β}, Fa R l m → Fa R (l ++ [a]) (m ++ [b])
  | _, _, .nil => .cons h .nil
  | _, _, .cons q t => .cons q (t.snoc h)
def ends (ps : List (Nat × Nat)) (x : Nat) : List Nat := (ps.filter fun p => decide (p.1 = x)).map (·.2)
abbrev inD (x : Nat) : PyData := .int (x : Int)
abbrev prD (p : Nat × Nat) : PyData := .tuple [inD p.1, inD p.2]
abbrev stD (s : Nat × List (Nat × Nat)) : PyData := .tuple [.str (sg s.1), .tuple (s.2.map prD)]
abbrev ltD (s : Nat × List Nat) : PyData := .tuple [.str (sg s.1), .tuple (s.2.map inD)]
abbrev encW (W : Web) : PyData := .tuple [inD W.many, .tuple (W.steps.map stD), .tuple (W.letters.map ltD)]
theorem sg_inj {a b : Nat} (h : sg a = sg b) : a = b := by
  have := congrArg (fun x : Str => x.cps.toList) h
  simpa using this
abbrev inV' (x : Nat) : V := V.int (x : Int)
/-- from a dict's keys to lists: what a begin leads to -/
def RowF (H : Hp) (r : Addr) (ps : List (Nat × Nat)) : Prop :=
  ∃ kvs, Rd H r (.dK kvs) ∧ ∀ x : Nat, (valV kvs (.inl (x : Int)) = none ∧ ends ps x = []) ∨ ∃ l, valV kvs (.inl (x : Int)) = some (.ref l) ∧ Rd H l (.lst ((ends ps x).map inV'))
def LedF (H : Hp) (d : Addr) (ss : List (Nat × List (Nat × Nat))) : Prop :=
  ∃ kvs : List (Key × V), Rd H d (.dK kvs) ∧ Fa (fun (s : Nat × List (Nat × Nat)) (kv : Key × V) => kv.1 = .inr (sg s.1) ∧ ∃ r, kv.2 = .ref r ∧ RowF H r s.2) ss kvs
def TruF (K : Fg) (H : Hp) (d : Addr) (ss : List (Nat × List Nat)) : Prop :=
  ∃ kvs : List (Key × V), Rd H d (.dK kvs) ∧ Fa (fun (s : Nat × List Nat) (kv : Key × V) => kv.1 = .inr (sg s.1) ∧ ∃ t, kv.2 = .ref t ∧ SqT K H t (s.2.map inV')) ss kvs
/-- the view of a web -/
def VwF (K : Fg) (C : Addr) (H : Hp) (v : V) (W : Web) : Prop :=
  ∃ a dx d1 d2, v = .ref a ∧ H a = some (.ins C dx [("many", inV' W.many), ("led_by", .ref d1), ("true_at", .ref d2)]) ∧ LedF H d1 W.steps ∧ TruF K H d2 W.letters
/-- .. its dict of steps not locked -/
def VwU (K : Fg) (C : Addr) (H : Hp) (v : V) (W : Web) : Prop :=
  ∃ a dx d1 d2 kvs, v = .ref a ∧ H a = some (.ins C dx [("many", inV' W.many), ("led_by", .ref d1), ("true_at", .ref d2)]) ∧ H d1 = some (.dK kvs) ∧ LedF H d1 W.steps ∧ TruF K H d2 W.letters
theorem VwU.vw {K : Fg} {C : Addr} {H : Hp} {v : V} {W : Web} (h : VwU K C H v W) : VwF K C H v W := by
  obtain ⟨a, dx, d1, d2, kvs, h1, h2, h3, h4, h5⟩ := h
  exact ⟨a, dx, d1, d2, h1, h2, h4, h5⟩
/-- what is read in H is read in H' -/
def RdE (H H' : Hp) : Prop := ∀ a u, Rd H a u → Rd H' a u
section
variable {K : Fg} {H H' : Hp} {C d r : Addr}
theorem RdE.of (e : Ex H H') : RdE H H' := fun a u h => ex_rd e h
theorem RowF.rd {ps} (e : RdE H H') (h : RowF H r ps) : RowF H' r ps := by
  obtain ⟨kvs, h1, h2⟩ := h
  refine ⟨kvs, e _ _ h1, fun x => ?_⟩
  rcases h2 x with q | ⟨l, q1, q2⟩
  · exact .inl q
  · exact .inr ⟨l, q1, e _ _ q2⟩
theorem LedF.rd {ss} (e : RdE H H') (h : LedF H d ss) : LedF H' d ss := by
  obtain ⟨kvs, h1, h2⟩ := h
  exact ⟨kvs, e _ _ h1, h2.imp fun s kv ⟨q1, r, q2, q3⟩ => ⟨q1, r, q2, q3.rd e⟩⟩
theorem sqt_rd {xs} (e : RdE H H') (h : SqT K H r xs) : SqT K H' r xs := h.imp (e _ _) id
theorem sql_rd {xs} (e : RdE H H') (h : SqL K H r xs) : SqL K H' r xs := h.imp (e _ _) id
theorem TruF.rd {ss} (e : RdE H H') (h : TruF K H d ss) : TruF K H' d ss := by
  obtain ⟨kvs, h1, h2⟩ := h
  exact ⟨kvs, e _ _ h1, h2.imp fun s kv ⟨q1, r, q2, q3⟩ => ⟨q1, r, q2, sqt_rd e q3⟩⟩
theorem VwF.mono {v : V} {W : Web} (e : Ex H H') (h : VwF K C H v W) : VwF K C H' v W := by
  obtain ⟨a, dx, d1, d2, rfl, h1, h2, h3⟩ := h
  exact ⟨a, dx, d1, d2, rfl, e _ _ h1, h2.rd (.of e), h3.rd (.of e)⟩
mutual
theorem dp_rd (e : ∀ a xs, SqL K H a xs → SqL K H' a xs) (e2 : ∀ a xs, SqT K H a xs → SqT K H' a xs) : ∀ (d : PyData) (v : V), Dp K H v d → Dp K H' v d
  | .none, _, h => by cases h; exact .non
  | .bool _, _, h => by cases h; exact .bl _
  | .int _, _, h => by cases h; exact .int _
  | .str _, _, h => by cases h; exact .str _
  | .list ds, _, h => by
    cases h with
    | lst q a => exact .lst (e _ _ q) (dpa_rd e e2 ds _ a)
  | .tuple ds, _, h => by
    cases h with
    | tup q a => exact .tup (e2 _ _ q) (dpa_rd e e2 ds _ a)
  | .dict _, _, h => by cases h
theorem dpa_rd (e : ∀ a xs, SqL K H a xs → SqL K H' a xs) (e2 : ∀ a xs, SqT K H a xs → SqT K H' a xs) : ∀ (ds : List PyData) (vs : List V), DpAll K H vs ds → DpAll K H' vs ds
  | [], _, h => by cases h; exact .nil
  | d :: ds, _, h => by
    cases h with
    | cons q a => exact .cons (dp_rd e e2 d _ q) (dpa_rd e e2 ds _ a)
end
/-- an instance's fields change: lists, tuples, dicts stand -/
theorem rd_upd_ins {a b : Addr} {C2 dx dx2 fs fs2} {u : HO} (ha : H a = some (.ins C dx fs)) (hu : ∀ C dx fs, u ≠ .ins C dx fs) (h : Rd H b u) : Rd (upd H a (.ins C2 dx2 fs2)) b u := by
  have hb : b ≠ a := by
    rintro rfl
    rcases h with h | ⟨o, h⟩
    · rw [ha] at h; exact hu _ _ _ (Option.some.inj h).symm
    · rw [ha] at h; cases h
  rcases h with h | ⟨o, h⟩
  · exact .inl (by rw [upd_ne hb]; exact h)
  · exact .inr ⟨o, by rw [upd_ne hb]; exact h⟩
theorem dp_upd_ins {a : Addr} {C2 dx dx2 fs fs2} {v : V} {dd : PyData} (ha : H a = some (.ins C dx fs)) (h : Dp K H v dd) : Dp K (upd H a (.ins C2 dx2 fs2)) v dd :=
  dp_rd (fun b xs q => q.imp (rd_upd_ins ha fun _ _ _ z => nomatch z) id) (fun b xs q => q.imp (rd_upd_ins ha fun _ _ _ z => nomatch z) id) dd v h
theorem LedF.upd_ins {a : Addr} {C2 dx dx2 fs fs2 ss} (ha : H a = some (.ins C dx fs)) (h : LedF H d ss) : LedF (upd H a (.ins C2 dx2 fs2)) d ss := by
  obtain ⟨kvs, h1, h2⟩ := h
  refine ⟨kvs, rd_upd_ins ha (fun _ _ _ z => nomatch z) h1, h2.imp fun s kv ⟨q1, r, q2, kv2, q3, q4⟩ => ⟨q1, r, q2, kv2, rd_upd_ins ha (fun _ _ _ z => nomatch z) q3, fun x => ?_⟩⟩
  rcases q4 x with q | ⟨l, q1, q2⟩
  · exact .inl q
  · exact .inr ⟨l, q1, rd_upd_ins ha (fun _ _ _ z => nomatch z) q2⟩
theorem TruF.upd_ins {a : Addr} {C2 dx dx2 fs fs2 ss} (ha : H a = some (.ins C dx fs)) (h : TruF K H d ss) : TruF K (upd H a (.ins C2 dx2 fs2)) d ss := by
  obtain ⟨kvs, h1, h2⟩ := h
  exact ⟨kvs, rd_upd_ins ha (fun _ _ _ z => nomatch z) h1, h2.imp fun s kv ⟨q1, t, q2, q3⟩ => ⟨q1, t, q2, q3.imp (rd_upd_ins ha fun _ _ _ z => nomatch z) id⟩⟩
theorem led_get {ss : List (Nat × List (Nat × Nat))} {h : Nat} : ∀ {kvs : List (Key × V)}, Fa (fun (s : Nat × List (Nat × Nat)) (kv : Key × V) => kv.1 = .inr (sg s.1) ∧ ∃ r, kv.2 = .ref r ∧ RowF H r s.2) ss kvs →
    (valV kvs (.inr (sg h)) = none ∧ asc [] ss h = []) ∨ ∃ r, valV kvs (.inr (sg h)) = some (.ref r) ∧ RowF H r (asc [] ss h) := by
  induction ss with
  | nil => intro kvs q; cases q; exact .inl ⟨rfl, rfl⟩
  | cons s ss ih =>
    intro kvs q
    cases q with
    | @cons _ kv _ m q t =>
      obtain ⟨q1, r, q2, q3⟩ := q
      obtain ⟨s1, s2⟩ := s
      by_cases e : s1 = h
      · subst e
        refine .inr ⟨r, ?_, by rw [asc, if_pos rfl]; exact q3⟩
        rw [valV_pos q1, q2]
      · have hne : ¬ kv.1 = .inr (sg h) := by rw [q1]; intro z; injection z with z; exact e (sg_inj z)
        rw [valV_neg hne, asc, if_neg e]
        exact ih t
theorem tru_get {ss : List (Nat × List Nat)} {h : Nat} : ∀ {kvs : List (Key × V)}, Fa (fun (s : Nat × List Nat) (kv : Key × V) => kv.1 = .inr (sg s.1) ∧ ∃ t, kv.2 = .ref t ∧ SqT K H t (s.2.map inV')) ss kvs →
    (valV kvs (.inr (sg h)) = none ∧ asc [] ss h = []) ∨ ∃ t, valV kvs (.inr (sg h)) = some (.ref t) ∧ SqT K H t ((asc [] ss h).map inV') := by
  induction ss with
  | nil => intro kvs q; cases q; exact .inl ⟨rfl, rfl⟩
  | cons s ss ih =>
    intro kvs q
    cases q with
    | @cons _ kv _ m q t =>
      obtain ⟨q1, r, q2, q3⟩ := q
      obtain ⟨s1, s2⟩ := s
      by_cases e : s1 = h
      · subst e
        refine .inr ⟨r, ?_, by rw [asc, if_pos rfl]; exact q3⟩
        rw [valV_pos q1, q2]
      · have hne : ¬ kv.1 = .inr (sg h) := by rw [q1]; intro z; injection z with z; exact e (sg_inj z)
        rw [valV_neg hne, asc, if_neg e]
        exact ih t
theorem dpa_inV {vs : List V} {ws : List Nat} (h : DpAll K H vs (ws.map inD)) : vs = ws.map inV' := by
  have e : ws.map inD = (ws.map fun x : Nat => (x : Int)).map PyData.int := by rw [List.map_map]; rfl
  rw [e] at h
  rw [of_dpa_ints _ h, List.map_map]; rfl
theorem dpa_of_inV (ws : List Nat) : DpAll K H (ws.map inV') (ws.map inD) := by
  have e : ws.map inD = (ws.map fun x : Nat => (x : Int)).map PyData.int := by rw [List.map_map]; rfl
  have e2 : ws.map inV' = (ws.map fun x : Nat => (x : Int)).map V.int := by rw [List.map_map]; rfl
  rw [e, e2]
  exact dpa_ints _
end
section
variable {P : Program} {w : World} {K : Fg} {mg : Str → Option Value} {base : Heap}
/-- what is known of the class WebView -/
structure Cw (K : Fg) (C : Addr) : Prop where
  cls : Cls K C
  n1 : NoAttr K C "many"
  n2 : NoAttr K C "led_by"
  n3 : NoAttr K C "true_at"
abbrev R_rows (K : Fg) (H : Hp) (vs : List V) (P : Hp → V → Prop) : Prop := ∃ s x ps, vs = [s, x] ∧ Dp K H x (.tuple (ps.map prD)) ∧ ps.length ≤ 10000 ∧ P = fun H v => ∃ r, v = .ref r ∧ RowF H r ps
theorem ends_snoc (ps : List (Nat × Nat)) (x y z : Nat) : ends (ps ++ [(x, y)]) z = if z = x then ends ps z ++ [y] else ends ps z := by
  unfold ends
  rw [List.filter_append, List.map_append]
  by_cases e : z = x
  · subst e; simp
  · rw [if_neg e]; simp [Ne.symm e]
theorem wv_led_rows_ok {C : Addr} (c : Cw K C) (D : Mtd K C "led_rows" "WebView.led_rows" s_wv_led_rows) : Met P w K mg base 1 C "led_rows" (spV (R_rows K)) := by
  refine met_of c.cls D sc_wv_led_rows (fun _ _ _ _ _ _ us hl => match us, hl with | [_, _], _ => rfl) (spV_len fun H vs P h => by obtain ⟨_, _, _, rfl, _⟩ := h; rfl) fun f cdv A outer s H vs Q E hr h => ?_
  refine ⟨_, (pss_cons (ps_set (i := 2) sc_wv_led_rows.nd rfl (Or.inl rfl) pe_dnewK)
        (pss_cons (ps_for PassesOwn.never rfl (pi_tup (pv 1)) (pg_tup rfl (pgs_cons (pg_name (i := 3) sc_wv_led_rows.nd rfl (Or.inl rfl)) (pgs_cons (pg_name (i := 4) sc_wv_led_rows.nd rfl (Or.inl rfl)) pgs_nil))) (pss_one (ps_expr (pe_bm PySem.F.plainAttrs_list PySem.F.slot_list_append PySem.F.type_list_append mt_append (pe_dsetd (pv 2) (pv 3) (pe_lst pa_nil) ⟨rfl, rfl, rfl, rfl⟩) (pa_cons (pv 4) pa_nil)))))
        (pss_one (ps_ret (pv 2))))), ?_⟩
  refine retP_of h fun P H hR => ?_
  obtain ⟨sv, x, ps, rfl, hx, hl, rfl⟩ := hR
  intro F H1 p e D q r hr0
  let F1 := add F r
  have p1 : Prv F1 (upd H1 r (.dK [])) := (p.mono (Ex.new hr0)).add (by rw [upd_same]; exact fun z => nomatch z)
  have e1 : Ex H (del (upd H1 r (.dK [])) F1) := ex_add hr0 e (Ex.new hr0)
  refine for_d (F := F1) (ei_tup (evd_var rfl hx)) p1 e1 fun H2 b2 => ?_
  have hr2 : H2 r = some (.dK []) := b2 _ _ upd_same
  refine ⟨fun i F' σ H' => σ.length = 5 ∧ σ[2]? = some (some (.ref r)) ∧ ∃ (kvs : List (Key × V)) (ls : List Addr), H' r = some (.dK kvs) ∧ kvs.length ≤ i ∧ (∀ b, F' b = (F1 b || decide (b ∈ ls))) ∧ (∀ b, b ∈ ls → H2 b = none) ∧ (∀ b o, b ≠ r → H2 b = some o → H' b = some o) ∧
      (∀ x : Nat, (valV kvs (.inl (x : Int)) = none ∧ ends (ps.take i) x = []) ∨ ∃ l, valV kvs (.inl (x : Int)) = some (.ref l) ∧ l ∈ ls ∧ H' l = some (.lst ((ends (ps.take i) x).map inV'))) ∧
      (∀ (x y : Nat) l, valV kvs (.inl (x : Int)) = some (.ref l) → valV kvs (.inl (y : Int)) = some (.ref l) → x = y), ?_, ?_, ?_, ?_⟩
  · exact ⟨rfl, rfl, [], [], hr2, Nat.le_refl _, fun b => by simp, fun b h => by simp at h, fun b o _ h => h, fun x => .inl ⟨rfl, by simp [ends]⟩, fun x y l h => by cases h⟩
  · rintro i F' σ H H' ex ⟨hl, hσ, kvs, ls, h1, h2, h3, h4, h5, h6, h7⟩
    refine ⟨hl, hσ, kvs, ls, ex _ _ h1, h2, h3, h4, fun b o n h => ex _ _ (h5 b o n h), fun x => ?_, h7⟩
    rcases h6 x with q | ⟨l, q1, q2, q3⟩
    · exact .inl q
    · exact .inr ⟨l, q1, q2, ex _ _ q3⟩
  · rintro i xv σ H' F' d hd ⟨hl5, hσ, kvs, ls, h1, h2, h3, h4, h5, h6, h7⟩ pF eF hx
    have hi : i < ps.length := by
      have := (List.getElem?_eq_some_iff.mp hd).1
      simpa using this
    have hpi : ps[i]? = some ps[i] := List.getElem?_eq_getElem hi
    rw [List.getElem?_map, hpi] at hd
    obtain ⟨bx, ex⟩ : ∃ b, b = ps[i] := ⟨_, rfl⟩
    rw [← ex] at hd hpi
    obtain ⟨u, v⟩ := bx
    cases hd
    obtain ⟨q, xs, rfl, hs, hxs⟩ := of_dp_tup hx
    obtain ⟨x1, y1, rfl, hx1, hy1⟩ := of_two hxs
    obtain rfl := of_dp_int hx1
    obtain rfl := of_dp_int hy1
    have htk : ps.take (i + 1) = ps.take i ++ [(u, v)] := by rw [List.take_succ, hpi]; rfl
    have hrls : r ∉ ls := fun z => by rw [h4 r z] at hr2; cases hr2
    have s3 : ((σ.set 3 (some (V.int (u : Int)))).set 4 (some (V.int (v : Int))))[3]? = some (some (.int (u : Int))) := by
      rw [List.getElem?_set_ne (by decide), List.getElem?_set_self (by omega)]
    have s4 : ((σ.set 3 (some (V.int (u : Int)))).set 4 (some (V.int (v : Int))))[4]? = some (some (.int (v : Int))) := by
      rw [List.getElem?_set_self (by rw [List.length_set]; omega)]
    have s2 : ((σ.set 3 (some (V.int (u : Int)))).set 4 (some (V.int (v : Int))))[2]? = some (some (.ref r)) := by
      rw [List.getElem?_set_ne (by decide), List.getElem?_set_ne (by decide), hσ]
    have sl : ((σ.set 3 (some (V.int (u : Int)))).set 4 (some (V.int (v : Int)))).length = 5 := by rw [List.length_set, List.length_set, hl5]
    refine ⟨q, _, rfl, ex_t del_le hs, rfl, _, _, rfl, _, _, rfl, rfl, ?_⟩
    refine ⟨_, s2, r, rfl, .inl ⟨kvs, .inl h1⟩, _, s3, by show (0 : Nat) ≤ sizeLine; omega, fun p0 hp0 => ?_⟩
    have hp0r : p0 ≠ r := fun z => by subst z; rw [h1] at hp0; cases hp0
    have hr3 : (upd H' p0 (.lst [])) r = some (.dK kvs) := by rw [upd_ne (Ne.symm hp0r)]; exact h1
    refine ⟨kvs, .inl (u : Int), hr3, rfl, sz_lt (by omega), fun w hw => ?_, fun hw => ?_⟩
    · -- a begin seen before
      rcases h6 u with ⟨z, _⟩ | ⟨l, q1, q2, q3⟩
      · rw [hw] at z; cases z
      · rw [hw] at q1
        cases q1
        have hl0 : l ≠ p0 := fun z => by subst z; rw [q3] at hp0; cases hp0
        have hlr : l ≠ r := fun z => hrls (z ▸ q2)
        have q4 : (upd H' p0 (.lst [])) l = some (.lst ((ends (ps.take i) u).map inV')) := by rw [upd_ne hl0]; exact q3
        have lz : ((ends (ps.take i) u).map inV').length < sizeLine := by
          refine sz_lt ?_
          rw [List.length_map]
          unfold ends
          rw [List.length_map]
          have := List.length_filter_le (fun p : Nat × Nat => decide (p.1 = u)) (ps.take i)
          rw [List.length_take] at this
          omega
        refine ⟨.inl ⟨rfl, _, sq_of q4⟩, _, s4, l, _, _, rfl, rfl, q4, lz, ?_⟩
        refine ⟨F', ⟨sl, s2, kvs, ls, by rw [upd_ne (Ne.symm hlr)]; exact hr3, by omega, h3, h4, fun b o n hb => ?_, fun x => ?_, h7⟩, prv_upd (pF.mono (Ex.new hp0)), fun b o hb => ?_⟩
        · have hbl : b ≠ l := fun z => by subst z; rw [h4 _ q2] at hb; cases hb
          have := h5 b o n hb
          rw [upd_ne hbl, upd_ne (fun z => by subst z; rw [this] at hp0; cases hp0)]
          exact this
        · rw [htk, ends_snoc]
          by_cases hxu : x = u
          · subst hxu
            rw [if_pos rfl]
            exact .inr ⟨l, hw, q2, by rw [upd_same, List.map_append]; rfl⟩
          · rw [if_neg hxu]
            rcases h6 x with z | ⟨l2, z1, z2, z3⟩
            · exact .inl z
            · have hne : l2 ≠ l := fun z => hxu (h7 x u l (z ▸ z1) hw)
              refine .inr ⟨l2, z1, z2, ?_⟩
              rw [upd_ne hne, upd_ne (fun z => by subst z; rw [z3] at hp0; cases hp0)]
              exact z3
        · have hb2 := eF b o hb
          obtain ⟨f1, f2⟩ := del_some hb2
          have hbl : b ≠ l := fun z => by subst z; rw [h3, decide_eq_true q2, Bool.or_true] at f1; cases f1
          exact del_at f1 (by rw [upd_ne hbl, upd_ne (fun z => by subst z; rw [f2] at hp0; cases hp0)]; exact f2)
    · -- a new one
      have z : ends (ps.take i) u = [] := by
        rcases h6 u with ⟨_, z⟩ | ⟨l, q1, _⟩
        · exact z
        · rw [hw] at q1; cases q1
      have q4 : (upd (upd H' p0 (.lst [])) r (.dK (putK kvs (.inl (u : Int)) (.ref p0)))) p0 = some (.lst []) := by rw [upd_ne hp0r, upd_same]
      have hp2 : H2 p0 = none := by
        cases z0 : H2 p0 with
        | none => rfl
        | some o => rw [h5 p0 o hp0r z0] at hp0; cases hp0
      refine ⟨.inl ⟨rfl, _, sq_of q4⟩, _, s4, p0, _, _, rfl, rfl, q4, by decide, ?_⟩
      have hv : ∀ x : Nat, valV (putK kvs (.inl (u : Int)) (.ref p0)) (.inl (x : Int)) = if x = u then some (.ref p0) else valV kvs (.inl (x : Int)) := fun x => by
        rw [valV_put]
        by_cases hxu : x = u
        · subst hxu; rw [if_pos rfl, if_pos rfl]
        · rw [if_neg hxu, if_neg (fun z => hxu (by injection z with z; omega))]
      have old : ∀ (x : Nat) l, valV kvs (.inl (x : Int)) = some (.ref l) → l ≠ p0 := fun x l hx z => by
        subst z
        rcases h6 x with ⟨z1, _⟩ | ⟨l2, z1, z2, z3⟩
        · rw [hx] at z1; cases z1
        · rw [hx] at z1; cases z1; rw [z3] at hp0; cases hp0
      refine ⟨fun b => F1 b || decide (b ∈ p0 :: ls), ⟨sl, s2, putK kvs (.inl (u : Int)) (.ref p0), p0 :: ls, by rw [upd_ne (Ne.symm hp0r), upd_same], by have := length_putK kvs (.inl (u : Int)) (.ref p0); omega, fun b => rfl, fun b hb => ?_, fun b o n hb => ?_, fun x => ?_, fun x y l hx hy => ?_⟩, fun b hb => ?_, fun b o hb => ?_⟩
      · rcases List.mem_cons.mp hb with rfl | hb
        · exact hp2
        · exact h4 b hb
      · have := h5 b o n hb
        have hb0 : b ≠ p0 := fun z => by subst z; rw [this] at hp0; cases hp0
        rw [upd_ne hb0, upd_ne n, upd_ne hb0]
        exact this
      · rw [htk, ends_snoc, hv]
        by_cases hxu : x = u
        · subst hxu
          rw [if_pos rfl, if_pos rfl]
          exact .inr ⟨p0, rfl, List.mem_cons_self, by rw [upd_same, z]; rfl⟩
        · rw [if_neg hxu, if_neg hxu]
          rcases h6 x with z | ⟨l2, z1, z2, z3⟩
          · exact .inl z
          · have hne := old x l2 z1
            refine .inr ⟨l2, z1, List.mem_cons_of_mem _ z2, ?_⟩
            rw [upd_ne hne, upd_ne (fun z : l2 = r => hrls (z ▸ z2)), upd_ne hne]
            exact z3
      · rw [hv] at hx hy
        by_cases hxu : x = u
        · by_cases hyu : y = u
          · omega
          · rw [if_pos hxu] at hx
            rw [if_neg hyu] at hy
            cases hx
            exact absurd rfl (old y p0 hy)
        · rw [if_neg hxu] at hx
          by_cases hyu : y = u
          · rw [if_pos hyu] at hy
            cases hy
            exact absurd rfl (old x p0 hx)
          · rw [if_neg hyu] at hy
            exact h7 x y l hx hy
      · by_cases hb0 : b = p0
        · subst hb0; rw [upd_same]; exact fun z => nomatch z
        · rw [upd_ne hb0]
          by_cases hbr : b = r
          · subst hbr; rw [upd_same]; exact fun z => nomatch z
          · rw [upd_ne hbr, upd_ne hb0]
            refine pF b ?_
            rw [h3]
            simpa [hb0] using hb
      · have hb2 := eF b o hb
        obtain ⟨f1, f2⟩ := del_some hb2
        have hb0 : b ≠ p0 := fun z => by subst z; rw [f2] at hp0; cases hp0
        rw [h3] at f1
        have hbr : b ≠ r := fun z => by subst z; rw [show F1 b = true from add_self] at f1; cases f1
        exact del_at (by simpa [hb0] using f1) (by rw [upd_ne hb0, upd_ne hbr, upd_ne hb0]; exact f2)
  · rintro σ H' F' ⟨hl5, hσ, kvs, ls, h1, h2, h3, h4, h5, h6, h7⟩ pF eF
    have tk : ps.take (ps.map prD).length = ps := by rw [List.length_map, List.take_length]
    rw [tk] at h6
    have exH : Ex H1 H' := fun b o hb => h5 b o (ne_of_none hb hr0) (b2 b o ((Ex.new hr0) b o hb))
    have notF : ∀ b, F b = true → H' b ≠ none := p.mono exH
    refine ⟨_, hσ, q _ H' exH ⟨r, rfl, kvs, .inl (del_at (p.no hr0) h1), fun x => ?_⟩⟩
    rcases h6 x with z | ⟨l, z1, z2, z3⟩
    · exact .inl z
    · refine .inr ⟨l, z1, .inl (del_at ?_ z3)⟩
      have hl := h4 l z2
      exact p.no (fresh_back (fun b o hb => b2 b o ((Ex.new hr0) b o hb)) hl)

/-! ### {key: value for .. in ..} -/
theorem evp_dc {σ : L2.St} {H : Hp} {α : Type} {wi : TI} {g : TG} {tt : TT} {tk tv : TE} {vs : List Nat} {as : List α} {en : α → PyData} (key : α → Key) (Pa : α → Hp → V → Prop) (mono : ∀ a, Mon (Pa a)) (hi : EvI K wi σ H (as.map en)) (hl : as.length ≤ 100000)
    (hn : (as.map key).Nodup)
    (ht : ∀ a, a ∈ as → ∀ x H1, Ex H H1 → Dp K H1 x (en a) → ∃ σ2, EvG g x (wipe σ vs) H1 σ2 ∧ wipe σ2 vs = wipe σ vs ∧ EvB tt σ2 H1 true ∧ EvP tk σ2 H1 (fun _ v => v = kV (key a)) ∧ EvP tv σ2 H1 (Pa a)) :
    EvP (tDc wi g tt tk tv vs) σ H fun H v => ∃ d kvs, v = .ref d ∧ H d = some (.dK kvs) ∧ Fa (fun a (kv : Key × V) => kv.1 = key a ∧ Pa a H kv.2) as kvs := fun F H0 p e Q k => hi F H0 p e _ fun J H1 e1 it Dl hD => by
  have eH1 : Ex H (del H1 F) := e.trans (del_ex e1)
  have ln : (as.map en).length = as.length := List.length_map _
  refine ⟨fun i m H' => m = as.length - i ∧ i ≤ as.length ∧ Ex H1 H' ∧ ∃ kvs, H' Dl = some (.dK kvs) ∧ Fa (fun a (kv : Key × V) => kv.1 = key a ∧ Pa a (del H' (add F Dl)) kv.2) (as.take i) kvs,
    ⟨_, rfl, Nat.zero_le _, Ex.new hD, [], upd_same, by simpa using Fa.nil⟩, ?_⟩
  rintro i m H' ⟨rfl, hile, ex, kvs, hk, dk⟩
  have p1 : Prv F H1 := p.mono e1
  have pA : Prv (add F Dl) H' := (p1.mono ex).add (some_ne hk)
  by_cases hlt : i < as.length
  · refine .inr ⟨it.go i H' (del_le.trans ex) (by rw [ln]; exact hlt), fun H'' => Ex H1 H'' ∧ ∃ kvs, H'' Dl = some (.dK kvs) ∧ Fa (fun a (kv : Key × V) => kv.1 = key a ∧ Pa a (del H'' (add F Dl)) kv.2) (as.take (i + 1)) kvs, fun H'' q => ⟨as.length - (i + 1), by omega, rfl, hlt, q⟩, fun x H2 y => ?_⟩
    have hget : as[i]? = some as[i] := List.getElem?_eq_getElem hlt
    have hget2 : (as.map en)[i]? = some (en as[i]) := by rw [List.getElem?_map, hget]; rfl
    have hb : Ex (del H1 F) (del H' (add F Dl)) := ex_add hD (Ex.refl _) ex
    obtain ⟨e2, hx⟩ := it.yl (add F Dl) i H' x H2 (en as[i]) pA hb hget2 y
    have eA : Ex H (del H2 (add F Dl)) := eH1.trans (hb.trans (del_ex e2))
    obtain ⟨σ2, hg, hw, htt, hkk, hvv⟩ := ht as[i] (List.getElem_mem hlt) x (del H2 (add F Dl)) eA hx
    have pA2 := pA.mono e2
    refine hg (add F Dl) H2 pA2 (Ex.refl _) _ fun H3 e3 => ⟨hw, htt (add F Dl) H3 (pA2.mono e3) (del_ex e3) _ fun H4 e4 => ?_⟩
    have tk : as.take (i + 1) = as.take i ++ [as[i]] := by rw [List.take_succ, hget]; rfl
    have e24 : Ex H' H4 := e2.trans (e3.trans e4)
    rw [if_pos rfl]
    refine hkk (add F Dl) H4 (pA.mono e24) (del_ex (e3.trans e4)) _ fun y H5 e5 hy => ?_
    refine hvv (add F Dl) H5 ((pA.mono e24).mono e5) (del_ex (e3.trans (e4.trans e5))) _ fun z H6 e6 hz => ?_
    have e26 : Ex H' H6 := e24.trans (e5.trans e6)
    have lk : kvs.length ≤ i := by rw [← dk.len, List.length_take]; omega
    have hnew : valV kvs (key as[i]) = none := by
      have hnot : key as[i] ∉ (as.take i).map key := by
        have h2 : as.map key = (as.take i).map key ++ key as[i] :: (as.drop (i + 1)).map key := by
          rw [← List.map_cons, ← List.drop_eq_getElem_cons hlt, ← List.map_append, List.take_append_drop]
        rw [h2, List.nodup_append] at hn
        exact fun z => hn.2.2 _ z _ List.mem_cons_self rfl
      have gen : ∀ {l : List α} {m : List (Key × V)}, Fa (fun a (kv : Key × V) => kv.1 = key a ∧ Pa a (del H' (add F Dl)) kv.2) l m → key as[i] ∉ l.map key → valV m (key as[i]) = none := by
        intro l m q
        induction q with
        | nil => intro _; rfl
        | cons h t ih =>
          intro hno
          rw [List.map_cons, List.mem_cons] at hno
          rw [valV_neg (fun z => hno (.inl (z.symm.trans h.1)))]
          exact ih fun z => hno (.inr z)
      exact gen dk hnot
    refine ⟨kvs, key as[i], hy, e26 _ _ hk, sz_lt (by omega), ?_, ?_⟩
    · intro b o hb
      rw [upd_ne (ne_of_none hb hD)]
      exact e26 b o (ex b o hb)
    · refine ⟨putK kvs (key as[i]) z, upd_same, ?_⟩
      rw [del_upd add_self, tk, putK_new z hnew]
      refine (dk.imp fun a kv q => ⟨q.1, mono a _ _ _ (del_ex e26) q.2⟩).snoc ⟨rfl, hz⟩
  · have hi2 : i = as.length := by omega
    subst hi2
    have hst := it.st H' (del_le.trans ex)
    rw [ln] at hst
    refine .inl ⟨hst, k _ _ (e1.trans ex) ⟨Dl, kvs, rfl, del_at (p1.no hD) hk, ?_⟩⟩
    rw [List.take_length] at dk
    exact dk.imp fun a kv q => ⟨q.1, mono a _ _ _ del_add_le q.2⟩

/-! ### WebView(web) -/
def spWV (K : Fg) (C : Addr) : Sp := fun vs H Q _ => ∃ F a dx x W, vs = [.ref a, x] ∧ Prv F H ∧ F a = false ∧ H a = some (.ins C dx []) ∧ Dp K (del H F) x (encW W) ∧ WOk W ∧
  ∀ H2, (∀ b o, b ≠ a → H b = some o → H2 b = some o) → VwU K C (del H2 F) (.ref a) W → Q .non H2
theorem evp_makeU {σ : L2.St} {H : Hp} {C : Addr} {E : XK} {te : TE} {W : Web} (h : EvD K te σ H (encW W)) (hW : WOk W) : EvP (tMake C (spWV K C) [] E (tCons te tNil)) σ H fun H v => VwU K C H v W := fun F H1 p e Q k =>
  h F H1 p e _ fun x H2 b hx => by
    intro a dx na ndx hne
    have e1 : Ex H2 (upd (upd H2 dx (.own a)) a (.ins C dx [])) := (Ex.new ndx).trans (Ex.new (by rw [upd_ne (Ne.symm hne)]; exact na))
    refine ⟨F, a, dx, x, W, rfl, (p.mono b).mono e1, (p.mono b).no na, upd_same, (del_ex e1).dp hx, hW, fun H3 hk hv => ⟨rfl, k _ H3 (b.trans fun b' o hb => ?_) hv⟩⟩
    have hba : b' ≠ a := ne_of_none hb na
    exact hk b' o hba (e1 b' o hb)
theorem evp_make {σ : L2.St} {H : Hp} {C : Addr} {E : XK} {te : TE} {W : Web} (h : EvD K te σ H (encW W)) (hW : WOk W) : EvP (tMake C (spWV K C) [] E (tCons te tNil)) σ H fun H v => VwF K C H v W := evp_imp (evp_makeU h hW) fun _ _ h => h.vw
theorem wv_init_ok {C : Addr} (c : Cw K C) (hm : mg "WebView" = some (.ref C)) (D : Ini K C "WebView.__init__" s_wv_init) (m_wv_led_rows : Met P w K mg base 1 C "led_rows" (spV (R_rows K))) : Mak P w K mg base 2 C "WebView" (spWV K C) := by
  refine mak_of hm D sc_wv_init (fun _ _ _ _ _ _ us hl => match us, hl with | [_, _], _ => rfl) (fun vs H Q E h => by obtain ⟨_, _, _, _, _, rfl, _⟩ := h; rfl) fun f cdv A outer s H vs Q E hr h => ?_
  refine ⟨_, (pss_cons (ps_asg (pv 1) (pg_tup rfl (pgs_cons (pg_fld (pv 0)) (pgs_cons (pg_name (i := 2) sc_wv_init.nd rfl (Or.inl rfl)) (pgs_cons (pg_name (i := 3) sc_wv_init.nd rfl (Or.inl rfl)) pgs_nil)))))
        (pss_cons (ps_fld (pv 0) (pe_dc (own := [("hand", 4), ("pairs", 5)]) (g := gTup K 2 (gCons (gName 4) (gCons (gName 5) gNil))) (tt := tYes) rfl sc_wv_init.nd (pi_tup (pv 2)) (blkOk_by (N := n_wv_init) (sc := defScope s_wv_init) (own := [("hand", 4), ("pairs", 5)]) (by decide +kernel)) (fun _ _ _ _ _ => (pg_tup rfl (pgs_cons (pg_name (i := 4) sc_wv_init.nd rfl (Or.inl rfl)) (pgs_cons (pg_name (i := 5) sc_wv_init.nd rfl (Or.inl rfl)) pgs_nil)))) (fun _ _ _ _ _ => pts_nil) (fun _ _ _ _ _ => (pv 4)) (fun _ _ _ _ _ => (pm_ m_wv_led_rows hr (by omega) (pv 0) (pa_cons (pv 5) pa_nil)))) rfl)
        (pss_one (ps_fld (pv 0) (pe_dc (own := [("word", 6), ("worlds", 7)]) (g := gTup K 2 (gCons (gName 6) (gCons (gName 7) gNil))) (tt := tYes) rfl sc_wv_init.nd (pi_tup (pv 3)) (blkOk_by (N := n_wv_init) (sc := defScope s_wv_init) (own := [("word", 6), ("worlds", 7)]) (by decide +kernel)) (fun _ _ _ _ _ => (pg_tup rfl (pgs_cons (pg_name (i := 6) sc_wv_init.nd rfl (Or.inl rfl)) (pgs_cons (pg_name (i := 7) sc_wv_init.nd rfl (Or.inl rfl)) pgs_nil)))) (fun _ _ _ _ _ => pts_nil) (fun _ _ _ _ _ => (pv 6)) (fun _ _ _ _ _ => (pv 7))) rfl)))), ?_⟩
  obtain ⟨F, a, dx, x, W, rfl, p, fa, ha, hx, hW, q⟩ := h
  obtain ⟨tq, xs, rfl, hs, hxs⟩ := of_dp_tup hx
  obtain ⟨x1, x2, x3, rfl, h1, h2, h3⟩ := of_three hxs
  obtain rfl := of_dp_int h1
  refine ⟨_, rfl, tq, _, rfl, ex_t del_le hs, rfl, ?_⟩
  refine ⟨_, _, rfl, ⟨_, rfl, a, C, dx, [], rfl, ha, c.cls, c.n1, by decide, ⟨_, _, rfl, ⟨_, _, rfl, rfl, ?_⟩⟩⟩⟩
  -- self.many stands
  have pU : ∀ {H0 : Hp} {o : HO}, Prv F H0 → Prv F (upd H0 a o) := fun q => prv_upd q
  have dU : ∀ (H0 : Hp) (o : HO), del (upd H0 a o) F = upd (del H0 F) a o := fun H0 o => by
    funext b
    unfold del
    by_cases hb : b = a
    · subst hb; rw [fa, if_neg (by decide), upd_same, upd_same]
    · rw [upd_ne hb, upd_ne hb]
  have ha0 : del H F a = some (.ins C dx []) := del_at fa ha
  obtain ⟨H1, eH1⟩ : ∃ H1, H1 = upd H a (.ins C dx (putF "many" (inV' W.many) [])) := ⟨_, rfl⟩
  rw [← eH1]
  have p1 : Prv F H1 := eH1 ▸ prv_upd p
  have k1 : del H1 F = upd (del H F) a (.ins C dx (putF "many" (inV' W.many) [])) := by rw [eH1, dU]
  have g2 : Dp K (del H1 F) x2 (.tuple (W.steps.map stD)) := by rw [k1]; exact dp_upd_ins ha0 h2
  have g3 : Dp K (del H1 F) x3 (.tuple (W.letters.map ltD)) := by rw [k1]; exact dp_upd_ins ha0 h3
  have ga : del H1 F a = some (.ins C dx [("many", inV' W.many)]) := by rw [k1]; exact upd_same
  have led := evp_dc (K := K) (σ := (start n_wv_init [V.ref a, V.ref tq]).set 2 (some x2) |>.set 3 (some x3)) (H := del H1 F) (wi := iTup K (tVar 2)) (g := gTup K 2 (gCons (gName 4) (gCons (gName 5) gNil))) (tt := tYes) (tk := tVar 4) (tv := tMeth C "led_rows" (spV (R_rows K)) [] E0 (tVar 0) (tCons (tVar 5) tNil)) (vs := [4, 5])
    (as := W.steps) (en := stD) (fun s => .inr (sg s.1)) (fun s H v => ∃ r, v = .ref r ∧ RowF H r s.2) (fun s H H' v e ⟨r, q1, q2⟩ => ⟨r, q1, q2.rd (.of e)⟩) (ei_tup (evd_var rfl g2)) (by have := hW.stl; omega) ?_ ?_
  rotate_left
  · have := hW.stn
    rw [show (W.steps.map fun s => (Sum.inr (sg s.1) : Key)) = (W.steps.map (·.1)).map fun c => (Sum.inr (sg c) : Key) by rw [List.map_map]; rfl]
    exact (List.pairwise_map.mpr (this.imp fun hne z => hne (by injection z with z; exact sg_inj z)))
  · intro s hs y H2 e2 hy
    obtain ⟨t1, ys, rfl, ht1, hys⟩ := of_dp_tup hy
    obtain ⟨y1, y2, rfl, hy1, hy2⟩ := of_two hys
    obtain rfl := of_dp_str hy1
    refine ⟨_, eg_pair ht1, rfl, eb_yes, evp_var rfl (fun _ _ _ _ z => z) rfl, ?_⟩
    refine evp_meth (P2 := fun H v => v = .ref a ∧ H a = some (.ins C dx [("many", inV' W.many)])) (ds := [.tuple (s.2.map prD)]) (evp_var rfl (fun H H' v e z => ⟨z.1, e _ _ z.2⟩) ⟨rfl, e2 _ _ ga⟩) (fun H v z => ⟨a, dx, _, z.1, z.2, rfl⟩) (fun H H' v e z => ⟨z.1, e _ _ z.2⟩) (evds_cons (evd_var rfl hy2) evds_nil) fun H' v vs e3 hv hvs => ?_
    obtain ⟨z, rfl, hz⟩ := of_one hvs
    exact ⟨v, z, s.2, rfl, hz, hW.prl s hs, rfl⟩
  dsimp only [tSeq, sFld]
  refine led F H1 p1 (Ex.refl _) _ fun v H2 e2 hv => ?_
  obtain ⟨d1, kvs, rfl, hd1, hfa⟩ := hv
  have ha2 : H2 a = some (.ins C dx [("many", inV' W.many)]) := e2 _ _ (del_le _ _ ga)
  refine ⟨_, rfl, a, C, dx, _, rfl, ha2, c.cls, c.n2, by simp, ?_⟩
  have l1 : LedF (del H2 F) d1 W.steps := ⟨kvs, .inl hd1, hfa⟩
  obtain ⟨H3, eH3⟩ : ∃ H3, H3 = upd H2 a (.ins C dx (putF "led_by" (.ref d1) [("many", inV' W.many)])) := ⟨_, rfl⟩
  rw [← eH3]
  have k3 : del H3 F = upd (del H2 F) a (.ins C dx (putF "led_by" (.ref d1) [("many", inV' W.many)])) := by rw [eH3, dU]
  have p3 : Prv F H3 := eH3 ▸ prv_upd (p1.mono e2)
  have l3 : LedF (del H3 F) d1 W.steps := by rw [k3]; exact l1.upd_ins (del_at fa ha2)
  have g33 : Dp K (del H3 F) x3 (.tuple (W.letters.map ltD)) := by rw [k3]; exact dp_upd_ins (del_at fa ha2) ((del_ex e2).dp g3)
  have ga3 : del H3 F a = some (.ins C dx [("many", inV' W.many), ("led_by", .ref d1)]) := by rw [k3]; exact upd_same
  have tru := evp_dc (K := K) (σ := (start n_wv_init [V.ref a, V.ref tq]).set 2 (some x2) |>.set 3 (some x3)) (H := del H3 F) (wi := iTup K (tVar 3)) (g := gTup K 2 (gCons (gName 6) (gCons (gName 7) gNil))) (tt := tYes) (tk := tVar 6) (tv := tVar 7) (vs := [6, 7])
    (as := W.letters) (en := ltD) (fun s => .inr (sg s.1)) (fun s H v => ∃ r, v = .ref r ∧ SqT K H r (s.2.map inV')) (fun s H H' v e ⟨r, q1, q2⟩ => ⟨r, q1, ex_t e q2⟩) (ei_tup (evd_var rfl g33)) (by have := hW.ltl; omega) ?_ ?_
  rotate_left
  · have := hW.ltn
    rw [show (W.letters.map fun s => (Sum.inr (sg s.1) : Key)) = (W.letters.map (·.1)).map fun c => (Sum.inr (sg c) : Key) by rw [List.map_map]; rfl]
    exact (List.pairwise_map.mpr (this.imp fun hne z => hne (by injection z with z; exact sg_inj z)))
  · intro s hs y H2 e2 hy
    obtain ⟨t1, ys, rfl, ht1, hys⟩ := of_dp_tup hy
    obtain ⟨y1, y2, rfl, hy1, hy2⟩ := of_two hys
    obtain rfl := of_dp_str hy1
    obtain ⟨t2, zs, rfl, ht2, hzs⟩ := of_dp_tup hy2
    obtain rfl := dpa_inV hzs
    exact ⟨_, eg_pair ht1, rfl, eb_yes, evp_var rfl (fun _ _ _ _ z => z) rfl, evp_var rfl (fun H H' v e ⟨r, q1, q2⟩ => ⟨r, q1, ex_t e q2⟩) ⟨t2, rfl, ht2⟩⟩
  refine tru F H3 p3 (Ex.refl _) _ fun v H4 e4 hv => ?_
  obtain ⟨d2, kvs2, rfl, hd2, hfa2⟩ := hv
  have ha4 : H4 a = some (.ins C dx [("many", inV' W.many), ("led_by", .ref d1)]) := e4 _ _ (del_le _ _ ga3)
  refine ⟨_, rfl, a, C, dx, _, rfl, ha4, c.cls, c.n3, by simp, ?_⟩
  refine q _ (fun b o hb hbo => ?_) ⟨a, dx, d1, d2, kvs, rfl, ?_, ?_, ?_, ?_⟩
  · rw [upd_ne hb]
    refine e4 b o ?_
    rw [eH3, upd_ne hb]
    refine e2 b o ?_
    rw [eH1, upd_ne hb]
    exact hbo
  · rw [dU]; exact upd_same
  · have hd2 := del_some hd1
    have hne : d1 ≠ a := fun z => by subst z; rw [ha2] at hd2; cases hd2.2
    have g1 : H4 d1 = some (.dK kvs) := e4 _ _ (by rw [eH3, upd_ne hne]; exact hd2.2)
    exact del_at hd2.1 (by rw [upd_ne hne]; exact g1)
  · rw [dU]
    exact LedF.upd_ins (del_at fa ha4) (l3.rd (.of (del_ex e4)))
  · rw [dU]
    exact TruF.upd_ins (del_at fa ha4) ⟨kvs2, .inl hd2, hfa2⟩
end
end Kx
/-! ## KL_Zip -/
set_option Elab.async false
set_option linter.all false
set_option maxRecDepth 100000
set_option maxHeartbeats 1000000
/-! zip(a, b, strict=True) over two lists of one length. -/
namespace Kx
open PySem PySem.Spec PyProof.Rows L2 Evl
open Sem (wp)
abbrev IsZipS (h : Heap) (z TI TO : Addr) (f0 : Value) : Prop :=
  h.get? z = some { cls := .type "zip", dict := none, data := .fields #[f0, .bool false, .bool true, .ref TI, .ref TO], slots := #[] }
section
variable {prog : Program} {w : World} {A : Around} {E : Value → Shared → Prop} {s : Shared}
theorem nextOrEnd_item {it l : Addr} {i : Nat} {items} {x : Value} {Q : Option Value → Shared → Prop} (hit : s.heap.IsListIter it l i) (hl : s.heap.IsList l items) (hx : items[i]? = some x)
    (hQ : ∀ h', h'.IsListIter it l (i + 1) → Heap.SameBut it s.heap h' → Q (some x) { s with heap := h' }) : wpAny (model prog w) A (Builtin.SmallTypes.nextOrEnd (.ref it)) Q E s := by
  unfold Builtin.SmallTypes.nextOrEnd
  exact wpAny_bind (wpAny_attempt (wpAny_nextOf_list_item hit hl hx fun h' a b => wpAny_pure (hQ h' a b)))
theorem nextOrEnd_end {it l : Addr} {i : Nat} {items} {Q : Option Value → Shared → Prop} (hh : A.handled = none) (hit : s.heap.IsListIter it l i) (hl : s.heap.IsList l items) (hx : items[i]? = none)
    (hQ : ∀ h', Heap.ExtBut it s.heap h' → Q none { s with heap := h' }) : wpAny (model prog w) A (Builtin.SmallTypes.nextOrEnd (.ref it)) Q E s := by
  unfold Builtin.SmallTypes.nextOrEnd
  refine wpAny_bind (wpAny_attempt (wpAny_nextOf_list_end hh hit hl hx fun h' e a ⟨o, ho, hc⟩ => ?_))
  refine wpAny_bind (wpAny_isInstance (T := "StopIteration") (b := true) ⟨o, ho, hc⟩ isSubtype_stop ?_)
  exact wpAny_pure (hQ h' a)
theorem zipS_item {z TI TO i1 i2 l1 l2 : Addr} {k1 k2 : Nat} {xs ys : Array Value} {x y a b : Value} {Q : Value → Shared → Prop} (D : ZipApart z TI TO i1 i2 l1 l2)
    (hz : IsZipS s.heap z TI TO .none) (hTI : IsPair s.heap TI (.ref i1) (.ref i2)) (hTO : IsPair s.heap TO a b)
    (h1 : s.heap.IsListIter i1 l1 k1) (h2 : s.heap.IsListIter i2 l2 k2) (hl1 : s.heap.IsList l1 xs) (hl2 : s.heap.IsList l2 ys) (hx : xs[k1]? = some x) (hy : ys[k2]? = some y)
    (hQ : ∀ h', IsZipS h' z TI TO (rawInt s.heap.objs.size) → IsPair h' TO x y → h'.IsListIter i1 l1 (k1 + 1) → h'.IsListIter i2 l2 (k2 + 1) → IsPair h' s.heap.objs.size x y → h'.objs.size = s.heap.objs.size + 1 →
      (∀ c o, c ≠ z → c ≠ TO → c ≠ i1 → c ≠ i2 → s.heap.get? c = some o → h'.get? c = some o) → Q (.ref s.heap.objs.size) { s with heap := h' }) :
    wpAny (model prog w) A (Builtin.«zip.__next__» ⟨[.ref z], []⟩) (fun fin s' => ∃ v, fin = .done (.ret v) ∧ Q v s') E s := by
  show wpAny _ _ (field (.ref z) 2 >>= _) _ _ _
  refine wpAny_bind (wpAny_field hz rfl (x := .bool true) rfl ?_)
  show wpAny _ _ (field (.ref z) 3 >>= _) _ _ _
  refine wpAny_bind (wpAny_field hz rfl (x := .ref TI) rfl ?_)
  refine wpAny_bind (wpAny_seqItems hTI rfl ?_)
  show wpAny _ _ (Builtin.SmallTypes.ownedTupleIsFree (.ref z) >>= _) _ _ _
  refine wpAny_bind ?_
  unfold Builtin.SmallTypes.ownedTupleIsFree
  refine wpAny_bind (wpAny_field hz rfl (x := .none) rfl (wpAny_pure ?_))
  simp only [if_true]
  refine wpAny_bind (wpAny_rule ?_)
  refine wpAny_bind (wpAny_field hz rfl (x := .ref TO) rfl ?_)
  refine wpAny_bind (wpAny_setField_rec hz (by simp) fun h₁ hz₁ hs₁ => ?_)
  replace hz₁ : IsZipS h₁ z TI TO .ellipsis := hz₁
  refine wpAny_bind ?_
  simp only [List.zipIdx_cons, List.zipIdx_nil, List.forIn_cons, List.forIn_nil]
  refine wpAny_bind (wpAny_bind (wpAny_onRaise ?_))
  show wpAny _ _ (Builtin.SmallTypes.nextOrEnd (.ref i1)) _ _ _
  refine nextOrEnd_item (h1.extBut hs₁.extBut D.i1z) (hl1.extBut hs₁.extBut D.l1z) hx fun h₂ h1₂ hs₂ => ?_
  have hTO₂ : IsPair h₂ TO a b := hs₂.extBut _ _ D.TOi1 (hs₁.extBut _ _ D.TOz hTO)
  refine wpAny_bind (wpAny_seqItems hTO₂ rfl ?_)
  refine wpAny_bind (wpAny_updateSeq_pair hTO₂ fun h₃ hTO₃ hs₃ => ?_)
  replace hTO₃ : IsPair h₃ TO x b := hTO₃
  refine wpAny_bind (wpAny_letGo (wpAny_pure ?_))
  refine wpAny_bind (wpAny_bind (wpAny_onRaise ?_))
  show wpAny _ _ (Builtin.SmallTypes.nextOrEnd (.ref i2)) _ _ _
  refine nextOrEnd_item (((h2.extBut hs₁.extBut D.i2z).extBut hs₂.extBut D.i12.symm).extBut hs₃.extBut D.TOi2.symm)
    (((hl2.extBut hs₁.extBut D.l2z).extBut hs₂.extBut D.l2i1).extBut hs₃.extBut D.l2TO) hy fun h₄ h2₄ hs₄ => ?_
  have hTO₄ : IsPair h₄ TO x b := hs₄.extBut _ _ D.TOi2 hTO₃
  refine wpAny_bind (wpAny_seqItems hTO₄ rfl ?_)
  refine wpAny_bind (wpAny_updateSeq_pair hTO₄ fun h₅ hTO₅ hs₅ => ?_)
  replace hTO₅ : IsPair h₅ TO x y := hTO₅
  refine wpAny_bind (wpAny_letGo (wpAny_pure (wpAny_pure ?_)))
  refine wpAny_bind (wpAny_seqItems hTO₅ rfl ?_)
  refine wpAny_bind (wpAny_newTuple ?_)
  have hsz : h₅.objs.size = s.heap.objs.size := by rw [hs₅.1, hs₄.1, hs₃.1, hs₂.1, hs₁.1]
  have hz₅ : IsZipS h₅ z TI TO .ellipsis := hs₅.extBut _ _ D.TOz.symm (hs₄.extBut _ _ D.i2z.symm (hs₃.extBut _ _ D.TOz.symm (hs₂.extBut _ _ D.i1z.symm hz₁)))
  have hk₅ : ∀ c o, c ≠ z → c ≠ TO → c ≠ i1 → c ≠ i2 → s.heap.get? c = some o → h₅.get? c = some o := fun c o c1 c2 c3 c4 e =>
    hs₅.extBut _ _ c2 (hs₄.extBut _ _ c4 (hs₃.extBut _ _ c2 (hs₂.extBut _ _ c3 (hs₁.extBut _ _ c1 e))))
  have h1₅ : h₅.IsListIter i1 l1 (k1 + 1) := ((h1₂.extBut hs₃.extBut D.TOi1.symm).extBut hs₄.extBut D.i12).extBut hs₅.extBut D.TOi1.symm
  have h2₅ : h₅.IsListIter i2 l2 (k2 + 1) := h2₄.extBut hs₅.extBut D.TOi2.symm
  have hzlt : z < h₅.objs.size := Heap.lt_size hz₅
  show wpAny _ _ (Builtin.SmallTypes.ownedTupleHandOut (.ref z) (.ref h₅.objs.size) >>= _) _ _ _
  refine wpAny_bind ?_
  unfold Builtin.SmallTypes.ownedTupleHandOut
  have hz₆ : IsZipS (h₅.push { cls := .type "tuple", data := .seq #[x, y] }) z TI TO .ellipsis := Heap.get?_push_of_some _ hz₅
  refine wpAny_bind (wpAny_setField_rec hz₆ (by simp) fun h₇ hz₇ hs₇ => ?_)
  replace hz₇ : IsZipS h₇ z TI TO (rawInt h₅.objs.size) := hz₇
  refine wpAny_setField_rec hz₇ (by simp) fun h₈ hz₈ hs₈ => ?_
  replace hz₈ : IsZipS h₈ z TI TO (rawInt h₅.objs.size) := hz₈
  have up : ∀ c o, c ≠ z → h₅.get? c = some o → h₈.get? c = some o := fun c o c1 e => hs₈.extBut _ _ c1 (hs₇.extBut _ _ c1 (Heap.get?_push_of_some _ e))
  have hT₈ : IsPair h₈ h₅.objs.size x y := hs₈.extBut _ _ (Nat.ne_of_gt hzlt) (hs₇.extBut _ _ (Nat.ne_of_gt hzlt) (Heap.get?_push_size _ rfl))
  have hz8 : h₈.objs.size = h₅.objs.size + 1 := by rw [hs₈.1, hs₇.1, Heap.size_push]
  rw [hsz] at hz₈ hT₈ hz8
  refine wpAny_pure ⟨_, rfl, ?_⟩
  show Q (.ref h₅.objs.size) _
  rw [hsz]
  exact hQ h₈ hz₈ (up _ _ D.TOz hTO₅) (h1₅.at fun o e => up _ o D.i1z e) (h2₅.at fun o e => up _ o D.i2z e) hT₈ hz8 fun c o c1 c2 c3 c4 e => up c o c1 (hk₅ c o c1 c2 c3 c4 e)
theorem zipS_end {z TI TO i1 i2 l1 l2 : Addr} {k1 k2 : Nat} {xs ys : Array Value} {a b : Value} {Q : Fin → Shared → Prop} (hh : A.handled = none) (D : ZipApart z TI TO i1 i2 l1 l2)
    (hz : IsZipS s.heap z TI TO .none) (hTI : IsPair s.heap TI (.ref i1) (.ref i2)) (hTO : IsPair s.heap TO a b)
    (h1 : s.heap.IsListIter i1 l1 k1) (h2 : s.heap.IsListIter i2 l2 k2) (hl1 : s.heap.IsList l1 xs) (hl2 : s.heap.IsList l2 ys) (hx : xs[k1]? = none) (hy : ys[k2]? = none)
    (hE : ∀ h' e, (∀ c o, c ≠ z → c ≠ TO → c ≠ i1 → c ≠ i2 → s.heap.get? c = some o → h'.get? c = some o) → (∃ o, h'.get? e = some o ∧ o.cls = .type "StopIteration") → E (.ref e) { s with heap := h' }) :
    wpAny (model prog w) A (Builtin.«zip.__next__» ⟨[.ref z], []⟩) Q E s := by
  show wpAny _ _ (field (.ref z) 2 >>= _) _ _ _
  refine wpAny_bind (wpAny_field hz rfl (x := .bool true) rfl ?_)
  show wpAny _ _ (field (.ref z) 3 >>= _) _ _ _
  refine wpAny_bind (wpAny_field hz rfl (x := .ref TI) rfl ?_)
  refine wpAny_bind (wpAny_seqItems hTI rfl ?_)
  show wpAny _ _ (Builtin.SmallTypes.ownedTupleIsFree (.ref z) >>= _) _ _ _
  refine wpAny_bind ?_
  unfold Builtin.SmallTypes.ownedTupleIsFree
  refine wpAny_bind (wpAny_field hz rfl (x := .none) rfl (wpAny_pure ?_))
  simp only [if_true]
  refine wpAny_bind (wpAny_rule ?_)
  refine wpAny_bind (wpAny_field hz rfl (x := .ref TO) rfl ?_)
  refine wpAny_bind (wpAny_setField_rec hz (by simp) fun h₁ hz₁ hs₁ => ?_)
  replace hz₁ : IsZipS h₁ z TI TO .ellipsis := hz₁
  refine wpAny_bind ?_
  simp only [List.zipIdx_cons, List.zipIdx_nil, List.forIn_cons, List.forIn_nil]
  refine wpAny_bind (wpAny_bind (wpAny_onRaise ?_))
  show wpAny _ _ (Builtin.SmallTypes.nextOrEnd (.ref i1)) _ _ _
  refine nextOrEnd_end hh (h1.extBut hs₁.extBut D.i1z) (hl1.extBut hs₁.extBut D.l1z) hx fun h₂ hs₂ => ?_
  have hz₂ : IsZipS h₂ z TI TO .ellipsis := hs₂ _ _ D.i1z.symm hz₁
  refine wpAny_bind (wpAny_setField_rec hz₂ (by simp) fun h₃ hz₃ hs₃ => ?_)
  refine wpAny_bind ?_
  show wpAny _ _ (if (0 : Nat) > 0 then Builtin.SmallTypes.stopIteration else _) _ _ _
  rw [if_neg (by decide)]
  simp only [List.drop_succ_cons, List.drop_zero, List.zipIdx_cons, List.zipIdx_nil, List.forIn_cons, List.forIn_nil]
  have sE : ∀ c o, c ≠ z → c ≠ i1 → s.heap.get? c = some o → h₃.get? c = some o := fun c o c1 c3 x => hs₃.extBut _ _ c1 (hs₂ _ _ c3 (hs₁.extBut _ _ c1 x))
  refine wpAny_bind (wpAny_bind (wpAny_bind ?_))
  refine nextOrEnd_end hh (h2.at fun o e => sE _ o D.i2z D.i12.symm e) (hl2.at fun o e => sE _ o D.l2z D.l2i1 e) hy fun h₄ hs₄ => ?_
  simp only [Option.isSome_none, Bool.false_eq_true, if_false]
  refine wpAny_pure (wpAny_pure (wpAny_bind (wpAny_rule ?_)))
  show wpAny _ _ (newExc (.type "StopIteration") [] >>= _) _ _ _
  refine wpAny_bind ?_
  simp only [newExc, newTuple]
  refine wpAny_bind (wpAny_newObj_type ?_ (by size_fits))
  refine wpAny_bind (m := firstArgMember _ _) (wpAny_of_eq (a := Value.none) (by first | rfl | (simp only [firstArgMember]; rfl)) ?_)
  refine wpAny_newObj_type ?_ (by size_fits)
  simp only [raiseNew]
  refine wpAny_bind (wpAny_handled ?_)
  first | rw [show A.in1.handled = none from hh] | rw [hh]
  refine wpAny_bind (wpAny_pure (wpAny_throw ?_))
  exact hE _ _ (fun c o c1 _ c3 c4 x => Heap.get?_push_of_some _ (Heap.get?_push_of_some _ (hs₄ _ _ c4 (sE c o c1 c3 x)))) ⟨_, Heap.get?_push_size _ rfl, rfl⟩
theorem pyNext_zipS_item {z TI TO i1 i2 l1 l2 : Addr} {k1 k2 : Nat} {xs ys : Array Value} {x y a b : Value} {Q : Option Value → Shared → Prop} (D : ZipApart z TI TO i1 i2 l1 l2)
    (hz : IsZipS s.heap z TI TO .none) (hTI : IsPair s.heap TI (.ref i1) (.ref i2)) (hTO : IsPair s.heap TO a b)
    (h1 : s.heap.IsListIter i1 l1 k1) (h2 : s.heap.IsListIter i2 l2 k2) (hl1 : s.heap.IsList l1 xs) (hl2 : s.heap.IsList l2 ys) (hx : xs[k1]? = some x) (hy : ys[k2]? = some y)
    (hQ : ∀ h', IsZipS h' z TI TO (rawInt s.heap.objs.size) → IsPair h' TO x y → h'.IsListIter i1 l1 (k1 + 1) → h'.IsListIter i2 l2 (k2 + 1) → IsPair h' s.heap.objs.size x y → h'.objs.size = s.heap.objs.size + 1 →
      (∀ c o, c ≠ z → c ≠ TO → c ≠ i1 → c ≠ i2 → s.heap.get? c = some o → h'.get? c = some o) → Q (some (.ref s.heap.objs.size)) { s with heap := h' }) :
    wpAny (model prog w) A (pyNext (.ref z)) Q E s := by
  have hT : s.TypeIs (.ref z) "zip" := ⟨_, hz, rfl⟩
  unfold pyNext
  exact wpAny_bind (wpAny_attempt (wpAny_callSpecial?_slot (name := Str.ofString "__next__") hT F.slot_zip_next
    (wpAny_call_entry F.slot_zip_next hT F.entry_zip_next
      (zipS_item D hz hTI hTO h1 h2 hl1 hl2 hx hy fun h' a1 a2 a3 a4 a5 a6 a7 => wpAny_pure (hQ h' a1 a2 a3 a4 a5 a6 a7)) (F.args_zip_next_1 _))))
theorem pyNext_zipS_end {z TI TO i1 i2 l1 l2 : Addr} {k1 k2 : Nat} {xs ys : Array Value} {a b : Value} {Q : Option Value → Shared → Prop} (hh : A.handled = none) (D : ZipApart z TI TO i1 i2 l1 l2)
    (hz : IsZipS s.heap z TI TO .none) (hTI : IsPair s.heap TI (.ref i1) (.ref i2)) (hTO : IsPair s.heap TO a b)
    (h1 : s.heap.IsListIter i1 l1 k1) (h2 : s.heap.IsListIter i2 l2 k2) (hl1 : s.heap.IsList l1 xs) (hl2 : s.heap.IsList l2 ys) (hx : xs[k1]? = none) (hy : ys[k2]? = none)
    (hQ : ∀ h', (∀ c o, c ≠ z → c ≠ TO → c ≠ i1 → c ≠ i2 → s.heap.get? c = some o → h'.get? c = some o) → Q none { s with heap := h' }) : wpAny (model prog w) A (pyNext (.ref z)) Q E s := by
  have hT : s.TypeIs (.ref z) "zip" := ⟨_, hz, rfl⟩
  unfold pyNext
  refine wpAny_bind (wpAny_attempt (wpAny_callSpecial?_slot (name := Str.ofString "__next__") hT F.slot_zip_next
    (wpAny_call_entry F.slot_zip_next hT F.entry_zip_next (zipS_end hh D hz hTI hTO h1 h2 hl1 hl2 hx hy fun h' e hk he => ?_) (F.args_zip_next_1 _))))
  obtain ⟨o, ho, hc⟩ := he
  refine wpAny_bind (wpAny_isInstance (T := "StopIteration") (b := true) ⟨o, ho, hc⟩ isSubtype_stop ?_)
  exact wpAny_pure (hQ _ hk)
theorem letGo_zipS {elts : List Expr} {x1} {pos : Pos} {z TI TO T : Addr} {Q : Unit → Shared → Prop} (hz : IsZipS s.heap z TI TO (rawInt T))
    (hQ : ∀ h', IsZipS h' z TI TO .none → Heap.SameBut z s.heap h' → Q () { s with heap := h' }) :
    wpAny (model prog w) A (letOwnedTupleGo (.Tuple elts x1 pos) (.ref z) (.ref T)) Q E s := by
  unfold letOwnedTupleGo
  refine wpAny_bind (wpAny_load hz ?_)
  show wpAny _ _ (if (["enumerate", "zip", "dict_itemiterator", "dict_reverseitemiterator", "odict_iterator", "itertools.zip_longest", "itertools.pairwise"].contains "zip" &&
      (#[rawInt T, .bool false, .bool true, .ref TI, .ref TO] : Array Value)[0]? == some (rawInt T)) = true then _ else _) Q E s
  rw [if_pos (by simp)]
  refine wpAny_bind (wpAny_rule ?_)
  show wpAny _ _ (setField (.ref z) 0 .none) Q E s
  exact wpAny_setField_rec hz (by simp) fun h' hz' hs' => hQ h' hz' hs'
theorem pyIter_zipS {z TI TO : Addr} {f0 : Value} {Q : Value → Shared → Prop} (hz : IsZipS s.heap z TI TO f0) (h : Q (.ref z) s) : wpAny (model prog w) A (pyIter (.ref z)) Q E s := by
  have hT : s.TypeIs (.ref z) "zip" := ⟨_, hz, rfl⟩
  refine wpAny_pyIter_slot hT F.slot_zip_iter (wpAny_call_entry F.slot_zip_iter hT F.entry_zip_iter ?_ (F.args_zip_iter_1 _))
  show wpAny _ _ (ret (.ref z)) _ _ s
  exact wpAny_pure ⟨_, rfl, "zip", _, hT, F.slot_zip_next.lookup, h⟩
end
abbrev zS5 (h : Heap) (l1 l2 : Addr) : Heap := (zipH4 h l1 l2).push { cls := .type "zip", data := .fields #[.none, .bool false, .bool true, .ref (zipH2 h l1 l2).objs.size, .ref (zipH3 h l1 l2).objs.size] }
abbrev kwS (t : Bool) : List (Str × Value) := [(Str.ofString "strict", .bool t)]
theorem typeCall_zipS (a b : Value) : checkTypeCall "zip" ⟨[a, b], kwS true⟩ = pure () := by kernel_rfl
theorem newCall_zipS (a b : Value) : checkBuiltinCall "zip.__new__" ⟨[.type "zip", a, b], kwS true⟩ = pure () := by kernel_rfl
theorem args_initS (obj a b : Value) : argsOk "object.__init__" ⟨[obj, a, b], kwS true⟩ := by unfold argsOk; kernel_rfl
theorem meets_zipS_new (l1 l2 : Addr) (xs ys : Array Value) :
    Meets (Builtin.«zip.__new__» ⟨[.type "zip", .ref l1, .ref l2], kwS true⟩) (fun _ R s => s.heap.IsList l1 xs ∧ s.heap.IsList l2 ys ∧
      R (.ok (.ret (.ref (zipH4 s.heap l1 l2).objs.size))) { s with heap := zS5 s.heap l1 l2 }) :=
  .of_wp fun prog w A R s h => by
    obtain ⟨hp, g, d, tk, os⟩ := s; obtain ⟨hl1, hl2, h⟩ := h
    have hsub := sub_zip
    have hL1 : Heap.IsList (Shared.heap ⟨hp, g, d, tk, os⟩) l1 xs := hl1
    have hL2 : Heap.IsList (Shared.heap ⟨hp.push { cls := .type "list_iterator", data := .fields #[.ref l1, .int 0 0] }, g, d, tk, os⟩) l2 ys := Heap.IsList.push hl2 _
    have e2 : (Str.ofString "strict" != ("strict" : Str)) = false := by decide +kernel
    wp_walk using wpAny_pyIter_list hL1, wpAny_pyIter_list hL2
    exact ⟨_, rfl, h⟩
section
variable {prog : Program} {w : World} {A : Around} {E : Value → Shared → Prop} {s : Shared}
theorem call_zipS {l1 l2 : Addr} {xs ys : Array Value} {Q : Value → Shared → Prop} (hl1 : s.heap.IsList l1 xs) (hl2 : s.heap.IsList l2 ys)
    (h : ∀ h', IsZipS h' (s.heap.objs.size + 4) (s.heap.objs.size + 2) (s.heap.objs.size + 3) .none → IsPair h' (s.heap.objs.size + 2) (.ref s.heap.objs.size) (.ref (s.heap.objs.size + 1)) →
      IsPair h' (s.heap.objs.size + 3) .none .none → h'.IsListIter s.heap.objs.size l1 0 → h'.IsListIter (s.heap.objs.size + 1) l2 0 → h'.objs.size = s.heap.objs.size + 5 →
      (∀ c o, s.heap.get? c = some o → h'.get? c = some o) → Q (.ref (s.heap.objs.size + 4)) { s with heap := h' }) :
    wpAny (model prog w) A (call (.type "zip") [.ref l1, .ref l2] (kwS true)) Q E s := by
  refine callType_newKw F.called_zip (by decide) (typeCall_zipS _ _) (newCall_zipS _ _) (fun obj => args_initS obj _ _) F.entry_zip_new
    (meets_zipS_new l1 l2 xs ys) ⟨hl1, hl2, ?_⟩
  have z1 : (zipH1 s.heap l1).objs.size = s.heap.objs.size + 1 := Heap.size_push ..
  have z2 : (zipH2 s.heap l1 l2).objs.size = s.heap.objs.size + 2 := by rw [Heap.size_push, z1]
  have z3 : (zipH3 s.heap l1 l2).objs.size = s.heap.objs.size + 3 := by rw [Heap.size_push, z2]
  have z4 : (zipH4 s.heap l1 l2).objs.size = s.heap.objs.size + 4 := by rw [Heap.size_push, z3]
  have z5 : (zS5 s.heap l1 l2).objs.size = s.heap.objs.size + 5 := by rw [Heap.size_push, z4]
  have g5 : (zS5 s.heap l1 l2).get? (zipH4 s.heap l1 l2).objs.size = some _ := Heap.get?_push_size _ rfl
  have g4 : (zS5 s.heap l1 l2).get? (zipH3 s.heap l1 l2).objs.size = some _ := Heap.get?_push_of_some _ (Heap.get?_push_size _ rfl)
  have g3 : (zS5 s.heap l1 l2).get? (zipH2 s.heap l1 l2).objs.size = some _ := Heap.get?_push_of_some _ (Heap.get?_push_of_some _ (Heap.get?_push_size _ rfl))
  have g2 : (zS5 s.heap l1 l2).get? (zipH1 s.heap l1).objs.size = some _ := Heap.get?_push_of_some _ (Heap.get?_push_of_some _ (Heap.get?_push_of_some _ (Heap.get?_push_size _ rfl)))
  have g1 : (zS5 s.heap l1 l2).get? s.heap.objs.size = some _ := Heap.get?_push_of_some _ (Heap.get?_push_of_some _ (Heap.get?_push_of_some _ (Heap.get?_push_of_some _ (Heap.get?_push_size _ rfl))))
  show _ ∧ _
  rw [z2, z3, z4] at g5
  rw [z1, z2] at g3
  rw [z3] at g4
  rw [z1] at g2
  rw [z4]
  exact ⟨⟨_, g5, rfl⟩, h _ g5 g3 g4 ⟨_, g1, rfl, rfl⟩ ⟨_, g2, rfl, rfl⟩ z5 fun c o x =>
    Heap.get?_push_of_some _ (Heap.get?_push_of_some _ (Heap.get?_push_of_some _ (Heap.get?_push_of_some _ (Heap.get?_push_of_some _ x))))⟩
end
/-- two lists of one length, the items in new pairs -/
def ItS (K : Fg) (a b : Addr) : It :=
  ⟨(Itz K a b).go, (Itz K a b).yld, fun i H => ∃ xs ys : List V, SqL K H a xs ∧ SqL K H b ys ∧ xs.length ≤ i ∧ ys.length ≤ i⟩
theorem turn_zipS {P : Program} {w : World} {K : Fg} {elts : List Expr} {kk : Nat} {tpos : Pos} {a b z TI TO i1 i2 : Addr} (D : ZipApart z TI TO i1 i2 a b) :
    Turn P w K (.Tuple elts kk tpos) (ItS K a b) [z, TI, TO, i1, i2] z (fun i h => IsZipS h z TI TO .none ∧ IsPair h TI (.ref i1) (.ref i2) ∧ (∃ x y, IsPair h TO x y) ∧ h.IsListIter i1 a i ∧ h.IsListIter i2 b i) where
  mem := by simp
  obj := fun i h st c hc => by
    obtain ⟨hz, hTI, ⟨x, y, hTO⟩, ⟨o1, e1, _, d1⟩, ⟨o2, e2, _, d2⟩⟩ := st
    have e' : c = z ∨ c = TI ∨ c = TO ∨ c = i1 ∨ c = i2 := by simpa using hc
    rcases e' with q | q | q | q | q
    · rw [q]; exact ⟨_, hz, fun v q => nomatch q⟩
    · rw [q]; exact ⟨_, hTI, fun v q => nomatch q⟩
    · rw [q]; exact ⟨_, hTO, fun v q => nomatch q⟩
    · rw [q]; exact ⟨o1, e1, fun v q => by rw [d1] at q; cases q⟩
    · rw [q]; exact ⟨o2, e2, fun v q => by rw [d2] at q; cases q⟩
  keep := fun i h h' st k => by
    obtain ⟨hz, hTI, ⟨x, y, hTO⟩, h1, h2⟩ := st
    exact ⟨k z (by simp) _ hz, k TI (by simp) _ hTI, ⟨x, y, k TO (by simp) _ hTO⟩, h1.at fun o q => k i1 (by simp) o q, h2.at fun o q => k i2 (by simp) o q⟩
  item := by
    intro X hP hw hK hc i pins s σ H E I hf st hg
    subst hP hw hK
    obtain ⟨hz, hTI, ⟨x0, y0, hTO⟩, h1, h2⟩ := st
    obtain ⟨xs, ys, x, y, hqx, hqy, hx, hy⟩ := hg
    obtain ⟨its, rv, p, _⟩ := I.list hqx
    obtain ⟨its2, rv2, p2, _⟩ := I.list hqy
    obtain ⟨u, hu, ru⟩ := rv.get hx
    obtain ⟨u2, hu2, ru2⟩ := rv2.get hy
    have hzl : z < s.heap.objs.size := Heap.lt_size hz
    refine pyNext_zipS_item D hz hTI hTO h1 h2 p.isList p2.isList (x := u) (y := u2) (by simpa using hu) (by simpa using hu2) fun h' z' TO' h1' h2' hT hsz hk => ?_
    refine ⟨_, rfl, letGo_zipS (s := { s with heap := h' }) z' fun h'' z'' sb => ?_⟩
    have hT2 : h''.get? s.heap.objs.size = some { cls := .type "tuple", data := .seq #[u, u2] } := (sb.2 _ (Nat.ne_of_gt hzl)).trans hT
    have new : ObjOk X.prog X.w (upd H s.heap.objs.size (.tup [x, y])) h'' s.heap.objs.size (.tup [x, y]) :=
      ⟨by show 2 ≤ sizeLine; decide, [u, u2], .cons ru (.cons ru2 .nil), ⟨_, hT2, rfl, _, rfl⟩⟩
    have I1 : Inv X pins σ (upd H s.heap.objs.size (.tup [x, y])) { s with heap := h'' } :=
      I.turnedNew (t' := s.toks) (ch := [z, TI, TO, i1, i2]) (fun c o hb q => (sb.2 c (fun q' => hb (by simp [q']))).trans (hk c o (fun q' => hb (by simp [q'])) (fun q' => hb (by simp [q'])) (fun q' => hb (by simp [q'])) (fun q' => hb (by simp [q'])) q)) hf (Nat.le_refl _) new
    refine ⟨.ref s.heap.objs.size, _, I1, rfl, ⟨_, x, y, rfl, I.hok.fresh (Nat.le_refl _), rfl, fun l hl => by rw [I.list_inj hl hqx]; exact hx, fun l hl => by rw [I.list_inj hl hqy]; exact hy⟩, ⟨z'', ?_, ⟨u, u2, ?_⟩, ?_, ?_⟩, fun c hcm => ?_⟩
    · exact (sb.2 _ D.TIz).trans (hk _ _ D.TIz D.TITO D.TIi1 D.TIi2 hTI)
    · exact (sb.2 _ D.TOz).trans TO'
    · exact h1'.at fun o q => (sb.2 _ D.i1z).trans q
    · exact h2'.at fun o q => (sb.2 _ D.i2z).trans q
    · have hlt : c < s.heap.objs.size := by
        have e' : c = z ∨ c = TI ∨ c = TO ∨ c = i1 ∨ c = i2 := by simpa using hcm
        rcases e' with q | q | q | q | q
        · rw [q]; exact hzl
        · rw [q]; exact Heap.lt_size hTI
        · rw [q]; exact Heap.lt_size hTO
        · rw [q]; obtain ⟨_, e1, _⟩ := h1; exact Heap.lt_size e1
        · rw [q]; obtain ⟨_, e2, _⟩ := h2; exact Heap.lt_size e2
      rw [upd_ne (Nat.ne_of_lt hlt)]
      exact (hf c hcm).1
  done := by
    intro X hP hw hK hc i pins s σ H E I hf st hg
    subst hP hw hK
    obtain ⟨hz, hTI, ⟨x0, y0, hTO⟩, h1, h2⟩ := st
    obtain ⟨xs, ys, hqx, hqy, q1, q2⟩ := hg
    obtain ⟨its, rv, p, _⟩ := I.list hqx
    obtain ⟨its2, rv2, p2, _⟩ := I.list hqy
    have l1 := rv.length
    have l2 := rv2.length
    exact pyNext_zipS_end (I.ok.hd hc) D hz hTI hTO h1 h2 p.isList p2.isList (by simp; omega) (by simp; omega) fun h' hk => ⟨rfl, I.turnedL (t' := s.toks) (ch := [z, TI, TO, i1, i2]) (fun c o hb q =>
      hk c o (fun q' => hb (by simp [q'])) (fun q' => hb (by simp [q'])) (fun q' => hb (by simp [q'])) (fun q' => hb (by simp [q'])) q) hf⟩
  self := fun A i s Q E st h => pyIter_zipS st.1 h
def iZipS (K : Fg) (ta : TA) : TI := fun σ H R => ta σ H fun vs H1 => ∃ a b xs ys, vs = [.ref a, .ref b] ∧ SqL K H1 a xs ∧ SqL K H1 b ys ∧ R (ItS K a b) H1
theorem callWith_typeKw {M : Model} {A : Around} {E : Value → Shared → Prop} {s : Shared} {env : Env} {pos : Pos} {T : String} {e : Expr} {rest : List Expr} {kws : List Keyword} {Q : Value → Shared → Prop}
    (h : wpAny M A (spliced (backTo pos (starEach (e :: rest) env))) (fun vs s₁ => wpAny M A (evalAll ((backToKw pos (keywordEach kws env)).map (·.2)))
      (fun kvs s₂ => wpAny M A (call (.type T) vs (((backToKw pos (keywordEach kws env)).filterMap (·.1)).zip kvs)) Q E s₂) E s₁) E s)
    (he : backTo pos (starEach (e :: rest) env) = (false, eval e env) :: backTo pos (starEach rest env))
    (hplain : (backTo pos (starEach (e :: rest) env)).any (·.1) = false)
    (hall : (backToKw pos (keywordEach kws env)).all (·.1.isSome) = true)
    (hkw : (backToKw pos (keywordEach kws env)).any (·.1.isNone) = false) :
    wpAny M A (callWith pos (.type T) [] (backTo pos (starEach (e :: rest) env)) (backToKw pos (keywordEach kws env))) Q E s := by
  unfold callWith
  rw [he] at h hplain ⊢
  have h' : wpAny M A (evalArgs (.type T) true ((false, eval e env) :: backTo pos (starEach rest env)) (backToKw pos (keywordEach kws env))) (fun a s₁ => wpAny M A (call (.type T) ([] ++ a.pos) a.kw) Q E s₁) E s := evalArgs_kwB hall h
  refine wpAny_bind (wpAny_holding (wpAny_mono h' (fun a s₁ h₁ => wpAny_bind (wpAny_standAt ?_)) fun _ _ x => x))
  simp only [hplain, hkw, Bool.or_false]
  refine wpAny_bind (wpAny_pure ?_)
  exact wpAny_bind (wpAny_mono h₁ (fun r s₂ hr => wpAny_bind (wpAny_holding (wpAny_point (wpAny_pure hr)))) fun _ _ x => x)
theorem pi_zipS {X : Cx} {e e2 : Expr} {ta : TA} {p pos kpos tpos : Pos} {elts : List Expr} {kk : Nat} {kv : Expr} (hg : Gl X "zip") (hm : X.mg "zip" = none) (ha : PA X [e, e2] ta)
    (hkv : PE X kv (tC (.bl true)))
    (he : backTo pos (starEach [e, e2] X.env) = (false, eval e X.env) :: backTo pos (starEach [e2] X.env) := by rfl) (hpl : (backTo pos (starEach [e, e2] X.env)).any (·.1) = false := by rfl)
    (hall : (backToKw pos (keywordEach [⟨some "strict", kv, kpos⟩] X.env)).all (·.1.isSome) = true := by rfl) (hnone : (backToKw pos (keywordEach [⟨some "strict", kv, kpos⟩] X.env)).any (·.1.isNone) = false := by rfl)
    (hks : (backToKw pos (keywordEach [⟨some "strict", kv, kpos⟩] X.env)).filterMap (·.1) = [Str.ofString "strict"] := by rfl) :
    PI X (.Tuple elts kk tpos) (.Call (.Name "zip" p) [e, e2] [⟨some "strict", kv, kpos⟩] pos) (iZipS X.K ta) := by
  refine ⟨fun pins s σ H R I h => ?_⟩
  refine wpAny_Call_Name_kw (ld_blt I hg hm PyProof.Rows.boot_zip ?_ (by decide) (by decide))
  refine callWith_typeKw (thn (ha.run pos pins s σ H _ I h) fun us s1 ⟨vs, H1, I1, r1, q1⟩ => thn ((pk_cons (nm := some "strict") (kpos := kpos) hkv pk_nil).run pos pins s1 σ H1 (fun zs H2 => zs = [.bl true] ∧ H2 = H1) I1 ⟨rfl, rfl⟩) fun ws s2 ⟨zs, H2, I2, r2, q2⟩ => ?_) he hpl hall hnone
  rw [hks]
  obtain ⟨rfl, rfl⟩ := q2
  obtain ⟨a, b, xs, ys, ex, hqx, hqy, q⟩ := q1
  subst ex
  cases r2 with
  | cons rz rr2 =>
  cases rr2
  cases rz
  cases r1 with
  | cons r rr =>
    cases rr with
    | cons r' rr =>
      cases rr
      cases r
      cases r'
      obtain ⟨its, rv, p1, _⟩ := I2.list hqx
      obtain ⟨its2, rv2, p2, _⟩ := I2.list hqy
      have la : a < s2.heap.objs.size := p1.lt
      have lb : b < s2.heap.objs.size := p2.lt
      refine call_zipS p1.isList p2.isList fun h' hz hTI hTO h1 h2 hsz hk => pyIter_zipS hz ?_
      have I3 : Inv X pins σ H2 { s2 with heap := h' } := I2.kept (t' := s2.toks) hk
      refine ⟨s2.heap.objs.size + 4, [s2.heap.objs.size + 4, s2.heap.objs.size + 2, s2.heap.objs.size + 3, s2.heap.objs.size, s2.heap.objs.size + 1], _, _, H2, rfl, I3, turn_zipS (PySem.W.ktu_apart s2.heap.objs.size a b la lb), ⟨hz, hTI, ⟨_, _, hTO⟩, h1, h2⟩, fun c hcm => ?_, q⟩
      have e' : c = s2.heap.objs.size + 4 ∨ c = s2.heap.objs.size + 2 ∨ c = s2.heap.objs.size + 3 ∨ c = s2.heap.objs.size ∨ c = s2.heap.objs.size + 1 := by simpa using hcm
      have hle : s2.heap.objs.size ≤ c := by
        rcases e' with z | z | z | z | z
        · rw [z]; exact Nat.le_add_right _ _
        · rw [z]; exact Nat.le_add_right _ _
        · rw [z]; exact Nat.le_add_right _ _
        · rw [z]; exact Nat.le_refl _
        · rw [z]; exact Nat.le_add_right _ _
      exact I2.fpOk hle (I2.hok.fresh hle)
section
variable {K : Fg} {σ : L2.St} {H Hb : Hp} {ta tb : TE} {ds es : List PyData}
theorem it_zipS {a b : Addr} {xs ys : List V} (hs : SqL K Hb a xs) (hd : DpAll K Hb xs ds) (hs2 : SqL K Hb b ys) (hd2 : DpAll K Hb ys es) (hl : ds.length = es.length) : ItD K (ItS K a b) Hb (zipD ds es) where
  go := (it_zip hs hd hs2 hd2 hl).go
  yl := (it_zip hs hd hs2 hd2 hl).yl
  st := fun H e => ⟨xs, ys, ex_l e hs, ex_l e hs2, by
    unfold zipD
    rw [List.length_zipWith]
    have l := dpa_len hd
    have l2 := dpa_len hd2
    omega⟩
theorem ei_zipS (h : EvD K ta σ H (.list ds)) (h2 : EvD K tb σ H (.list es)) (hl : ds.length = es.length) : EvI K (iZipS K (tCons ta (tCons tb tNil))) σ H (zipD ds es) := fun F H1 p a R k =>
  h F H1 p a _ fun v H2 b hv => h2 F H2 (p.mono b) (a.trans (del_ex b)) _ fun w H3 c hw => by
    obtain ⟨q, xs, rfl, hs, hxs⟩ := of_dp_lst hv
    obtain ⟨q2, ys, rfl, hs2, hys⟩ := of_dp_lst hw
    exact ⟨q, q2, xs, ys, rfl, ex_l (c.trans (Ex.refl _)) (ex_l del_le hs), ex_l del_le hs2, k _ H3 (b.trans c) (it_zipS (ex_l (del_ex c) hs) ((del_ex c).dps hxs) hs2 hys hl)⟩
end
end Kx
/-! ## KM_Acc -/
set_option Elab.async false
set_option linter.all false
set_option maxRecDepth 100000
set_option maxHeartbeats 1000000
/-! Loops that fill a list; a dict's get; what compares. -/
namespace Kx
open PySem PySem.Spec PyProof.Rows L2 Evl
/-- all but l stands -/
def Kb (l : Addr) (H H' : Hp) : Prop := ∀ b o, b ≠ l → H b = some o → H' b = some o
section
variable {K : Fg} {σ σ2 : L2.St} {H H' H0 H1 H2 Hb : Hp} {ta tb te tx : TE} {g : TG} {P P2 : Hp → V → Prop} {F : Addr → Bool} {l : Addr} {wi : TI} {tbd : TS}
theorem Kb.of (e : Ex H H') : Kb l H H' := fun b o _ h => e b o h
theorem Kb.trans (a : Kb l H H1) (b : Kb l H1 H2) : Kb l H H2 := fun c o n h => b c o n (a c o n h)
theorem Kb.del (k : Kb l H H') (hF : F l = true) : Ex (del H F) (del H' F) := fun b o h => by
  obtain ⟨f, q⟩ := del_some h
  exact del_at f (k b o (fun z => by subst z; rw [hF] at f; cases f) q)
theorem Kb.prv (k : Kb l H H') (p : Prv F H) (hl : H' l ≠ none) : Prv F H' := fun b hb => by
  by_cases e : b = l
  · subst e; exact hl
  · intro z
    cases q : H b with
    | none => exact p b hb q
    | some o => rw [k b o e q] at z; cases z
theorem Kb.upd {o : HO} : Kb l H (upd H l o) := fun b o n h => by rw [upd_ne n]; exact h
theorem Kb.ex (k : Kb l H H') (hn : H0 l = none) (e : Ex H0 H) : Ex H0 H' := fun b o h => k b o (ne_of_none h hn) (e b o h)
theorem for_acc {α : Type} {as : List α} {en : α → PyData} {D : Ends} (hi : EvI K wi σ H (as.map en)) (p : Prv F H1) (e : Ex H (del H1 F)) (Fl : F l = true) (hl : H1 l = some (.lst [])) (hlen : as.length ≤ 50000)
    (S : L2.St → Prop) (S0 : S σ) (f : α → List PyData) (f1 : ∀ a, (f a).length ≤ 1)
    (turn : ∀ a, a ∈ as → ∀ x σ' H' acc, S σ' → Prv F H' → Ex (del H1 F) (del H' F) → Dp K (del H' F) x (en a) → H' l = some (.lst acc) → acc.length < 100000 →
      ∀ D' : Ends, (∀ σ'' H'' more, S σ'' → Kb l H' H'' → H'' l = some (.lst (acc ++ more)) → DpAll K (del H'' F) more (f a) → D'.nx σ'' H'') → g x σ' H' fun σ2 H3 => tbd D' σ2 H3)
    (done : ∀ σ' H' vs, S σ' → Kb l H1 H' → H' l = some (.lst vs) → DpAll K (del H' F) vs (as.flatMap f) → D.nx σ' H') : tFor wi g tbd D σ H1 := by
  refine for_d hi p e fun H2 b2 => ⟨fun i F' σ' H' => F' = F ∧ S σ' ∧ Kb l H1 H' ∧ ∃ vs, H' l = some (.lst vs) ∧ DpAll K (del H' F) vs ((as.take i).flatMap f), ⟨rfl, S0, .of b2, [], b2 _ _ hl, by simpa using DpAll.nil⟩, ?_, ?_, ?_⟩
  · rintro i F' σ' H' H'' ex ⟨rfl, s, k, vs, h1, h2⟩
    exact ⟨rfl, s, k.trans (.of ex), vs, ex _ _ h1, (del_ex ex).dps h2⟩
  · rintro i x σ' H' F' d hd ⟨rfl, s, k, vs, h1, h2⟩ pF eF hx
    rw [List.getElem?_map] at hd
    have hi : i < as.length := by
      cases q : as[i]? with
      | none => rw [q] at hd; cases hd
      | some a => exact (List.getElem?_eq_some_iff.mp q).1
    have hget : as[i]? = some as[i] := List.getElem?_eq_getElem hi
    rw [hget] at hd
    cases hd
    have lv : vs.length ≤ i := by
      rw [dpa_len h2, List.length_flatMap]
      have : ∀ l : List α, (l.map fun a => (f a).length).sum ≤ l.length := fun l => by
        induction l with
        | nil => simp
        | cons a r ih => rw [List.map_cons, List.sum_cons, List.length_cons]; have := f1 a; omega
      have := this (as.take i)
      rw [List.length_take] at this
      omega
    refine turn as[i] (List.getElem_mem hi) x σ' H' vs s pF (k.del Fl) hx h1 (by omega) _ fun σ'' H'' more s2 k2 q1 q2 => ?_
    have tk : as.take (i + 1) = as.take i ++ [as[i]] := by rw [List.take_succ, hget]; rfl
    refine ⟨F', ⟨rfl, s2, k.trans k2, vs ++ more, q1, ?_⟩, k2.prv pF (some_ne q1), eF.trans (k2.del Fl)⟩
    rw [tk, List.flatMap_append]
    refine dpa_app ((k2.del Fl).dps h2) ?_
    simpa using q2
  · rintro σ' H' F' ⟨rfl, s, k, vs, h1, h2⟩ pF eF
    rw [List.length_map, List.take_length] at h2
    exact done σ' H' vs s k h1 h2
/-- .. where a turn ends by xs.append(e) -/
theorem app_turn {D' : Ends} {i : Nat} {acc : List V} {d : PyData} {S : L2.St → Prop} (hv : σ[i]? = some (some (.ref l))) (hF : F l = true) (hH : H1 l = some (.lst acc)) (hz : acc.length < 100000) (hs : S σ) (q : Prv F H1) (k : Kb l H0 H1) (h : EvD K te σ (del H1 F) d)
    (nx : ∀ σ'' H'' more, S σ'' → Kb l H0 H'' → H'' l = some (.lst (acc ++ more)) → DpAll K (del H'' F) more [d] → D'.nx σ'' H'') : tDrop (tBM K "list" rAppend (tVar i) (tCons te tNil)) D' σ H1 :=
  app_ok hv hF hH hz (evp_of h) q (Ex.refl _) fun v H2 b hv hl => nx σ _ [v] hs (k.trans ((Kb.of b).trans .upd)) upd_same (by rw [del_upd hF]; exact .cons hv .nil)
/-- d.get(k, x) -/
theorem evp_dget2 {td ty : TE} {key : Key} {G : Prop} {Pd : Hp → V → Prop} (h1 : EvP td σ H P2) (m1 : Mon P2) (hP : ∀ H v, P2 H v → ∃ a kvs, v = .ref a ∧ Rd H a (.dK kvs) ∧ ((valV kvs key = none ∧ G) ∨ ∃ x, valV kvs key = some x ∧ P H x))
    (h2 : EvP ty σ H fun _ v => v = kV key) (h3 : EvP tx σ H Pd) (hd : G → ∀ H v, Pd H v → P H v) : EvP (tDGet2 td ty tx) σ H P := fun F H1 p e Q k =>
  h1 F H1 p e _ fun v H2 b hv => by
    obtain ⟨a, kvs, rfl, hr, _⟩ := hP _ _ hv
    refine ⟨a, rfl, .inl ⟨kvs, ex_rd del_le hr⟩, h2 F H2 (p.mono b) (e.trans (del_ex b)) _ fun y H3 b3 hy => h3 F H3 ((p.mono b).mono b3) (e.trans (del_ex (b.trans b3))) _ fun z H4 b4 hz => ?_⟩
    subst hy
    obtain ⟨a', kvs', q0, hr4, hc⟩ := hP _ _ (m1 _ _ _ (del_ex (b3.trans b4)) hv)
    cases q0
    refine ⟨valV kvs' key, .inl ⟨kvs', key, ex_rd del_le hr4, rfl, rfl⟩, ?_⟩
    rcases hc with ⟨c1, c2⟩ | ⟨x, c1, c2⟩
    · rw [c1]
      exact k z H4 (b.trans (b3.trans b4)) (hd c2 _ _ hz)
    · rw [c1]
      exact k x H4 (b.trans (b3.trans b4)) c2
theorem evp_dnew : EvP tDNewK σ H fun H v => ∃ d, v = .ref d ∧ H d = some (.dK []) := fun F H1 p e Q k => fun q hq =>
  k (.ref q) _ (Ex.new hq) ⟨q, rfl, del_at (p.no hq) upd_same⟩
/-! ### what compares -/
theorem canAll : ∀ {ds : List PyData}, (∀ d, d ∈ ds → d.canLay0 = true) → PyData.canLayAll0 ds = true
  | [], _ => rfl
  | d :: ds, h => by
    rw [PyData.canLayAll0, h d List.mem_cons_self, canAll fun x hx => h x (List.mem_cons_of_mem _ hx)]; rfl
theorem depAll {n : Nat} : ∀ {ds : List PyData}, (∀ d, d ∈ ds → d.depth ≤ n) → PyData.depthAll ds ≤ n
  | [], _ => Nat.zero_le _
  | d :: ds, h => by
    rw [PyData.depthAll]
    exact Nat.max_le.mpr ⟨h d List.mem_cons_self, depAll fun x hx => h x (List.mem_cons_of_mem _ hx)⟩
theorem shp_tup {ds : List PyData} (h : ∀ d, d ∈ ds → d.canLay0 = true ∧ d.depth ≤ 10) : SeqAt.shaped (.tuple ds) = true := by
  have h1 := canAll fun d hd => (h d hd).1
  have h2 := depAll fun d hd => (h d hd).2
  unfold SeqAt.shaped
  rw [PyData.canLay0, h1, PyData.depth]
  simp; omega
theorem shp_lst {ds : List PyData} (h : ∀ d, d ∈ ds → d.canLay0 = true ∧ d.depth ≤ 10) : SeqAt.shaped (.list ds) = true := by
  have h1 := canAll fun d hd => (h d hd).1
  have h2 := depAll fun d hd => (h d hd).2
  unfold SeqAt.shaped
  rw [PyData.canLay0, h1, PyData.depth]
  simp; omega
theorem can_int (i : Int) : (PyData.int i).canLay0 = true ∧ (PyData.int i).depth ≤ 10 := ⟨rfl, by rw [PyData.depth]; omega⟩
theorem can_pr (p : Nat × Nat) : (prD p).canLay0 = true ∧ (prD p).depth ≤ 10 := ⟨rfl, by simp only [PyData.depth, PyData.depthAll]; omega⟩
theorem eqv_ints (xs ys : List Nat) : PyData.eqvAll (xs.map inD) (ys.map inD) = decide (xs = ys) := by
  induction xs generalizing ys with
  | nil => cases ys <;> simp [PyData.eqvAll]
  | cons x xs ih =>
    cases ys with
    | nil => simp [PyData.eqvAll]
    | cons y ys =>
      rw [List.map_cons, List.map_cons, PyData.eqvAll, ih, PyData.eqv]
      rw [Bool.eq_iff_iff]
      simp
      intro _
      omega
theorem eqv_nil (ds : List PyData) : PyData.eqvAll ds [] = ds.isEmpty := by cases ds <;> rfl
end
end Kx
/-! ## KN_Truth -/
set_option Elab.async false
set_option linter.all false
set_option maxRecDepth 100000
set_option maxHeartbeats 2000000
/-! What holds in a web. -/
namespace Kx
open PySem PySem.Spec PyProof.Rows L2 Evl
section
variable {P : Program} {w : World} {K : Fg} {mg : Str → Option Value} {base : Heap}
abbrev R_from (K : Fg) (C : Addr) (H : Hp) (vs : List V) (P : Hp → V → Prop) : Prop := ∃ v W h x, vs = [v, .str (sg h), inV' x] ∧ VwF K C H v W ∧ P = fun H u => Dp K H u (.list ((ends (W.E h) x).map inD))
theorem mon_vw {C : Addr} {W : Web} : Mon fun H v => VwF K C H v W := fun _ _ _ e h => h.mono e
theorem mon_dp {d : PyData} : Mon fun H v => Dp K H v d := fun _ _ _ e h => e.dp h
theorem vw_led {σ : L2.St} {H : Hp} {C : Addr} {W : Web} {i : Nat} {v : V} (c : Cw K C) (hv : σ[i]? = some (some v)) (h : VwF K C H v W) : EvP (tFld K (tVar i) "led_by") σ H fun H v => ∃ d, v = .ref d ∧ LedF H d W.steps :=
  evp_fld (P2 := fun H v => VwF K C H v W) (evp_var hv mon_vw h) c.cls c.n2 fun H' v q => by
    obtain ⟨a, dx, d1, d2, rfl, h1, h2, h3⟩ := q
    exact ⟨a, dx, _, .ref d1, rfl, h1, by kernel_rfl, d1, rfl, h2⟩
theorem vw_tru {σ : L2.St} {H : Hp} {C : Addr} {W : Web} {i : Nat} {v : V} (c : Cw K C) (hv : σ[i]? = some (some v)) (h : VwF K C H v W) : EvP (tFld K (tVar i) "true_at") σ H fun H v => ∃ d, v = .ref d ∧ TruF K H d W.letters :=
  evp_fld (P2 := fun H v => VwF K C H v W) (evp_var hv mon_vw h) c.cls c.n3 fun H' v q => by
    obtain ⟨a, dx, d1, d2, rfl, h1, h2, h3⟩ := q
    exact ⟨a, dx, _, .ref d2, rfl, h1, by kernel_rfl, d2, rfl, h3⟩
theorem vw_many {σ : L2.St} {H : Hp} {C : Addr} {W : Web} {i : Nat} {v : V} (c : Cw K C) (hv : σ[i]? = some (some v)) (h : VwF K C H v W) : EvD K (tFld K (tVar i) "many") σ H (inD W.many) :=
  evd_of (evp_fld (P2 := fun H v => VwF K C H v W) (evp_var hv mon_vw h) c.cls c.n1 fun H' v q => by
    obtain ⟨a, dx, d1, d2, rfl, h1, h2, h3⟩ := q
    exact ⟨a, dx, _, _, rfl, h1, rfl, .int _⟩)
theorem wv_led_from_ok {C : Addr} (c : Cw K C) (D : Mtd K C "led_from" "WebView.led_from" s_wv_led_from) : Met P w K mg base 1 C "led_from" (spV (R_from K C)) := by
  refine met_of c.cls D sc_wv_led_from (fun _ _ _ _ _ _ us hl => match us, hl with | [_, _, _], _ => rfl) (spV_len fun H vs P h => by obtain ⟨_, _, _, _, rfl, _⟩ := h; rfl) fun f cdv A outer s H vs Q E hr h => ?_
  refine ⟨_, (pss_cons (ps_set (i := 3) sc_wv_led_from.nd rfl (Or.inl rfl) (pe_dget2 (hu_of hr) (pe_fld (pv 0) rfl) (pv 1) pe_dnewK ⟨rfl, rfl, rfl, rfl⟩))
        (pss_one (ps_ret (pe_dget2 (hu_of hr) (pv 3) (pv 2) (pe_lst pa_nil) ⟨rfl, rfl, rfl, rfl⟩)))), ?_⟩
  refine retP_of h fun P H hR => ?_
  obtain ⟨v, W, hh, x, rfl, hv, rfl⟩ := hR
  refine rp_set (P2 := fun H v => ∃ r, v = .ref r ∧ RowF H r (W.E hh)) (evp_dget2 (key := .inr (sg hh)) (G := W.E hh = []) (vw_led c rfl hv) (fun H H' v e ⟨d, q1, q2⟩ => ⟨d, q1, q2.rd (.of e)⟩) (fun H v ⟨d, q1, kvs, q2, q3⟩ => ?_) (evp_var rfl (fun _ _ _ _ z => z) rfl) evp_dnew (fun g H v ⟨d, q1, q2⟩ => ⟨d, q1, [], .inl q2, fun x => .inl ⟨rfl, by rw [g]; rfl⟩⟩)) fun rv H1 e1 hrv => ?_
  · refine ⟨d, kvs, q1, q2, ?_⟩
    rcases led_get (h := hh) q3 with q | ⟨r, q4, q5⟩
    · exact .inl q
    · exact .inr ⟨_, q4, r, rfl, q5⟩
  · refine rp_ret (evp_dget2 (P2 := fun H v => ∃ r, v = .ref r ∧ RowF H r (W.E hh)) (key := .inl (x : Int)) (G := ends (W.E hh) x = []) (Pd := fun H v => Dp K H v (.list [])) (evp_var rfl (fun H H' v e ⟨r, q1, q2⟩ => ⟨r, q1, q2.rd (.of e)⟩) hrv) (fun H H' v e ⟨r, q1, q2⟩ => ⟨r, q1, q2.rd (.of e)⟩) (fun H v ⟨r, q1, kvs, q2, q3⟩ => ?_)
      (evp_var rfl (fun _ _ _ _ z => z) rfl) (evp_of (evd_lst evds_nil)) (fun g H v q => by rw [g]; exact q))
    refine ⟨r, kvs, q1, q2, ?_⟩
    rcases q3 x with q | ⟨l, q4, q5⟩
    · exact .inl q
    · exact .inr ⟨_, q4, .lst (.inl q5) (dpa_of_inV _)⟩
abbrev R_has (K : Fg) (C : Addr) (H : Hp) (vs : List V) (P : Hp → V → Prop) : Prop := ∃ v W c x, vs = [v, .str (sg c), inV' x] ∧ VwF K C H v W ∧ P = fun H u => Dp K H u (.bool (decide (x ∈ W.L c)))
theorem ints_mem {x : Nat} {ws : List Nat} : decide ((x : Int) ∈ ws.map fun y : Nat => (y : Int)) = decide (x ∈ ws) := by
  refine decide_eq_decide.mpr ⟨fun h => ?_, fun h => List.mem_map.mpr ⟨x, h, rfl⟩⟩
  obtain ⟨y, hy, e⟩ := List.mem_map.mp h
  have : y = x := by omega
  exact this ▸ hy
theorem inDs (ws : List Nat) : ws.map inD = (ws.map fun y : Nat => (y : Int)).map PyData.int := by rw [List.map_map]; rfl
theorem wv_has_letter_ok {C : Addr} (c : Cw K C) (D : Mtd K C "has_letter" "WebView.has_letter" s_wv_has_letter) : Met P w K mg base 1 C "has_letter" (spV (R_has K C)) := by
  refine met_of c.cls D sc_wv_has_letter (fun _ _ _ _ _ _ us hl => match us, hl with | [_, _, _], _ => rfl) (spV_len fun H vs P h => by obtain ⟨_, _, _, _, rfl, _⟩ := h; rfl) fun f cdv A outer s H vs Q E hr h => ?_
  refine ⟨_, (pss_one (ps_ret (pe_cmpR (show OpR _ _ (rIn K false) from op_in_seq) (pv 2) (pe_dget2 (hu_of hr) (pe_fld (pv 0) rfl) (pv 1) (pe_tup pa_nil) ⟨rfl, rfl, rfl, rfl⟩) (by rfl)))), ?_⟩
  refine retP_of h fun P H hR => ?_
  obtain ⟨v, W, cc, x, rfl, hv, rfl⟩ := hR
  have h2 : EvD K (tDGet2 (tFld K (tVar 0) "true_at") (tVar 1) (tTup tNil)) [some v, some (.str (sg cc)), some (inV' x)] H (.tuple ((W.L cc).map inD)) := by
    refine evd_of (evp_dget2 (key := .inr (sg cc)) (G := W.L cc = []) (Pd := fun H v => Dp K H v (.tuple [])) (vw_tru c rfl hv) (fun H H' v e ⟨d, q1, q2⟩ => ⟨d, q1, q2.rd (.of e)⟩) (fun H v ⟨d, q1, kvs, q2, q3⟩ => ?_) (evp_var rfl (fun _ _ _ _ z => z) rfl) (evp_of (evd_tup evds_nil)) (fun g H v q => by rw [g]; exact q))
    refine ⟨d, kvs, q1, q2, ?_⟩
    rcases tru_get (h := cc) q3 with q | ⟨t, q4, q5⟩
    · exact .inl q
    · exact .inr ⟨_, q4, .tup q5 (dpa_of_inV _)⟩
  refine rp_ret (evp_of (evd_is (evd_inI (neg := false) (ss := (W.L cc).map fun y : Nat => (y : Int)) (evd_var (v := inV' x) rfl (.int _)) h2 (by rw [← inDs]; rfl)) ?_))
  rw [ints_mem]; rfl

/-! ### must, may; and, or -/
abbrev blD (f : Nat → Bool) (n : Nat) : PyData := .list (((List.range n).map f).map PyData.bool)
abbrev R_step (ds : List PyData) (d : PyData) : Prop := ∃ W b h m f, ds = [encW W, .str (hdw (.md b h m)), .str (sg h), blD f W.many] ∧ WOk W ∧ d = blD (fun x => if b then (ends (W.E h) x).all f else (ends (W.E h) x).any f) W.many
theorem ends_lt {W : Web} (hW : WOk W) {h x y : Nat} (hy : y ∈ ends (W.E h) x) : y < W.many := by
  obtain ⟨p, hp, rfl⟩ := List.mem_map.mp hy
  have hp := (List.mem_filter.mp hp).1
  rcases asc_mem (d := ([] : List (Nat × Nat))) (l := W.steps) (x := h) with q | q
  · rw [show W.E h = [] from q] at hp; cases hp
  · exact (hW.prm _ q p hp).2
theorem E_len {W : Web} (hW : WOk W) (h : Nat) : (W.E h).length ≤ 10000 := by
  rcases asc_mem (d := ([] : List (Nat × Nat))) (l := W.steps) (x := h) with q | q
  · rw [show W.E h = [] from q]; exact Nat.zero_le _
  · exact hW.prl _ q
theorem ends_len {W : Web} (hW : WOk W) (h x : Nat) : (ends (W.E h) x).length ≤ 10000 := by
  unfold ends
  rw [List.length_map]
  exact Nat.le_trans (List.length_filter_le _ _) (E_len hW h)
theorem rng_map (n : Nat) : rngD 0 n = (List.range n).map inD := by
  unfold rngD
  refine List.map_congr_left fun i _ => ?_
  simp
theorem step_truths_ok {C : Addr} (T : Tx K w mg) (c : Cw K C) (D : Dfn K mg "step_truths" s_step_truths) (k_wv : Mak P w K mg base 2 C "WebView" (spWV K C)) (m_wv_led_from : Met P w K mg base 1 C "led_from" (spV (R_from K C))) :
    Cal P w K mg base 4 "step_truths" (spR K R_step) := by
  refine cal_of (k := 3) D sc_step_truths (fun _ _ _ _ _ _ us hl => match us, hl with | [_, _, _, _], _ => rfl) (spR_len fun ds d h => by obtain ⟨_, _, _, _, _, rfl, _⟩ := h; rfl) fun fa cdv A outer s H vs Q E hr h => ?_
  refine ⟨_, (pss_cons (ps_set (i := 4) sc_step_truths.nd rfl (Or.inl rfl) (pk_ k_wv hr (by omega) (pa_cons (pv 0) pa_nil)))
        (pss_cons (ps_set (i := 5) sc_step_truths.nd rfl (Or.inl rfl) (pe_lst pa_nil))
        (pss_cons (ps_for PassesOwn.never rfl (pi_range1 rfl T.range_ (pa_cons (pe_fld (pv 4) rfl) pa_nil)) (pg_name (i := 6) sc_step_truths.nd rfl (Or.inl rfl)) (pss_cons (ps_setLc (i := 7) (own := [("end", 8)]) (g := gName 8) (tt := tYes) rfl sc_step_truths.nd rfl rfl (sw_true rfl rfl rfl (by decide +kernel)) (pi_list (pm_ m_wv_led_from hr (by omega) (pv 4) (pa_cons (pv 2) (pa_cons (pv 6) pa_nil)))) (blkOk_by (N := n_step_truths) (sc := defScope s_step_truths) (own := [("end", 8)]) (by decide +kernel)) (fun _ _ _ _ _ => (pg_name (i := 8) sc_step_truths.nd rfl (Or.inl rfl))) (fun _ _ _ _ _ => pts_nil) (fun _ _ _ _ _ => (pe_ix (show IxR _ (rIxL K) from ix_list) (pv 3) (pv 8) (fun _ _ => rfl))))
        (pss_one (ps_expr (pe_bm PySem.F.plainAttrs_list PySem.F.slot_list_append PySem.F.type_list_append mt_append (pv 5) (pa_cons (pe_ifExp (pt_cmpR op_eq (pv 1) pe_str (nomark _)) (pe_callB (cr_all rfl) rfl T.all_ (by decide +kernel) (pa_cons (pv 7) pa_nil)) (pe_callB (cr_any rfl) rfl T.any_ (by decide +kernel) (pa_cons (pv 7) pa_nil))) pa_nil))))))
        (pss_one (ps_ret (pv 5)))))), ?_⟩
  refine ret_of h fun ds d H hd hR => ?_
  obtain ⟨W, b, hh, m, f, rfl, hW, rfl⟩ := hR
  obtain ⟨x0, x1, x2, x3, rfl, h0, h1, h2, h3⟩ := of_four hd
  refine rd_setP (evp_make (evd_var rfl h0) hW) fun v4 H1 e1 h4 => ?_
  intro F H2 p2 e2 D q
  refine ⟨by show (0 : Nat) ≤ sizeLine; omega, fun l hl => ?_⟩
  have e3 := ex_add hl e2 (Ex.new (o := .lst []) hl)
  have p3 : Prv (add F l) (upd H2 l (.lst [])) := (p2.mono (Ex.new hl)).add (some_ne upd_same)
  have hi : EvI K (iRng1 (tCons (tFld K (tVar 4) "many") tNil)) [some x0, some x1, some x2, some x3, some v4, some (.ref l), none, none, none] H1 ((List.range W.many).map inD) := by
    rw [← rng_map]
    exact ei_rng (n := W.many) (vw_many (i := 4) (v := v4) c rfl h4) (by have := hW.many; omega)
  refine for_acc (F := add F l) (l := l) (as := List.range W.many) (en := inD) hi p3 e3 add_self upd_same (by rw [List.length_range]; have := hW.many; omega)
    (fun σ => σ.length = 9 ∧ σ[1]? = some (some x1) ∧ σ[2]? = some (some x2) ∧ σ[3]? = some (some x3) ∧ σ[4]? = some (some v4) ∧ σ[5]? = some (some (.ref l))) ⟨rfl, rfl, rfl, rfl, rfl, rfl⟩
    (fun x => [.bool (if b then (ends (W.E hh) x).all f else (ends (W.E hh) x).any f)]) (fun _ => Nat.le_refl _) ?_ ?_
  · intro a ha xv σ' H' acc ⟨sl, s1, s2, s3, s4, s5⟩ pF eF hx hac hlen D' nx
    obtain rfl := of_dp_int hx
    have eA : Ex H1 (del H' (add F l)) := e3.trans eF
    have g1 := (e1.trans eA).dp h1
    have g2 := (e1.trans eA).dp h2
    have g3 := (e1.trans eA).dp h3
    have g4 : VwF K C (del H' (add F l)) v4 W := h4.mono eA
    obtain rfl := of_dp_str g2
    let σ1 := σ'.set 6 (some (.int (a : Int)))
    have t1 : σ1[1]? = some (some x1) := by rw [List.getElem?_set_ne (by decide)]; exact s1
    have t2 : σ1[2]? = some (some (.str (sg hh))) := by rw [List.getElem?_set_ne (by decide)]; exact s2
    have t3 : σ1[3]? = some (some x3) := by rw [List.getElem?_set_ne (by decide)]; exact s3
    have t4 : σ1[4]? = some (some v4) := by rw [List.getElem?_set_ne (by decide)]; exact s4
    have t5 : σ1[5]? = some (some (.ref l)) := by rw [List.getElem?_set_ne (by decide)]; exact s5
    have t6 : σ1[6]? = some (some (.int (a : Int))) := List.getElem?_set_self (by omega)
    have tl : σ1.length = 9 := by rw [List.length_set]; exact sl
    have led : EvD K (tMeth C "led_from" (spV (R_from K C)) [] E0 (tVar 4) (tCons (tVar 2) (tCons (tVar 6) tNil))) σ1 (del H' (add F l)) (.list ((ends (W.E hh) a).map inD)) :=
      evd_of (evp_meth (P2 := fun H v => VwF K C H v W) (evp_var t4 mon_vw g4) (fun H v ⟨q1, dx, d1, d2, q2, q3, _⟩ => ⟨q1, dx, _, q2, q3, by kernel_rfl⟩) mon_vw (evds_cons (evd_var t2 g2) (evds_cons (evd_var t6 (.int _)) evds_nil)) fun H' v vs e hv hvs => by
        obtain ⟨y1, y2, rfl, hy1, hy2⟩ := of_two hvs
        obtain rfl := of_dp_str hy1
        obtain rfl := of_dp_int hy2
        exact ⟨v, W, hh, a, rfl, hv, rfl⟩)
    have lc := evd_lcA (K := K) (σ := σ1) (H := del H' (add F l)) (te := tOp (rIxL K) (tVar 3) (tVar 8)) (vs := [8]) (j := 8) (as := ends (W.E hh) a) (en := inD) (fun y => .bool (f y)) (ei_lst led) (by have := ends_len hW hh a; omega) ?_ ?_
    rotate_left
    · intro y
      show wipe ((wipe σ1 [8]).set 8 (some y)) [8] = wipe σ1 [8]
      simp [wipe]
    · intro y hy yv H5 e5 hyv
      refine evd_ixL (i := y) (ds := ((List.range W.many).map f).map PyData.bool) (evd_var (v := x3) ?_ (e5.dp g3)) (evd_var (v := yv) ?_ hyv) ?_
      · simp [wipe, t3]
      · simp [wipe, tl]
      · have := ends_lt hW hy
        simp [this]
    dsimp only [tSeq, tAsg, gName]
    refine lc (add F l) H' pF (Ex.refl _) _ fun v7 H5 e5 h7 => ?_
    have pF5 := pF.mono e5
    refine app_turn (H0 := H') (l := l) (σ := σ1.set 7 (some v7)) (i := 5) (S := fun σ => σ.length = 9 ∧ σ[1]? = some (some x1) ∧ σ[2]? = some (some (.str (sg hh))) ∧ σ[3]? = some (some x3) ∧ σ[4]? = some (some v4) ∧ σ[5]? = some (some (.ref l))) (d := .bool (if b then (ends (W.E hh) a).all f else (ends (W.E hh) a).any f)) ?_ add_self (e5 _ _ hac) hlen ?_ pF5 (.of e5) ?_ nx
    · rw [List.getElem?_set_ne (by decide)]; exact t5
    · refine ⟨by rw [List.length_set]; exact tl, ?_, ?_, ?_, ?_, ?_⟩ <;> rw [List.getElem?_set_ne (by decide)] <;> assumption
    · have e7 : EvD K (tVar 7) (σ1.set 7 (some v7)) (del H5 (add F l)) (.list (((ends (W.E hh) a).map f).map PyData.bool)) := evd_var (List.getElem?_set_self (by omega)) (by rw [List.map_map]; exact h7)
      have e1' : EvD K (tVar 1) (σ1.set 7 (some v7)) (del H5 (add F l)) (.str (hdw (.md b hh m))) := evd_var (v := x1) (by rw [List.getElem?_set_ne (by decide)]; exact t1) ((del_ex e5).dp g1)
      cases b
      · refine evd_ifF (eqT e1' evd_str (by kernel_rfl)) (evd_is (evd_any e7) ?_)
        simp [List.any_map]
      · refine evd_ifT (eqT e1' evd_str (by kernel_rfl)) (evd_is (evd_all e7) ?_)
        simp [List.all_map]
  · intro σ' H' vs ⟨sl, s1, s2, s3, s4, s5⟩ kb hl' hvs
    refine ⟨_, s5, q _ H' (kb.ex hl (Ex.new hl)) (.lst (sq_of (del_at (p2.no hl) hl')) ?_)⟩
    have := del_add_le.dps hvs
    have e : (List.range W.many).flatMap (fun x => [PyData.bool (if b then (ends (W.E hh) x).all f else (ends (W.E hh) x).any f)]) = ((List.range W.many).map fun x => if b then (ends (W.E hh) x).all f else (ends (W.E hh) x).any f).map PyData.bool := by
      rw [List.map_map, ← List.flatMap_singleton' ((List.range W.many).map _), List.flatMap_map]; rfl
    rw [e] at this
    exact this
end
end Kx
/-! ## KO_Truth -/
set_option Elab.async false
set_option linter.all false
set_option maxRecDepth 100000
set_option maxHeartbeats 2000000
/-! What holds in a web: joined, told, a web cut. -/
namespace Kx
open PySem PySem.Spec PyProof.Rows L2 Evl
abbrev satW (W : Web) (s : Sy) (x : Nat) : Bool := sat W.E W.L s (List.range W.many) x
section
variable {P : Program} {w : World} {K : Fg} {mg : Str → Option Value} {base : Heap}
abbrev R_truth (n : Nat) (ds : List PyData) (d : PyData) : Prop := ∃ W s, ds = [encW W, enc s] ∧ WOk W ∧ ld s ≤ n ∧ wide s = true ∧ d = blD (satW W s) W.many
abbrev R_join (n : Nat) (ds : List PyData) (d : PyData) : Prop := ∃ W b l, ds = [encW W, .str (hdw (.jn b l)), .tuple (encL l)] ∧ WOk W ∧ ldL l ≤ n ∧ wide (.jn b l) = true ∧ d = blD (satW W (.jn b l)) W.many
abbrev R_toldt (n : Nat) (ds : List PyData) (d : PyData) : Prop := ∃ W f s, ds = [encW W, enc f, enc s] ∧ WOk W ∧ ld f ≤ n ∧ ld s ≤ n ∧ wide f = true ∧ wide s = true ∧ d = blD (satW W (.td f s)) W.many
abbrev R_anew (ds : List PyData) (d : PyData) : Prop := ∃ W ks, ds = [encW W, .list (ks.map inD)] ∧ WOk W ∧ ks.Nodup ∧ ks.length ≤ 100 ∧ d = encW (cutW W ks)
theorem joined_truths_ok (T : Tx K w mg) (D : Dfn K mg "joined_truths" s_joined_truths) {n k : Nat} (c_truths_in : Cal P w K mg base k "truths_in" (spR K (R_truth n))) : Cal P w K mg base (k + 1) "joined_truths" (spR K (R_join n)) := by
  refine cal_of D sc_joined_truths (fun _ _ _ _ _ _ us hl => match us, hl with | [_, _, _], _ => rfl) (spR_len fun ds d h => by obtain ⟨_, _, _, rfl, _⟩ := h; rfl) fun fa cdv A outer s H vs Q E hr h => ?_
  refine ⟨_, (pss_cons (ps_setLc (i := 3) (own := [("one", 7)]) (g := gName 7) (tt := tYes) rfl sc_joined_truths.nd rfl rfl (sw_true rfl rfl rfl (by decide +kernel)) (pi_tup (pv 2)) (blkOk_by (N := n_joined_truths) (sc := defScope s_joined_truths) (own := [("one", 7)]) (by decide +kernel)) (fun _ _ _ _ _ => (pg_name (i := 7) sc_joined_truths.nd rfl (Or.inl rfl))) (fun _ _ _ _ _ => pts_nil) (fun _ _ _ _ _ => (pc_ c_truths_in hr (by omega) (pa_cons (pv 0) (pa_cons (pv 7) pa_nil)))))
        (pss_cons (ps_set (i := 4) sc_joined_truths.nd rfl (Or.inl rfl) (pe_lst pa_nil))
        (pss_cons (ps_for PassesOwn.never rfl (pi_range1 rfl T.range_ (pa_cons (pe_ix (show IxR _ (rIxT K) from ix_tup) (pv 0) pe_int (fun _ _ => rfl)) pa_nil)) (pg_name (i := 5) sc_joined_truths.nd rfl (Or.inr rfl)) (pss_cons (ps_setLc (i := 6) (own := [("row", 8)]) (g := gName 8) (tt := tYes) rfl sc_joined_truths.nd rfl rfl (sw_true rfl rfl rfl (by decide +kernel)) (pi_list (pv 3)) (blkOk_by (N := n_joined_truths) (sc := defScope s_joined_truths) (own := [("row", 8)]) (by decide +kernel)) (fun _ _ _ _ _ => (pg_name (i := 8) sc_joined_truths.nd rfl (Or.inl rfl))) (fun _ _ _ _ _ => pts_nil) (fun _ _ _ _ _ => (pe_ix (show IxR _ (rIxL K) from ix_list) (pv 8) (pv 5) (fun _ _ => rfl))))
        (pss_one (ps_expr (pe_bm PySem.F.plainAttrs_list PySem.F.slot_list_append PySem.F.type_list_append mt_append (pv 4) (pa_cons (pe_ifExp (pt_cmpR op_eq (pv 1) pe_str (nomark _)) (pe_callB (cr_all rfl) rfl T.all_ (by decide +kernel) (pa_cons (pv 6) pa_nil)) (pe_callB (cr_any rfl) rfl T.any_ (by decide +kernel) (pa_cons (pv 6) pa_nil))) pa_nil))))))
        (pss_one (ps_ret (pv 4)))))), ?_⟩
  refine ret_of h fun ds d H hd hR => ?_
  obtain ⟨W, b, ss, rfl, hW, hld, hw, rfl⟩ := hR
  obtain ⟨x0, x1, x2, rfl, h0, h1, h2⟩ := of_three hd
  obtain ⟨hw1, hw2⟩ := wide_jn hw
  refine rd_set (evd_lcA (as := ss) (en := enc) (fun u => blD (satW W u) W.many) (ei_tup (evd_is (evd_var rfl h2) (by rw [encL_map]))) (by omega) (fun _ => rfl)
    (fun u hu y H1 e hy => evd_call (evds_cons (evd_var rfl (e.dp h0)) (evds_cons (evd_var rfl hy) evds_nil)) ⟨W, u, rfl, hW, Nat.le_trans (ld_mem hu) hld, hw2 u hu, rfl⟩)) fun v3 H1 e1 h3 => ?_
  intro F H2 p2 e2 D q
  refine ⟨by show (0 : Nat) ≤ sizeLine; omega, fun l hl => ?_⟩
  have e3 := ex_add hl e2 (Ex.new (o := .lst []) hl)
  have p3 : Prv (add F l) (upd H2 l (.lst [])) := (p2.mono (Ex.new hl)).add (some_ne upd_same)
  have hi : EvI K (iRng1 (tCons (tOp (rIxT K) (tVar 0) (tC (.int 0))) tNil)) [some x0, some x1, some x2, some v3, some (.ref l), none, none, none, none] H1 ((List.range W.many).map inD) := by
    rw [← rng_map]
    exact ei_rng (n := W.many) (evd_ixT (i := 0) (evd_var rfl (e1.dp h0)) evd_int rfl) (by have := hW.many; omega)
  refine for_acc (F := add F l) (l := l) (as := List.range W.many) (en := inD) hi p3 e3 add_self upd_same (by rw [List.length_range]; have := hW.many; omega)
    (fun σ => σ.length = 9 ∧ σ[1]? = some (some x1) ∧ σ[3]? = some (some v3) ∧ σ[4]? = some (some (.ref l))) ⟨rfl, rfl, rfl, rfl⟩
    (fun x => [.bool (satW W (.jn b ss) x)]) (fun _ => Nat.le_refl _) ?_ ?_
  · intro a ha xv σ' H' acc ⟨sl, s1, s3, s4⟩ pF eF hx hac hlen D' nx
    obtain rfl := of_dp_int hx
    have ha' := List.mem_range.mp ha
    have eA : Ex H1 (del H' (add F l)) := e3.trans eF
    have g1 := (e1.trans eA).dp h1
    have g3 := eA.dp h3
    let σ1 := σ'.set 5 (some (.int (a : Int)))
    have t1 : σ1[1]? = some (some x1) := by rw [List.getElem?_set_ne (by decide)]; exact s1
    have t3 : σ1[3]? = some (some v3) := by rw [List.getElem?_set_ne (by decide)]; exact s3
    have t4 : σ1[4]? = some (some (.ref l)) := by rw [List.getElem?_set_ne (by decide)]; exact s4
    have t5 : σ1[5]? = some (some (.int (a : Int))) := List.getElem?_set_self (by omega)
    have tl : σ1.length = 9 := by rw [List.length_set]; exact sl
    have lc := evd_lcA (K := K) (σ := σ1) (H := del H' (add F l)) (te := tOp (rIxL K) (tVar 8) (tVar 5)) (vs := [8]) (j := 8) (as := ss) (en := fun u => blD (satW W u) W.many) (fun u => .bool (satW W u a)) (ei_lst (evd_var t3 g3)) (by omega) ?_ ?_
    rotate_left
    · intro y
      show wipe ((wipe σ1 [8]).set 8 (some y)) [8] = wipe σ1 [8]
      simp [wipe]
    · intro u hu yv H5 e5 hyv
      refine evd_ixL (i := a) (ds := ((List.range W.many).map (satW W u)).map PyData.bool) (evd_var (v := yv) ?_ hyv) (evd_var (v := .int (a : Int)) ?_ (.int _)) ?_
      · simp [wipe, tl]
      · simp [wipe, t5]
      · simp [ha']
    dsimp only [tSeq, tAsg, gName]
    refine lc (add F l) H' pF (Ex.refl _) _ fun v7 H5 e5 h7 => ?_
    have pF5 := pF.mono e5
    refine app_turn (H0 := H') (l := l) (σ := σ1.set 6 (some v7)) (i := 4) (S := fun σ => σ.length = 9 ∧ σ[1]? = some (some x1) ∧ σ[3]? = some (some v3) ∧ σ[4]? = some (some (.ref l))) (d := .bool (satW W (.jn b ss) a)) ?_ add_self (e5 _ _ hac) hlen ?_ pF5 (.of e5) ?_ nx
    · rw [List.getElem?_set_ne (by decide)]; exact t4
    · refine ⟨by rw [List.length_set]; exact tl, ?_, ?_, ?_⟩ <;> rw [List.getElem?_set_ne (by decide)] <;> assumption
    · have e7 : EvD K (tVar 6) (σ1.set 6 (some v7)) (del H5 (add F l)) (.list ((ss.map fun u => satW W u a).map PyData.bool)) := evd_var (List.getElem?_set_self (by omega)) (by rw [List.map_map]; exact h7)
      have e1' : EvD K (tVar 1) (σ1.set 6 (some v7)) (del H5 (add F l)) (.str (hdw (.jn b ss))) := evd_var (v := x1) (by rw [List.getElem?_set_ne (by decide)]; exact t1) ((del_ex e5).dp g1)
      cases b
      · refine evd_ifF (eqT e1' evd_str (by kernel_rfl)) (evd_is (evd_any e7) ?_)
        show _ = PyData.bool (sat _ _ _ _ _)
        rw [sat_jf]
        simp [List.any_map]
      · refine evd_ifT (eqT e1' evd_str (by kernel_rfl)) (evd_is (evd_all e7) ?_)
        show _ = PyData.bool (sat _ _ _ _ _)
        rw [sat_jt]
        simp [List.all_map]
  · intro σ' H' vs ⟨sl, s1, s3, s4⟩ kb hl' hvs
    refine ⟨_, s4, q _ H' (kb.ex hl (Ex.new hl)) (.lst (sq_of (del_at (p2.no hl) hl')) ?_)⟩
    have := del_add_le.dps hvs
    have e : (List.range W.many).flatMap (fun x => [PyData.bool (satW W (.jn b ss) x)]) = ((List.range W.many).map (satW W (.jn b ss))).map PyData.bool := by
      rw [List.map_map, ← List.flatMap_singleton' ((List.range W.many).map _), List.flatMap_map]; rfl
    rw [e] at this
    exact this

/-! ### a web cut -/
theorem wipe_pair {σ : L2.St} {i j : Nat} {x y : Option V} (h : i ≠ j) : wipe (((wipe σ [i, j]).set i x).set j y) [i, j] = wipe σ [i, j] := by
  refine List.ext_getElem? fun k => ?_
  simp only [wipe, List.foldl, List.getElem?_set, List.length_set]
  by_cases h1 : i = k
  · subst h1
    by_cases h2 : j = i
    · exact absurd h2.symm h
    · simp [h2]
  · by_cases h2 : j = k
    · subst h2; simp
    · simp [h1, h2]
theorem enum_eq (ds : List PyData) : enumD ds = (ds.zipIdx).map fun a => .tuple [inD a.2, a.1] := by
  refine List.ext_getElem? fun i => ?_
  unfold enumD
  rw [List.getElem?_zipWith, List.getElem?_map, List.getElem?_zipIdx]
  by_cases h : i < ds.length
  · rw [List.getElem?_range h, List.getElem?_eq_getElem h]; simp
  · rw [List.getElem?_eq_none (l := List.range ds.length) (by simpa using h), List.getElem?_eq_none (l := ds) (by omega)]; rfl
theorem zipIdx_mapD {α : Type} (f : α → PyData) : ∀ (l : List α) (n : Nat), (l.map f).zipIdx n = (l.zipIdx n).map fun a => (f a.1, a.2)
  | [], n => rfl
  | a :: l, n => by rw [List.map_cons, List.zipIdx_cons, List.zipIdx_cons, List.map_cons, zipIdx_mapD f l (n + 1)]
theorem cal_get {ks : List Nat} : ∀ (n : Nat) {kvs : List (Key × V)}, Fa (fun (a : Nat × Nat) (kv : Key × V) => kv.1 = .inl (a.1 : Int) ∧ kv.2 = inV' a.2) (ks.zipIdx n) kvs → ∀ x : Nat, valV kvs (.inl (x : Int)) = (ixo ks x).map fun i => inV' (i + n) := by
  induction ks with
  | nil => intro n kvs h x; cases h; rfl
  | cons k ks ih =>
    intro n kvs h x
    rw [List.zipIdx_cons] at h
    cases h with
    | @cons _ kv _ m q t =>
      obtain ⟨q1, q2⟩ := q
      rw [ixo]
      by_cases e : k = x
      · subst e
        rw [if_pos rfl, valV_pos q1, q2]; simp
      · rw [if_neg e, valV_neg (by rw [q1]; intro z; injection z with z; exact e (Int.ofNat_inj.mp z)), ih (n + 1) t x, Option.map_map]
        congr 1
        funext i
        show inV' (i + (n + 1)) = inV' (i + 1 + n)
        rw [show i + (n + 1) = i + 1 + n by omega]
def CalF (ks : List Nat) (H : Hp) (v : V) : Prop := ∃ d kvs, v = .ref d ∧ H d = some (.dK kvs) ∧ ∀ x : Nat, valV kvs (.inl (x : Int)) = (ixo ks x).map inV'
theorem CalF.mono {ks : List Nat} : Mon (CalF ks) := fun H H' v e ⟨d, kvs, h1, h2, h3⟩ => ⟨d, kvs, h1, e _ _ h2, h3⟩
section
variable {σ : L2.St} {H : Hp} {ty td : TE} {ks : List Nat} {x : Nat}
theorem cal_in (h : EvP ty σ H fun _ v => v = inV' x) (h2 : EvP td σ H (CalF ks)) : EvB (tB (tDIn ty td)) σ H (ixo ks x).isSome := by
  refine et_dB (K := []) fun F H1 p e Q k => h F H1 p e _ fun v H2 b hv => h2 F H2 (p.mono b) (e.trans (del_ex b)) _ fun u H3 b3 hu => ?_
  obtain ⟨d, kvs, rfl, q1, q2⟩ := hu
  have hv' : v = inV' x := hv
  subst hv'
  refine ⟨d, _, rfl, DGet.k (k := .inl (x : Int)) (del_le _ _ q1), ?_⟩
  rw [q2, Option.isSome_map]
  exact k _ H3 (b.trans b3) (.bl _)
theorem cal_at (hx : (ixo ks x).isSome = true) (h : EvP ty σ H fun _ v => v = inV' x) (h2 : EvP td σ H (CalF ks)) : EvD K (tDGet td ty) σ H (inD ((ixo ks x).getD 0)) := fun F H1 p e Q k =>
  h2 F H1 p e _ fun u H2 b hu => h F H2 (p.mono b) (e.trans (del_ex b)) _ fun v H3 b3 hv => by
    obtain ⟨d, kvs, rfl, q1, q2⟩ := hu
    obtain ⟨i, hi⟩ := Option.isSome_iff_exists.mp hx
    have hv' : v = inV' x := hv
    subst hv'
    refine ⟨d, inV' i, rfl, ?_, k _ H3 (b.trans b3) (by rw [hi]; exact .int _)⟩
    have := DGet.k (k := .inl (x : Int)) (b3 _ _ (del_le _ _ q1))
    rw [q2, hi] at this
    exact this
end
theorem isE {α : Type} (l : List α) (f : α → PyData) : (l.map f).isEmpty = l.isEmpty := by cases l <;> rfl
theorem called_anew_ok (T : Tx K w mg) (D : Dfn K mg "called_anew" s_called_anew) : Cal P w K mg base 1 "called_anew" (spR K R_anew) := by
  refine cal_of D sc_called_anew (fun _ _ _ _ _ _ us hl => match us, hl with | [_, _], _ => rfl) (spR_len fun ds d h => by obtain ⟨_, _, rfl, _⟩ := h; rfl) fun fa cdv A outer s H vs Q E hr h => ?_
  refine ⟨_, (pss_cons (ps_asg (pv 0) (pg_tup rfl (pgs_cons (pg_name (i := 2) sc_called_anew.nd rfl (Or.inl rfl)) (pgs_cons (pg_name (i := 3) sc_called_anew.nd rfl (Or.inl rfl)) (pgs_cons (pg_name (i := 4) sc_called_anew.nd rfl (Or.inl rfl)) pgs_nil)))))
        (pss_cons (ps_set (i := 5) sc_called_anew.nd rfl (Or.inr rfl) (pe_dc (own := [("number", 14), ("world", 15)]) (g := gTup K 2 (gCons (gName 14) (gCons (gName 15) gNil))) (tt := tYes) rfl sc_called_anew.nd (pi_enum rfl T.enumerate_ (pa_cons (pv 1) pa_nil)) (blkOk_by (N := n_called_anew) (sc := defScope s_called_anew) (own := [("number", 14), ("world", 15)]) (by decide +kernel)) (fun _ _ _ _ _ => (pg_tup rfl (pgs_cons (pg_name (i := 14) sc_called_anew.nd rfl (Or.inl rfl)) (pgs_cons (pg_name (i := 15) sc_called_anew.nd rfl (Or.inl rfl)) pgs_nil)))) (fun _ _ _ _ _ => pts_nil) (fun _ _ _ _ _ => (pv 15)) (fun _ _ _ _ _ => (pv 14))))
        (pss_cons (ps_set (i := 6) sc_called_anew.nd rfl (Or.inl rfl) (pe_lst pa_nil))
        (pss_cons (ps_for PassesOwn.never rfl (pi_tup (pv 3)) (pg_tup rfl (pgs_cons (pg_name (i := 7) sc_called_anew.nd rfl (Or.inl rfl)) (pgs_cons (pg_name (i := 8) sc_called_anew.nd rfl (Or.inl rfl)) pgs_nil))) (pss_cons (ps_set (i := 9) sc_called_anew.nd rfl (Or.inl rfl) (pe_callTy call_tuple_of rfl T.tuple_ (by decide +kernel) (pa_cons (pe_lc (own := [("x", 16), ("y", 17)]) (g := gTup K 2 (gCons (gName 16) (gCons (gName 17) gNil))) rfl sc_called_anew.nd (pi_tup (pv 8)) (blkOk_by (N := n_called_anew) (sc := defScope s_called_anew) (own := [("x", 16), ("y", 17)]) (by decide +kernel)) (fun _ _ _ _ _ => (pg_tup rfl (pgs_cons (pg_name (i := 16) sc_called_anew.nd rfl (Or.inl rfl)) (pgs_cons (pg_name (i := 17) sc_called_anew.nd rfl (Or.inl rfl)) pgs_nil)))) (fun _ _ _ _ _ => (pts_one (PW.pt (pw_and (pt_cmp (pc_din (hu_of hr) (pv 16) (pv 5))) (pw_and1 (pt_cmp (pc_din (hu_of hr) (pv 17) (pv 5)))))))) (fun _ _ _ _ _ => (pe_tup (pa_cons (pe_dget (hu_of hr) (pv 5) (pv 16) (fun _ _ => rfl)) (pa_cons (pe_dget (hu_of hr) (pv 5) (pv 17) (fun _ _ => rfl)) pa_nil))))) pa_nil)))
        (pss_one (ps_if (pt_cmpR (op_neD hr.units) (pv 9) (pe_tup pa_nil) (nomark _)) (pss_one (ps_expr (pe_bm PySem.F.plainAttrs_list PySem.F.slot_list_append PySem.F.type_list_append mt_append (pv 6) (pa_cons (pe_tup (pa_cons (pv 7) (pa_cons (pv 9) pa_nil))) pa_nil)))) pss_nil))))
        (pss_cons (ps_set (i := 10) sc_called_anew.nd rfl (Or.inl rfl) (pe_lst pa_nil))
        (pss_cons (ps_for PassesOwn.never rfl (pi_tup (pv 4)) (pg_tup rfl (pgs_cons (pg_name (i := 11) sc_called_anew.nd rfl (Or.inl rfl)) (pgs_cons (pg_name (i := 12) sc_called_anew.nd rfl (Or.inl rfl)) pgs_nil))) (pss_cons (ps_set (i := 13) sc_called_anew.nd rfl (Or.inl rfl) (pe_callTy call_tuple_of rfl T.tuple_ (by decide +kernel) (pa_cons (pe_lc (own := [("world", 15)]) (g := gName 15) rfl sc_called_anew.nd (pi_tup (pv 12)) (blkOk_by (N := n_called_anew) (sc := defScope s_called_anew) (own := [("world", 15)]) (by decide +kernel)) (fun _ _ _ _ _ => (pg_name (i := 15) sc_called_anew.nd rfl (Or.inl rfl))) (fun _ _ _ _ _ => (pts_one (pt_cmp (pc_din (hu_of hr) (pv 15) (pv 5))))) (fun _ _ _ _ _ => (pe_dget (hu_of hr) (pv 5) (pv 15) (fun _ _ => rfl)))) pa_nil)))
        (pss_one (ps_if (pt_cmpR (op_neD hr.units) (pv 13) (pe_tup pa_nil) (nomark _)) (pss_one (ps_expr (pe_bm PySem.F.plainAttrs_list PySem.F.slot_list_append PySem.F.type_list_append mt_append (pv 10) (pa_cons (pe_tup (pa_cons (pv 11) (pa_cons (pv 13) pa_nil))) pa_nil)))) pss_nil))))
        (pss_one (ps_ret (pe_tup (pa_cons (pe_callB call_len_seq rfl T.len_ PySem.boot_len (pa_cons (pv 1) pa_nil)) (pa_cons (pe_callTy call_tuple_of rfl T.tuple_ (by decide +kernel) (pa_cons (pv 6) pa_nil)) (pa_cons (pe_callTy call_tuple_of rfl T.tuple_ (by decide +kernel) (pa_cons (pv 10) pa_nil)) pa_nil)))))))))))), ?_⟩
  refine ret_of h fun ds d H hd hR => ?_
  obtain ⟨W, ks, rfl, hW, hn, hks, rfl⟩ := hR
  obtain ⟨x0, x1, rfl, h0, h1⟩ := of_two hd
  intro F H1 p1 e1 D q
  obtain ⟨tq, xs, rfl, hs, hxs⟩ := of_dp_tup h0
  obtain ⟨x2, x3, x4, rfl, h2, h3, h4⟩ := of_three hxs
  refine ⟨_, rfl, tq, _, rfl, ex_t (e1.trans del_le) hs, rfl, _, _, rfl, _, _, rfl, _, _, rfl, rfl, ?_⟩
  have cal := evp_dc (K := K) (σ := [some (V.ref tq), some x1, some x2, some x3, some x4, none, none, none, none, none, none, none, none, none, none, none, none, none]) (H := H) (wi := iEnum K (tCons (tVar 1) tNil)) (g := gTup K 2 (gCons (gName 14) (gCons (gName 15) gNil))) (tt := tYes) (tk := tVar 15) (tv := tVar 14) (vs := [14, 15])
    (as := ks.zipIdx) (en := fun a => .tuple [inD a.2, inD a.1]) (fun a => .inl (a.1 : Int)) (fun a H v => v = inV' a.2) (fun a H H' v e q => q) ?_ (by rw [List.length_zipIdx]; omega) ?_ ?_
  rotate_left
  · have := ei_enum (K := K) (σ := [some (V.ref tq), some x1, some x2, some x3, some x4, none, none, none, none, none, none, none, none, none, none, none, none, none]) (te := tVar 1) (evd_var rfl h1)
    rw [enum_eq, zipIdx_mapD, List.map_map] at this
    exact this
  · have e : (ks.zipIdx.map fun a => (Sum.inl (a.1 : Int) : Key)) = ks.map fun x : Nat => (Sum.inl (x : Int) : Key) := by
      rw [show (fun a : Nat × Nat => (Sum.inl (a.1 : Int) : Key)) = (fun x : Nat => (Sum.inl (x : Int) : Key)) ∘ Prod.fst from rfl, ← List.map_map, List.zipIdx_map_fst]
    rw [e]
    exact List.pairwise_map.mpr (hn.imp fun hne z => hne (by injection z with z; exact Int.ofNat_inj.mp z))
  · intro a ha y H2 e2 hy
    obtain ⟨t1, ys, rfl, ht1, hys⟩ := of_dp_tup hy
    obtain ⟨y1, y2, rfl, hy1, hy2⟩ := of_two hys
    obtain rfl := of_dp_int hy1
    obtain rfl := of_dp_int hy2
    exact ⟨_, eg_pair ht1, rfl, eb_yes, evp_var rfl (fun _ _ _ _ z => z) rfl, evp_var rfl (fun _ _ _ _ z => z) rfl⟩
  dsimp only [tSeq, tAsg, gName]
  refine cal F H1 p1 e1 _ fun v5 H2 b2 hv5 => ?_
  have h5 : CalF ks (del H2 F) v5 := by
    obtain ⟨d, kvs, rfl, hd, hfa⟩ := hv5
    exact ⟨d, kvs, rfl, hd, fun x => by rw [cal_get 0 hfa x]; rfl⟩
  have e2 := e1.trans (del_ex b2)
  have p2 := p1.mono b2
  refine ⟨by show (0 : Nat) ≤ sizeLine; omega, fun l hl => ?_⟩
  have e3 := ex_add hl e2 (Ex.new (o := .lst []) hl)
  have e3' := ex_add hl (Ex.refl _) (Ex.new (o := .lst []) hl) (F := F)
  have p3 : Prv (add F l) (upd H2 l (.lst [])) := (p2.mono (Ex.new hl)).add (some_ne upd_same)
  refine for_acc (K := K) (F := add F l) (l := l) (as := W.steps) (en := stD) (ei_tup (evd_var (v := x3) rfl h3)) p3 e3 add_self upd_same (by have := hW.stl; omega)
    (fun σ => σ.length = 18 ∧ σ[1]? = some (some x1) ∧ σ[4]? = some (some x4) ∧ σ[5]? = some (some v5) ∧ σ[6]? = some (some (.ref l))) ⟨rfl, rfl, rfl, rfl, rfl⟩
    (fun s => if (cutP ks s.2).isEmpty then [] else [stD (s.1, cutP ks s.2)]) (fun s => by split <;> simp) ?_ ?_
  · intro a ha xv σ' H' acc ⟨sl, s1, s4, s5, s6⟩ pF eF hx hac hlen D' nx
    obtain ⟨q1, ys, rfl, hq1, hys⟩ := of_dp_tup hx
    obtain ⟨y1, y2, rfl, hy1, hy2⟩ := of_two hys
    have g5 : CalF ks (del H' (add F l)) v5 := CalF.mono _ _ _ (e3'.trans eF) h5
    refine ⟨q1, _, rfl, ex_t del_le hq1, rfl, _, _, rfl, _, _, rfl, rfl, ?_⟩
    let σ1 := (σ'.set 7 (some y1)).set 8 (some y2)
    have t5 : σ1[5]? = some (some v5) := by rw [List.getElem?_set_ne (by decide), List.getElem?_set_ne (by decide)]; exact s5
    have t6 : σ1[6]? = some (some (.ref l)) := by rw [List.getElem?_set_ne (by decide), List.getElem?_set_ne (by decide)]; exact s6
    have t1 : σ1[1]? = some (some x1) := by rw [List.getElem?_set_ne (by decide), List.getElem?_set_ne (by decide)]; exact s1
    have t4 : σ1[4]? = some (some x4) := by rw [List.getElem?_set_ne (by decide), List.getElem?_set_ne (by decide)]; exact s4
    have tl : σ1.length = 18 := by rw [List.length_set, List.length_set]; exact sl
    have t7 : σ1[7]? = some (some y1) := by rw [List.getElem?_set_ne (by decide)]; exact List.getElem?_set_self (by omega)
    have t8 : σ1[8]? = some (some y2) := List.getElem?_set_self (by rw [List.length_set]; omega)
    have own := evd_tupL (evd_lc2 (K := K) (σ := σ1) (H := del H' (add F l)) (wi := iTup K (tVar 8)) (tt := tAnd (tB (tDIn (tVar 16) (tVar 5))) (tB (tDIn (tVar 17) (tVar 5)))) (te := tTup (tCons (tDGet (tVar 5) (tVar 16)) (tCons (tDGet (tVar 5) (tVar 17)) tNil))) (vs := [16, 17]) (i := 16) (j := 17)
      (as := a.2) (e1 := fun p => inD p.1) (e2 := fun p => inD p.2) (fun p => (ixo ks p.1).isSome && (ixo ks p.2).isSome) (fun p => prD ((ixo ks p.1).getD 0, (ixo ks p.2).getD 0)) (ei_tup (evd_var t8 hy2)) (by have := hW.prl a ha; omega) (fun x y => wipe_pair (by decide))
      (fun p hp xv yv H5 e5 hxv hyv => by
        obtain rfl := of_dp_int hxv
        obtain rfl := of_dp_int hyv
        have u16 : (((wipe σ1 [16, 17]).set 16 (some (V.int (p.1 : Int)))).set 17 (some (V.int (p.2 : Int))))[16]? = some (some (inV' p.1)) := by simp [wipe, tl]
        have u17 : (((wipe σ1 [16, 17]).set 16 (some (V.int (p.1 : Int)))).set 17 (some (V.int (p.2 : Int))))[17]? = some (some (inV' p.2)) := by simp [wipe, tl]
        have u5 : (((wipe σ1 [16, 17]).set 16 (some (V.int (p.1 : Int)))).set 17 (some (V.int (p.2 : Int))))[5]? = some (some v5) := by simp [wipe, t5]
        have c5 := evp_var u5 CalF.mono (CalF.mono _ _ _ e5 g5)
        refine ⟨eb_and (cal_in (evp_var u16 (fun _ _ _ _ z => z) rfl) c5) fun _ => cal_in (evp_var u17 (fun _ _ _ _ z => z) rfl) c5, fun hf => ?_⟩
        rw [Bool.and_eq_true] at hf
        exact evd_tup (evds_cons (cal_at hf.1 (evp_var u16 (fun _ _ _ _ z => z) rfl) c5) (evds_cons (cal_at hf.2 (evp_var u17 (fun _ _ _ _ z => z) rfl) c5) evds_nil))))
    have ec : ((a.2.filter fun p => (ixo ks p.1).isSome && (ixo ks p.2).isSome).map fun p => prD ((ixo ks p.1).getD 0, (ixo ks p.2).getD 0)) = (cutP ks a.2).map prD := by
      unfold cutP
      rw [List.map_map]; rfl
    rw [ec] at own
    dsimp only [tSeq, tAsg, gName]
    refine own (add F l) H' pF (Ex.refl _) _ fun v9 H5 e5 h9 => ?_
    have pF5 := pF.mono e5
    let σ2 := σ1.set 9 (some v9)
    have w9 : σ2[9]? = some (some v9) := List.getElem?_set_self (by omega)
    have S2 : σ2.length = 18 ∧ σ2[1]? = some (some x1) ∧ σ2[4]? = some (some x4) ∧ σ2[5]? = some (some v5) ∧ σ2[6]? = some (some (.ref l)) := by
      refine ⟨by rw [List.length_set]; exact tl, ?_, ?_, ?_, ?_⟩ <;> rw [List.getElem?_set_ne (by decide)] <;> assumption
    have cmp := evd_neD (K := K) (σ := σ2) (H := del H5 (add F l)) (ta := tVar 9) (tb := tTup tNil) (evd_var w9 h9) (evd_tup evds_nil) (shp_tup fun d hd => by obtain ⟨p, _, rfl⟩ := List.mem_map.mp hd; exact can_pr p) rfl
    refine et_d cmp (add F l) H5 pF5 (Ex.refl _) _ fun H6 e6 => ?_
    have hfe : PyData.eqv (.tuple ((cutP ks a.2).map prD)) (.tuple []) = (cutP ks a.2).isEmpty := by
      rw [PyData.eqv, eqv_nil, isE]
    rw [hfe]
    have pF6 := pF5.mono e6
    cases hc : (cutP ks a.2).isEmpty with
    | true =>
      refine nx σ2 H6 [] S2 (.of (e5.trans e6)) (by rw [List.append_nil]; exact (e5.trans e6) _ _ hac) ?_
      rw [hc]
      exact .nil
    | false =>
      refine app_turn (H0 := H') (l := l) (σ := σ2) (i := 6) (S := fun σ => σ.length = 18 ∧ σ[1]? = some (some x1) ∧ σ[4]? = some (some x4) ∧ σ[5]? = some (some v5) ∧ σ[6]? = some (some (.ref l))) (d := stD (a.1, cutP ks a.2)) S2.2.2.2.2 add_self ((e5.trans e6) _ _ hac) hlen S2 pF6 (.of (e5.trans e6)) ?_ ?_
      · refine evd_tup (evds_cons (evd_var (v := y1) (by rw [List.getElem?_set_ne (by decide)]; exact t7) ((del_ex (e5.trans e6)).dp hy1)) (evds_cons (evd_var w9 ((del_ex e6).dp h9)) evds_nil))
      · have hfa : (if (cutP ks a.2).isEmpty then ([] : List PyData) else [stD (a.1, cutP ks a.2)]) = [stD (a.1, cutP ks a.2)] := by rw [hc]; rfl
        rw [hfa] at nx
        exact nx
  · intro σ' Ha vs ⟨sl, s1, s4, s5, s6⟩ kb hl' hvs
    have ka : Ex H2 Ha := kb.ex hl (Ex.new hl)
    have pa : Prv F Ha := p2.mono ka
    have ea : Ex H (del Ha F) := e2.trans (del_ex ka)
    have hleft : Dp K (del Ha F) (.ref l) (.list ((cutS ks W.steps).map stD)) := by
      refine .lst (sq_of (del_at (p2.no hl) hl')) ?_
      have e0 : (W.steps.flatMap fun s => if (cutP ks s.2).isEmpty then ([] : List PyData) else [stD (s.1, cutP ks s.2)]) = (cutS ks W.steps).map stD := by
        unfold cutS
        induction W.steps with
        | nil => rfl
        | cons s r ih =>
          rw [List.flatMap_cons, ih, List.map_cons, List.filter_cons]
          cases (cutP ks s.2).isEmpty <;> simp
      have := del_add_le.dps hvs
      rw [e0] at this
      exact this
    have h5a : CalF ks (del Ha F) v5 := CalF.mono _ _ _ (del_ex ka) h5
    refine ⟨by show (0 : Nat) ≤ sizeLine; omega, fun m hm => ?_⟩
    have e4 := ex_add hm ea (Ex.new (o := .lst []) hm)
    have e4' := ex_add hm (Ex.refl _) (Ex.new (o := .lst []) hm) (F := F)
    have p4 : Prv (add F m) (upd Ha m (.lst [])) := (pa.mono (Ex.new hm)).add (some_ne upd_same)
    have tl0 : (σ'.set 10 (some (.ref m))).length = 18 := by rw [List.length_set]; exact sl
    have v1 : (σ'.set 10 (some (.ref m)))[1]? = some (some x1) := by rw [List.getElem?_set_ne (by decide)]; exact s1
    have v4 : (σ'.set 10 (some (.ref m)))[4]? = some (some x4) := by rw [List.getElem?_set_ne (by decide)]; exact s4
    have v5' : (σ'.set 10 (some (.ref m)))[5]? = some (some v5) := by rw [List.getElem?_set_ne (by decide)]; exact s5
    have v6 : (σ'.set 10 (some (.ref m)))[6]? = some (some (.ref l)) := by rw [List.getElem?_set_ne (by decide)]; exact s6
    have v10 : (σ'.set 10 (some (.ref m)))[10]? = some (some (.ref m)) := List.getElem?_set_self (by omega)
    refine for_acc (K := K) (F := add F m) (l := m) (as := W.letters) (en := ltD) (ei_tup (evd_var v4 h4)) p4 e4 add_self upd_same (by have := hW.ltl; omega)
      (fun σ => σ.length = 18 ∧ σ[1]? = some (some x1) ∧ σ[5]? = some (some v5) ∧ σ[6]? = some (some (.ref l)) ∧ σ[10]? = some (some (.ref m))) ⟨tl0, v1, v5', v6, v10⟩
      (fun s => if (cutQ ks s.2).isEmpty then [] else [ltD (s.1, cutQ ks s.2)]) (fun s => by split <;> simp) ?_ ?_
    · intro a ha xv σ' H' acc ⟨sl, s1, s5, s6, s10⟩ pF eF hx hac hlen D' nx
      obtain ⟨q1, ys, rfl, hq1, hys⟩ := of_dp_tup hx
      obtain ⟨y1, y2, rfl, hy1, hy2⟩ := of_two hys
      have g5 : CalF ks (del H' (add F m)) v5 := CalF.mono _ _ _ (e4'.trans eF) h5a
      refine ⟨q1, _, rfl, ex_t del_le hq1, rfl, _, _, rfl, _, _, rfl, rfl, ?_⟩
      let σ1 := (σ'.set 11 (some y1)).set 12 (some y2)
      have t5 : σ1[5]? = some (some v5) := by rw [List.getElem?_set_ne (by decide), List.getElem?_set_ne (by decide)]; exact s5
      have t6 : σ1[6]? = some (some (.ref l)) := by rw [List.getElem?_set_ne (by decide), List.getElem?_set_ne (by decide)]; exact s6
      have t1 : σ1[1]? = some (some x1) := by rw [List.getElem?_set_ne (by decide), List.getElem?_set_ne (by decide)]; exact s1
      have t10 : σ1[10]? = some (some (.ref m)) := by rw [List.getElem?_set_ne (by decide), List.getElem?_set_ne (by decide)]; exact s10
      have tl : σ1.length = 18 := by rw [List.length_set, List.length_set]; exact sl
      have t11 : σ1[11]? = some (some y1) := by rw [List.getElem?_set_ne (by decide)]; exact List.getElem?_set_self (by omega)
      have t12 : σ1[12]? = some (some y2) := List.getElem?_set_self (by rw [List.length_set]; omega)
      have own := evd_tupL (evd_lc1 (K := K) (σ := σ1) (H := del H' (add F m)) (wi := iTup K (tVar 12)) (tt := tB (tDIn (tVar 15) (tVar 5))) (te := tDGet (tVar 5) (tVar 15)) (vs := [15]) (j := 15)
        (as := a.2) (en := inD) (fun p => (ixo ks p).isSome) (fun p => inD ((ixo ks p).getD 0)) (ei_tup (evd_var t12 hy2)) (by have := hW.wdl a ha; omega) (fun x => by simp [wipe])
        (fun p hp xv H5 e5 hxv => by
          obtain rfl := of_dp_int hxv
          have u15 : ((wipe σ1 [15]).set 15 (some (V.int (p : Int))))[15]? = some (some (inV' p)) := by simp [wipe, tl]
          have u5 : ((wipe σ1 [15]).set 15 (some (V.int (p : Int))))[5]? = some (some v5) := by simp [wipe, t5]
          have c5 := evp_var u5 CalF.mono (CalF.mono _ _ _ e5 g5)
          exact ⟨cal_in (evp_var u15 (fun _ _ _ _ z => z) rfl) c5, fun hf => cal_at hf (evp_var u15 (fun _ _ _ _ z => z) rfl) c5⟩))
      have ec : ((a.2.filter fun p => (ixo ks p).isSome).map fun p => inD ((ixo ks p).getD 0)) = (cutQ ks a.2).map inD := by
        unfold cutQ
        rw [List.map_map]; rfl
      rw [ec] at own
      dsimp only [tSeq, tAsg, gName]
      refine own (add F m) H' pF (Ex.refl _) _ fun v13 H5 e5 h13 => ?_
      have pF5 := pF.mono e5
      let σ2 := σ1.set 13 (some v13)
      have w13 : σ2[13]? = some (some v13) := List.getElem?_set_self (by omega)
      have S2 : σ2.length = 18 ∧ σ2[1]? = some (some x1) ∧ σ2[5]? = some (some v5) ∧ σ2[6]? = some (some (.ref l)) ∧ σ2[10]? = some (some (.ref m)) := by
        refine ⟨by rw [List.length_set]; exact tl, ?_, ?_, ?_, ?_⟩ <;> rw [List.getElem?_set_ne (by decide)] <;> assumption
      have cmp := evd_neD (K := K) (σ := σ2) (H := del H5 (add F m)) (ta := tVar 13) (tb := tTup tNil) (evd_var w13 h13) (evd_tup evds_nil) (shp_tup fun d hd => by obtain ⟨p, _, rfl⟩ := List.mem_map.mp hd; exact can_int _) rfl
      refine et_d cmp (add F m) H5 pF5 (Ex.refl _) _ fun H6 e6 => ?_
      have hfe : PyData.eqv (.tuple ((cutQ ks a.2).map inD)) (.tuple []) = (cutQ ks a.2).isEmpty := by
        rw [PyData.eqv, eqv_nil, isE]
      rw [hfe]
      have pF6 := pF5.mono e6
      cases hc : (cutQ ks a.2).isEmpty with
      | true =>
        refine nx σ2 H6 [] S2 (.of (e5.trans e6)) (by rw [List.append_nil]; exact (e5.trans e6) _ _ hac) ?_
        rw [hc]
        exact .nil
      | false =>
        refine app_turn (H0 := H') (l := m) (σ := σ2) (i := 10) (S := fun σ => σ.length = 18 ∧ σ[1]? = some (some x1) ∧ σ[5]? = some (some v5) ∧ σ[6]? = some (some (.ref l)) ∧ σ[10]? = some (some (.ref m))) (d := ltD (a.1, cutQ ks a.2)) S2.2.2.2.2 add_self ((e5.trans e6) _ _ hac) hlen S2 pF6 (.of (e5.trans e6)) ?_ ?_
        · refine evd_tup (evds_cons (evd_var (v := y1) (by rw [List.getElem?_set_ne (by decide)]; exact t11) ((del_ex (e5.trans e6)).dp hy1)) (evds_cons (evd_var w13 ((del_ex e6).dp h13)) evds_nil))
        · have hfa : (if (cutQ ks a.2).isEmpty then ([] : List PyData) else [ltD (a.1, cutQ ks a.2)]) = [ltD (a.1, cutQ ks a.2)] := by rw [hc]; rfl
          rw [hfa] at nx
          exact nx
    · intro σ' Hb vs ⟨sl, s1, s5, s6, s10⟩ kb2 hm' hvs2
      have kc : Ex Ha Hb := kb2.ex hm (Ex.new hm)
      have hmarks : Dp K (del Hb F) (.ref m) (.list ((cutL ks W.letters).map ltD)) := by
        refine .lst (sq_of (del_at (pa.no hm) hm')) ?_
        have e0 : (W.letters.flatMap fun s => if (cutQ ks s.2).isEmpty then ([] : List PyData) else [ltD (s.1, cutQ ks s.2)]) = (cutL ks W.letters).map ltD := by
          unfold cutL
          induction W.letters with
          | nil => rfl
          | cons s r ih =>
            rw [List.flatMap_cons, ih, List.map_cons, List.filter_cons]
            cases (cutQ ks s.2).isEmpty <;> simp
        have := del_add_le.dps hvs2
        rw [e0] at this
        exact this
      refine rd_ret (evd_is (evd_tup (evds_cons (evd_len (evd_var s1 ((ea.trans (del_ex kc)).dp h1)) (show seqD _ = some _ from rfl)) (evds_cons (evd_tupL (evd_var s6 ((del_ex kc).dp hleft))) (evds_cons (evd_tupL (evd_var s10 hmarks)) evds_nil)))) ?_) F Hb (pa.mono kc) (Ex.refl _) D fun v H3 e3 hv => q v H3 (b2.trans (ka.trans (kc.trans e3))) hv
      rw [List.length_map]; rfl
end
end Kx
/-! ## KP_Truth -/
set_option Elab.async false
set_option linter.all false
set_option maxRecDepth 100000
set_option maxHeartbeats 2000000
/-! What holds in a web: told; the whole of it. -/
namespace Kx
open PySem PySem.Spec PyProof.Rows L2 Evl
section
variable {P : Program} {w : World} {K : Fg} {mg : Str → Option Value} {base : Heap}
theorem rep_raw {σ : L2.St} {H H1 : Hp} {F : Addr → Bool} {tb : TE} {n : Nat} {Q : VK} (hb : EvD K tb σ H (.int (n : Int))) (hn : n ≤ 100000) (p : Prv F H1) (e : Ex H (del H1 F))
    (k : ∀ l H2, Ex H1 H2 → H2 l = none → Q (.ref l) (upd H2 l (.lst (List.replicate n (.bl true))))) : tOp rRep (tLst (tCons (tC (.bl true)) tNil)) tb σ H1 Q :=
  ⟨sz_of (by simp), fun q hq => hb F _ (p.mono (Ex.new hq)) (e.trans (del_ex (Ex.new hq))) _ fun w H3 c hw => by
    obtain rfl := of_dp_int hw
    have hq3 := c q _ upd_same
    refine ⟨q, (n : Int), [.bl true], rfl, rfl, hq3, by omega, by omega, by simp; exact sz_of hn, fun l hp => ?_⟩
    have e1 : (List.replicate (Int.toNat (n : Int)) [V.bl true]).flatten = List.replicate n (.bl true) := by
      rw [Int.toNat_natCast]
      clear hb hn hw k
      induction n with
      | zero => rfl
      | succ m ih => rw [List.replicate_succ, List.flatten_cons, ih]; rfl
    rw [e1]
    exact k l H3 ((Ex.new hq).trans c) hp⟩
theorem dpa_bl_of (l : List Bool) {H : Hp} : DpAll K H (l.map V.bl) (l.map PyData.bool) := dpa_bls l
theorem told_truths_ok (T : Tx K w mg) (D : Dfn K mg "told_truths" s_told_truths) {n k : Nat} (c_truths_in : Cal P w K mg base (k + 1) "truths_in" (spR K (R_truth n))) (c_called_anew : Cal P w K mg base 1 "called_anew" (spR K R_anew)) : Cal P w K mg base (k + 2) "told_truths" (spR K (R_toldt n)) := by
  refine cal_of D sc_told_truths (fun _ _ _ _ _ _ us hl => match us, hl with | [_, _, _], _ => rfl) (spR_len fun ds d h => by obtain ⟨_, _, _, rfl, _⟩ := h; rfl) fun fa cdv A outer s H vs Q E hr h => ?_
  refine ⟨_, (pss_cons (ps_set (i := 3) sc_told_truths.nd rfl (Or.inl rfl) (pc_ c_truths_in hr (by omega) (pa_cons (pv 0) (pa_cons (pv 1) pa_nil))))
        (pss_cons (ps_setLc (i := 4) (own := [("world", 7), ("is_so", 8)]) (g := gTup K 2 (gCons (gName 7) (gCons (gName 8) gNil))) rfl sc_told_truths.nd rfl rfl (sw_true rfl rfl rfl (by decide +kernel)) (pi_enum rfl T.enumerate_ (pa_cons (pv 3) pa_nil)) (blkOk_by (N := n_told_truths) (sc := defScope s_told_truths) (own := [("world", 7), ("is_so", 8)]) (by decide +kernel)) (fun _ _ _ _ _ => (pg_tup rfl (pgs_cons (pg_name (i := 7) sc_told_truths.nd rfl (Or.inl rfl)) (pgs_cons (pg_name (i := 8) sc_told_truths.nd rfl (Or.inl rfl)) pgs_nil)))) (fun _ _ _ _ _ => (pts_one (pt_val (pv 8)))) (fun _ _ _ _ _ => (pv 7)))
        (pss_cons (ps_set (i := 5) sc_told_truths.nd rfl (Or.inl rfl) (pe_op op_rep (pe_lst (pa_cons pe_bl pa_nil)) (pe_callB call_len_seq rfl T.len_ PySem.boot_len (pa_cons (pv 3) pa_nil))))
        (pss_cons (ps_if (pt_cmpR (op_neD hr.units) (pv 4) (pe_lst pa_nil) (nomark _)) (pss_cons (ps_set (i := 6) sc_told_truths.nd rfl (Or.inl rfl) (pc_ c_truths_in hr (by omega) (pa_cons (pc_ c_called_anew hr (by omega) (pa_cons (pv 0) (pa_cons (pv 4) pa_nil))) (pa_cons (pv 2) pa_nil))))
        (pss_one (ps_for PassesOwn.never rfl (pi_zipS rfl T.zip_ (pa_cons (pv 4) (pa_cons (pv 6) pa_nil)) pe_bl) (pg_tup rfl (pgs_cons (pg_name (i := 7) sc_told_truths.nd rfl (Or.inl rfl)) (pgs_cons (pg_name (i := 8) sc_told_truths.nd rfl (Or.inl rfl)) pgs_nil))) (pss_one (ps_asg (pv 8) (pg_sub (pv 5) (pv 7) set_list)))))) pss_nil)
        (pss_one (ps_ret (pv 5))))))), ?_⟩
  refine ret_of h fun ds d H hd hR => ?_
  obtain ⟨W, f, s, rfl, hW, hl1, hl2, hw1, hw2, rfl⟩ := hR
  obtain ⟨x0, x1, x2, rfl, h0, h1, h2⟩ := of_three hd
  have hm := hW.many
  obtain ⟨g, hg⟩ : ∃ g, g = satW W f := ⟨_, rfl⟩
  refine rd_set (evd_call (evds_cons (evd_var rfl h0) (evds_cons (evd_var rfl h1) evds_nil)) ⟨W, f, rfl, hW, hl1, hw1, rfl⟩) fun v3 H1 e1 h3 => ?_
  rw [← hg] at h3
  have en : EvI K (iEnum K (tCons (tVar 3) tNil)) [some x0, some x1, some x2, some v3, none, none, none, none, none] H1 ((List.range W.many).map fun i => .tuple [inD i, .bool (g i)]) := by
    have := ei_enum (K := K) (σ := [some x0, some x1, some x2, some v3, none, none, none, none, none]) (te := tVar 3) (evd_var rfl h3)
    have e2 : enumD (((List.range W.many).map g).map PyData.bool) = (List.range W.many).map fun i => .tuple [inD i, .bool (g i)] := by
      refine List.ext_getElem? fun i => ?_
      unfold enumD
      rw [List.getElem?_zipWith]
      by_cases h : i < W.many
      · simp [h]
      · simp [h]
    rw [e2] at this
    exact this
  refine rd_set (evd_lc2 (K := K) (i := 7) (j := 8) (as := List.range W.many) (e1 := inD) (e2 := fun i => .bool (g i)) g inD en (by rw [List.length_range]; omega) (fun _ _ => rfl)
    (fun i hi xv yv H5 e5 hxv hyv => ⟨et_dB (evd_var rfl hyv), fun _ => evd_var rfl hxv⟩)) fun v4 H2 e2 h4 => ?_
  obtain ⟨ks, hks⟩ : ∃ ks, ks = (List.range W.many).filter g := ⟨_, rfl⟩
  rw [← hks] at h4
  have h0' := (e1.trans e2).dp h0
  have h2' := (e1.trans e2).dp h2
  have h3' := e2.dp h3
  have hn : ks.Nodup := hks ▸ List.nodup_range.filter _
  have hlk : ks.length ≤ 100 := by rw [hks]; have := List.length_filter_le g (List.range W.many); rw [List.length_range] at this; omega
  have hmem : ∀ x, x ∈ ks ↔ x < W.many ∧ g x = true := fun x => by rw [hks, List.mem_filter, List.mem_range]
  intro F H3 p3 e3 D q
  refine rep_raw (K := K) (n := W.many) (evd_is (evd_len (evd_var (v := v3) rfl h3') (show seqD _ = some _ from rfl)) (by rw [List.length_map, List.length_map, List.length_range])) (by omega) p3 e3 fun l H4 e4 hl => ?_
  have p4 := p3.mono e4
  have eH4 : Ex H2 (del H4 F) := e3.trans (del_ex e4)
  have e5 := ex_add hl eH4 (Ex.new (o := .lst (List.replicate W.many (.bl true))) hl)
  have p5 : Prv (add F l) (upd H4 l (.lst (List.replicate W.many (.bl true)))) := (p4.mono (Ex.new hl)).add (some_ne upd_same)
  have cmp := evd_neD (K := K) (σ := [some x0, some x1, some x2, some v3, some v4, some (.ref l), none, none, none]) (H := H2) (ta := tVar 4) (tb := tLst tNil) (evd_var rfl h4) (evd_lst evds_nil) (shp_lst fun d hd => by obtain ⟨p, _, rfl⟩ := List.mem_map.mp hd; exact can_int _) rfl
  dsimp only [tSeq, tAsg, gName]
  refine et_d cmp (add F l) _ p5 e5 _ fun H6 e6 => ?_
  have hfe : PyData.eqv (.list (ks.map inD)) (.list []) = ks.isEmpty := by
    rw [PyData.eqv, eqv_nil, isE]
  rw [hfe]
  have hl6 : H6 l = some (.lst (List.replicate W.many (.bl true))) := e6 _ _ upd_same
  have fin : ∀ (σ' : L2.St) (H' : Hp), σ'[5]? = some (some (.ref l)) → Kb l H6 H' → H' l = some (.lst ((List.range W.many).map fun x => .bl (if x ∈ ks then sat W.E W.L s ks x else true))) → tRet (tVar 5) D σ' H' := fun σ' H' hσ kb hv => by
    refine ⟨_, hσ, q _ H' (e4.trans (kb.ex hl ((Ex.new hl).trans e6))) (.lst (sq_of (del_at (p4.no hl) hv)) ?_)⟩
    have e : ((List.range W.many).map (satW W (.td f s))) = (List.range W.many).map fun x => (if x ∈ ks then sat W.E W.L s ks x else true : Bool) := by
      refine List.map_congr_left fun x hx => ?_
      have hx := List.mem_range.mp hx
      show sat _ _ _ _ _ = _
      rw [sat]
      have e2 : (List.range W.many).filter (fun y => sat W.E W.L f (List.range W.many) y) = ks := by rw [hks, hg]
      rw [e2]
      have e3 : sat W.E W.L f (List.range W.many) x = g x := by rw [hg]
      rw [e3]
      by_cases hk : x ∈ ks
      · rw [if_pos hk, ((hmem x).mp hk).2]; rfl
      · rw [if_neg hk]
        cases z : g x with
        | false => rfl
        | true => exact absurd ((hmem x).mpr ⟨hx, z⟩) hk
    show DpAll K _ _ (((List.range W.many).map (satW W (.td f s))).map PyData.bool)
    rw [e]
    have := dpa_bls (K := K) (H := del H' F) ((List.range W.many).map fun x => (if x ∈ ks then sat W.E W.L s ks x else true : Bool))
    rw [List.map_map] at this
    exact this
  cases hke : ks.isEmpty with
  | true =>
    refine fin _ H6 rfl (fun b o _ h => h) ?_
    rw [hl6]
    have : ks = [] := List.isEmpty_iff.mp hke
    subst this
    congr 2
    refine List.ext_getElem? fun i => ?_
    by_cases h : i < W.many
    · simp [h]
    · simp [h]
  | false =>
    have p6 : Prv (add F l) H6 := p5.mono e6
    have e6' : Ex H2 (del H6 (add F l)) := e5.trans (del_ex e6)
    have inner := evd_call (K := K) (σ := [some x0, some x1, some x2, some v3, some v4, some (.ref l), none, none, none]) (H := H2) (E := E0) (R := R_truth n)
      (evds_cons (evd_call (K := K) (E := E0) (R := R_anew) (evds_cons (evd_var (i := 0) rfl h0') (evds_cons (evd_var (i := 4) rfl h4) evds_nil)) ⟨W, ks, rfl, hW, hn, hlk, rfl⟩) (evds_cons (evd_var (i := 2) rfl h2') evds_nil)) ⟨cutW W ks, s, rfl, hW.cut hlk, hl2, hw2, rfl⟩
    rw [if_pos (by rfl)]
    dsimp only [tSeq, tAsg, gName]
    refine inner (add F l) H6 p6 e6' _ fun v6 H7 e7 h7 => ?_
    have ht := tru_cut hW hn s
    unfold tru at ht
    have h7' : Dp K (del H7 (add F l)) v6 (.list ((ks.map fun x => sat W.E W.L s ks x).map PyData.bool)) := by rw [← ht]; exact h7
    have p7 := p6.mono e7
    have e7' : Ex H2 (del H7 (add F l)) := e6'.trans (del_ex e7)
    have hl7 : H7 l = some (.lst (List.replicate W.many (.bl true))) := e7 _ _ hl6
    have zi := ei_zipS (K := K) (σ := [some x0, some x1, some x2, some v3, some v4, some (.ref l), some v6, none, none]) (H := del H7 (add F l)) (ta := tVar 4) (tb := tVar 6) (evd_var rfl (e7'.dp h4)) (evd_var rfl h7') (by simp)
    have hz : zipD (ks.map inD) ((ks.map fun x => sat W.E W.L s ks x).map PyData.bool) = ks.map fun x => .tuple [inD x, .bool (sat W.E W.L s ks x)] := by
      unfold zipD
      rw [List.map_map, List.zipWith_map_left, List.zipWith_map_right, List.zipWith_self]
      rfl
    rw [hz] at zi
    refine for_d zi p7 (Ex.refl _) fun H8 e8 => ⟨fun i F' σ H' => F' = add F l ∧ σ.length = 9 ∧ σ[5]? = some (some (.ref l)) ∧ Kb l H7 H' ∧ H' l = some (.lst ((List.range W.many).map fun x => .bl (if x ∈ ks.take i then sat W.E W.L s ks x else true))), ⟨rfl, rfl, rfl, .of e8, ?_⟩, ?_, ?_, ?_⟩
    · rw [e8 _ _ hl7]
      congr 2
      refine List.ext_getElem? fun i => ?_
      by_cases h : i < W.many
      · simp [h]
      · simp [h]
    · rintro i F' σ H H' ex ⟨rfl, a1, a2, a3, a4⟩
      exact ⟨rfl, a1, a2, a3.trans (.of ex), ex _ _ a4⟩
    · rintro i x σ H' F' d hd ⟨rfl, a1, a2, a3, a4⟩ pF eF hx
      have hi : i < ks.length := by
        have := (List.getElem?_eq_some_iff.mp hd).1
        simpa using this
      have hget : ks[i]? = some ks[i] := List.getElem?_eq_getElem hi
      rw [List.getElem?_map, hget] at hd
      obtain ⟨y, hy⟩ : ∃ y, y = ks[i] := ⟨_, rfl⟩
      rw [← hy] at hd hget
      cases hd
      have hym : y ∈ ks := List.mem_of_getElem? hget
      obtain ⟨tq, xs, rfl, hs, hxs⟩ := of_dp_tup hx
      obtain ⟨y1, y2, rfl, hy1, hy2⟩ := of_two hxs
      obtain rfl := of_dp_int hy1
      obtain rfl := of_dp_bl hy2
      refine ⟨tq, _, rfl, ex_t del_le hs, rfl, _, _, rfl, _, _, rfl, rfl, ?_⟩
      have s8 : ((σ.set 7 (some (V.int (y : Int)))).set 8 (some (V.bl (sat W.E W.L s ks y))))[8]? = some (some (.bl (sat W.E W.L s ks y))) := List.getElem?_set_self (by rw [List.length_set]; omega)
      have s7 : ((σ.set 7 (some (V.int (y : Int)))).set 8 (some (V.bl (sat W.E W.L s ks y))))[7]? = some (some (.int (y : Int))) := by rw [List.getElem?_set_ne (by decide)]; exact List.getElem?_set_self (by omega)
      have s5 : ((σ.set 7 (some (V.int (y : Int)))).set 8 (some (V.bl (sat W.E W.L s ks y))))[5]? = some (some (.ref l)) := by rw [List.getElem?_set_ne (by decide), List.getElem?_set_ne (by decide)]; exact a2
      refine ⟨_, s8, _, s5, _, s7, l, _, (y : Int), y, rfl, rfl, a4, ?_, ?_⟩
      · have := ((hmem y).mp hym).1
        unfold ixN
        rw [List.length_map, List.length_range, if_pos (by omega), if_pos (by omega)]
        rfl
      · refine ⟨add F l, ⟨rfl, by rw [List.length_set, List.length_set]; exact a1, s5, a3.trans .upd, ?_⟩, prv_upd pF, by rw [del_upd add_self]; exact eF⟩
        rw [upd_same]
        congr 2
        have tk : ks.take (i + 1) = ks.take i ++ [y] := by rw [List.take_succ, hget]; rfl
        rw [tk]
        refine List.ext_getElem? fun j => ?_
        rw [List.getElem?_set, List.getElem?_map, List.getElem?_map, List.length_map, List.length_range]
        have hyW := ((hmem y).mp hym).1
        by_cases hj : j < W.many
        · by_cases hyj : y = j
          · subst hyj
            simp [hj]
          · have hjy : ¬ j = y := fun z => hyj z.symm
            simp [hj, hyj, hjy]
        · have hyj : ¬ y = j := by omega
          simp [hj, hyj]
    · rintro σ H' F' ⟨rfl, a1, a2, a3, a4⟩ pF eF
      rw [List.length_map, List.take_length] at a4
      exact fin σ H' a2 ((Kb.of e7).trans a3) a4
end
end Kx
/-! ## KQ_Truth -/
set_option Elab.async false
set_option linter.all false
set_option maxRecDepth 100000
set_option maxHeartbeats 2000000
namespace Kx
open PySem PySem.Spec PyProof.Rows L2 Evl
theorem sat_md {W : Web} (hW : WOk W) (b : Bool) (h : Nat) (s : Sy) (x : Nat) : satW W (.md b h s) x = if b then (ends (W.E h) x).all (satW W s) else (ends (W.E h) x).any (satW W s) := by
  have lt : ∀ p, p ∈ W.E h → p.2 < W.many := fun p hp => by
    rcases asc_mem (d := ([] : List (Nat × Nat))) (l := W.steps) (x := h) with q | q
    · rw [show W.E h = [] from q] at hp; cases hp
    · exact (hW.prm _ q p hp).2
  unfold satW ends
  cases b
  · rw [sat, if_neg (by decide), List.any_map, List.any_filter, Bool.eq_iff_iff, List.any_eq_true, List.any_eq_true]
    constructor
    · rintro ⟨p, hp, q⟩
      simp only [Bool.and_eq_true, decide_eq_true_eq] at q
      exact ⟨p, hp, by simp only [Bool.and_eq_true, decide_eq_true_eq, Function.comp_apply]; exact ⟨q.1.1, q.2⟩⟩
    · rintro ⟨p, hp, q⟩
      simp only [Bool.and_eq_true, decide_eq_true_eq, Function.comp_apply] at q
      exact ⟨p, hp, by simp only [Bool.and_eq_true, decide_eq_true_eq]; exact ⟨⟨q.1, List.mem_range.mpr (lt p hp)⟩, q.2⟩⟩
  · rw [sat, if_pos rfl, List.all_map, List.all_filter, Bool.eq_iff_iff, List.all_eq_true, List.all_eq_true]
    constructor
    · intro q p hp
      have := q p hp
      have hm : decide (p.2 ∈ List.range W.many) = true := decide_eq_true (List.mem_range.mpr (lt p hp))
      rw [hm, Bool.and_true] at this
      exact this
    · intro q p hp
      have hm : decide (p.2 ∈ List.range W.many) = true := decide_eq_true (List.mem_range.mpr (lt p hp))
      rw [hm, Bool.and_true]
      exact q p hp
section
variable {P : Program} {w : World} {K : Fg} {mg : Str → Option Value} {base : Heap}
theorem blD_eq (f : Nat → Bool) (n : Nat) : blD f n = .list ((List.range n).map fun x => .bool (f x)) := by
  unfold blD
  rw [List.map_map]; rfl
theorem truths_step {C : Addr} (T : Tx K w mg) (c : Cw K C) (D : Dfn K mg "truths_in" s_truths_in) (k_wv : Mak P w K mg base 2 C "WebView" (spWV K C)) (m_wv_has_letter : Met P w K mg base 1 C "has_letter" (spV (R_has K C))) (c_step_truths : Cal P w K mg base 4 "step_truths" (spR K R_step))
    {n k : Nat} (c_truths_in : Cal P w K mg base (k + 5) "truths_in" (spR K (R_truth n))) (c_joined_truths : Cal P w K mg base (k + 5) "joined_truths" (spR K (R_join (n - 1)))) (c_told_truths : Cal P w K mg base (k + 5) "told_truths" (spR K (R_toldt (n - 1)))) :
    Cal P w K mg base (k + 6) "truths_in" (spR K (R_truth (n + 1))) := by
  refine cal_of (k := k + 5) D sc_truths_in (fun _ _ _ _ _ _ us hl => match us, hl with | [_, _], _ => rfl) (spR_len fun ds d h => by obtain ⟨_, _, rfl, _⟩ := h; rfl) fun fa cdv A outer s H vs Q E hr h => ?_
  refine ⟨_, (pss_cons (ps_asg (pv 1) (pg_star rfl (pgs_cons (pg_name (i := 2) sc_truths_in.nd rfl (Or.inl rfl)) (pgs_star (pg_name (i := 3) sc_truths_in.nd rfl (Or.inr rfl)) pgs_nil))))
        (pss_cons (ps_if (pt_cmpR op_eq (pv 2) pe_str (nomark _)) (pss_cons (ps_set (i := 4) sc_truths_in.nd rfl (Or.inr rfl) (pk_ k_wv hr (by omega) (pa_cons (pv 0) pa_nil)))
        (pss_one (ps_ret (pe_lc (own := [("world", 7)]) (g := gName 7) (tt := tYes) rfl sc_truths_in.nd (pi_range1 rfl T.range_ (pa_cons (pe_fld (pv 4) rfl) pa_nil)) (blkOk_by (N := n_truths_in) (sc := defScope s_truths_in) (own := [("world", 7)]) (by decide +kernel)) (fun _ _ _ _ _ => (pg_name (i := 7) sc_truths_in.nd rfl (Or.inl rfl))) (fun _ _ _ _ _ => pts_nil) (fun _ _ _ _ _ => (pm_ m_wv_has_letter hr (by omega) (pv 4) (pa_cons (pe_ix (show IxR _ (rIxL K) from ix_list) (pv 3) pe_int (fun _ _ => rfl)) (pa_cons (pv 7) pa_nil)))))))) pss_nil)
        (pss_cons (ps_if (pt_cmpR (show OpR _ _ (rIn K false) from op_in_seq) (pv 2) (pe_tup (pa_cons pe_str (pa_cons pe_str pa_nil))) (by rfl)) (pss_one (ps_ret (pc_ c_joined_truths hr (by omega) (pa_cons (pv 0) (pa_cons (pv 2) (pa_cons (pe_ix (show IxR _ (rIxL K) from ix_list) (pv 3) pe_int (fun _ _ => rfl)) pa_nil)))))) pss_nil)
        (pss_cons (ps_if (pt_cmpR (show OpR _ _ (rIn K false) from op_in_seq) (pv 2) (pe_tup (pa_cons pe_str (pa_cons pe_str pa_nil))) (by rfl)) (pss_one (ps_ret (pc_ c_step_truths hr (by omega) (pa_cons (pv 0) (pa_cons (pv 2) (pa_cons (pe_ix (show IxR _ (rIxL K) from ix_list) (pv 3) pe_int (fun _ _ => rfl)) (pa_cons (pc_ c_truths_in hr (by omega) (pa_cons (pv 0) (pa_cons (pe_ix (show IxR _ (rIxL K) from ix_list) (pv 3) pe_int (fun _ _ => rfl)) pa_nil))) pa_nil))))))) pss_nil)
        (pss_cons (ps_if (pt_cmpR op_eq (pv 2) pe_str (nomark _)) (pss_one (ps_ret (pc_ c_told_truths hr (by omega) (pa_cons (pv 0) (pa_cons (pe_ix (show IxR _ (rIxL K) from ix_list) (pv 3) pe_int (fun _ _ => rfl)) (pa_cons (pe_ix (show IxR _ (rIxL K) from ix_list) (pv 3) pe_int (fun _ _ => rfl)) pa_nil)))))) pss_nil)
        (pss_cons (ps_set (i := 5) sc_truths_in.nd rfl (Or.inl rfl) (pc_ c_truths_in hr (by omega) (pa_cons (pv 0) (pa_cons (pe_ix (show IxR _ (rIxL K) from ix_list) (pv 3) pe_int (fun _ _ => rfl)) pa_nil))))
        (pss_cons (ps_if (pt_cmpR op_eq (pv 2) pe_str (nomark _)) (pss_one (ps_ret (pe_lc (own := [("own", 8)]) (g := gName 8) (tt := tYes) rfl sc_truths_in.nd (pi_list (pv 5)) (blkOk_by (N := n_truths_in) (sc := defScope s_truths_in) (own := [("own", 8)]) (by decide +kernel)) (fun _ _ _ _ _ => (pg_name (i := 8) sc_truths_in.nd rfl (Or.inl rfl))) (fun _ _ _ _ _ => pts_nil) (fun _ _ _ _ _ => (pe_not (pv 8)))))) pss_nil)
        (pss_cons (ps_set (i := 6) sc_truths_in.nd rfl (Or.inl rfl) (pc_ c_truths_in hr (by omega) (pa_cons (pv 0) (pa_cons (pe_ix (show IxR _ (rIxL K) from ix_list) (pv 3) pe_int (fun _ _ => rfl)) pa_nil))))
        (pss_one (ps_ret (pe_lc (own := [("own", 8), ("later", 9)]) (g := gTup K 2 (gCons (gName 8) (gCons (gName 9) gNil))) (tt := tYes) rfl sc_truths_in.nd (pi_zipS rfl T.zip_ (pa_cons (pv 5) (pa_cons (pv 6) pa_nil)) pe_bl) (blkOk_by (N := n_truths_in) (sc := defScope s_truths_in) (own := [("own", 8), ("later", 9)]) (by decide +kernel)) (fun _ _ _ _ _ => (pg_tup rfl (pgs_cons (pg_name (i := 8) sc_truths_in.nd rfl (Or.inl rfl)) (pgs_cons (pg_name (i := 9) sc_truths_in.nd rfl (Or.inl rfl)) pgs_nil)))) (fun _ _ _ _ _ => pts_nil) (fun _ _ _ _ _ => (pe_or (pe_not (pv 8)) (pe_one (pv 9))))))))))))))), ?_⟩
  refine ret_of h fun ds d H hd hR => ?_
  obtain ⟨W, s, rfl, hW, hld, hwd, rfl⟩ := hR
  obtain ⟨x0, x1, rfl, h0, h1⟩ := of_two hd
  have hm := hW.many
  rw [enc_eq] at h1
  refine rd_star1 (evd_var rfl h1) fun v2 v3 H1 ex h2 h3 => ?_
  have h0' := ex.dp h0
  cases s with
  | lt cc =>
    refine rd_T (eqT (evd_var rfl h2) evd_str (by kernel_rfl)) (rd_setP (evp_make (evd_var rfl h0') hW) fun v4 H2 e2 h4 => rd_ret ?_)
    have hi : EvI K (iRng1 (tCons (tFld K (tVar 4) "many") tNil)) [some x0, some x1, some v2, some v3, some v4, none, none, none, none, none] H2 ((List.range W.many).map inD) := by
      rw [← rng_map]
      exact ei_rng (n := W.many) (vw_many (i := 4) (v := v4) c rfl h4) (by omega)
    refine evd_is (evd_lcA (as := List.range W.many) (en := inD) (fun x => .bool (decide (x ∈ W.L cc))) hi (by rw [List.length_range]; omega) (fun _ => rfl) fun x hx y H3 e3 hy => ?_) ?_
    · obtain rfl := of_dp_int hy
      exact evd_of (evp_meth (P2 := fun H v => VwF K C H v W) (evp_var rfl mon_vw (h4.mono e3)) (fun H v ⟨q1, dx, d1, d2, q2, q3, _⟩ => ⟨q1, dx, _, q2, q3, by kernel_rfl⟩) mon_vw (evds_cons (evd_ixL (i := 0) (evd_var rfl ((e2.trans e3).dp h3)) evd_int rfl) (evds_cons (evd_var rfl hy) evds_nil)) fun H' v vs e hv hvs => by
        obtain ⟨y1, y2, rfl, hy1, hy2⟩ := of_two hvs
        obtain rfl := of_dp_str hy1
        obtain rfl := of_dp_int hy2
        exact ⟨v, W, cc, x, rfl, hv, rfl⟩)
    · rw [blD_eq]
      congr 1
  | jn b l =>
    have b1 : decide (hdw (.jn b l) = "letter") = false := by cases b <;> kernel_rfl
    have b2 : decide (hdw (.jn b l) ∈ (["and", "or"] : List Str)) = true := by cases b <;> kernel_rfl
    rw [ld] at hld
    refine rd_F (eqT (evd_var rfl h2) evd_str b1) (rd_T (inT (ss := ["and", "or"]) (evd_var rfl h2) (evd_tup (evds_cons evd_str (evds_cons evd_str evds_nil))) rfl b2) (rd_ret ?_))
    exact evd_call (evds_cons (evd_var rfl h0') (evds_cons (evd_var rfl h2) (evds_cons (evd_ixL (i := 0) (evd_var rfl h3) evd_int rfl) evds_nil))) ⟨W, b, l, rfl, hW, by omega, hwd, rfl⟩
  | md b hh m =>
    have b1 : decide (hdw (.md b hh m) = "letter") = false := by cases b <;> kernel_rfl
    have b2 : decide (hdw (.md b hh m) ∈ (["and", "or"] : List Str)) = false := by cases b <;> kernel_rfl
    have b3 : decide (hdw (.md b hh m) ∈ (["must", "may"] : List Str)) = true := by cases b <;> kernel_rfl
    rw [ld] at hld
    rw [wide] at hwd
    refine rd_F (eqT (evd_var rfl h2) evd_str b1) (rd_F (inT (ss := ["and", "or"]) (evd_var rfl h2) (evd_tup (evds_cons evd_str (evds_cons evd_str evds_nil))) rfl b2) (rd_T (inT (ss := ["must", "may"]) (evd_var rfl h2) (evd_tup (evds_cons evd_str (evds_cons evd_str evds_nil))) rfl b3) (rd_ret ?_)))
    refine evd_call (evds_cons (evd_var rfl h0') (evds_cons (evd_var rfl h2) (evds_cons (evd_ixL (i := 0) (evd_var rfl h3) evd_int rfl) (evds_cons (evd_call (R := R_truth n) (evds_cons (evd_var rfl h0') (evds_cons (evd_ixL (i := 1) (evd_var rfl h3) evd_int rfl) evds_nil)) ⟨W, m, rfl, hW, by omega, hwd, rfl⟩) evds_nil)))) ⟨W, b, hh, m, satW W m, rfl, hW, ?_⟩
    rw [blD_eq, blD_eq]
    congr 1
    exact List.map_congr_left fun x _ => by rw [sat_md hW b hh m x]
  | td f t =>
    rw [ld] at hld
    rw [wide, Bool.and_eq_true] at hwd
    refine rd_F (eqT (evd_var rfl h2) evd_str (by kernel_rfl)) (rd_F (inT (ss := ["and", "or"]) (evd_var rfl h2) (evd_tup (evds_cons evd_str (evds_cons evd_str evds_nil))) rfl (by kernel_rfl)) (rd_F (inT (ss := ["must", "may"]) (evd_var rfl h2) (evd_tup (evds_cons evd_str (evds_cons evd_str evds_nil))) rfl (by kernel_rfl)) (rd_T (eqT (evd_var rfl h2) evd_str (by kernel_rfl)) (rd_ret ?_))))
    exact evd_call (evds_cons (evd_var rfl h0') (evds_cons (evd_ixL (i := 0) (evd_var rfl h3) evd_int rfl) (evds_cons (evd_ixL (i := 1) (evd_var rfl h3) evd_int rfl) evds_nil))) ⟨W, f, t, rfl, hW, by omega, by omega, hwd.1, hwd.2, rfl⟩
  | nt m =>
    rw [ld] at hld
    rw [wide] at hwd
    refine rd_F (eqT (evd_var rfl h2) evd_str (by kernel_rfl)) (rd_F (inT (ss := ["and", "or"]) (evd_var rfl h2) (evd_tup (evds_cons evd_str (evds_cons evd_str evds_nil))) rfl (by kernel_rfl)) (rd_F (inT (ss := ["must", "may"]) (evd_var rfl h2) (evd_tup (evds_cons evd_str (evds_cons evd_str evds_nil))) rfl (by kernel_rfl)) (rd_F (eqT (evd_var rfl h2) evd_str (by kernel_rfl)) ?_)))
    refine rd_set (evd_call (evds_cons (evd_var rfl h0') (evds_cons (evd_ixL (i := 0) (evd_var rfl h3) evd_int rfl) evds_nil)) ⟨W, m, rfl, hW, by omega, hwd, rfl⟩) fun v5 H2 e2 h5 => ?_
    refine rd_T (eqT (evd_var rfl (e2.dp h2)) evd_str (by kernel_rfl)) (rd_ret (evd_is (evd_lcA (as := (List.range W.many).map (satW W m)) (en := PyData.bool) (fun b => .bool (!b)) (ei_lst (evd_var rfl h5)) (by rw [List.length_map, List.length_range]; omega) (fun _ => rfl) fun b hb y H3 e3 hy => evd_not (evd_var rfl hy)) ?_))
    rw [List.map_map, blD_eq]
    congr 1
  | so f t =>
    rw [ld] at hld
    rw [wide, Bool.and_eq_true] at hwd
    refine rd_F (eqT (evd_var rfl h2) evd_str (by kernel_rfl)) (rd_F (inT (ss := ["and", "or"]) (evd_var rfl h2) (evd_tup (evds_cons evd_str (evds_cons evd_str evds_nil))) rfl (by kernel_rfl)) (rd_F (inT (ss := ["must", "may"]) (evd_var rfl h2) (evd_tup (evds_cons evd_str (evds_cons evd_str evds_nil))) rfl (by kernel_rfl)) (rd_F (eqT (evd_var rfl h2) evd_str (by kernel_rfl)) ?_)))
    refine rd_set (evd_call (evds_cons (evd_var rfl h0') (evds_cons (evd_ixL (i := 0) (evd_var rfl h3) evd_int rfl) evds_nil)) ⟨W, f, rfl, hW, by omega, hwd.1, rfl⟩) fun v5 H2 e2 h5 => ?_
    refine rd_F (eqT (evd_var rfl (e2.dp h2)) evd_str (by kernel_rfl)) ?_
    refine rd_set (evd_call (evds_cons (evd_var rfl (e2.dp h0')) (evds_cons (evd_ixL (i := 1) (evd_var rfl (e2.dp h3)) evd_int rfl) evds_nil)) ⟨W, t, rfl, hW, by omega, hwd.2, rfl⟩) fun v6 H3 e3 h6 => rd_ret ?_
    have zi := ei_zipS (K := K) (σ := [some x0, some x1, some v2, some v3, none, some v5, some v6, none, none, none]) (H := H3) (ta := tVar 5) (tb := tVar 6) (evd_var rfl (e3.dp h5)) (evd_var rfl h6) (by simp)
    have hz : zipD (((List.range W.many).map (satW W f)).map PyData.bool) (((List.range W.many).map (satW W t)).map PyData.bool) = (List.range W.many).map fun x => .tuple [.bool (satW W f x), .bool (satW W t x)] := by
      unfold zipD
      rw [List.map_map, List.map_map, List.zipWith_map_left, List.zipWith_map_right, List.zipWith_self]
      rfl
    rw [hz] at zi
    refine evd_is (evd_lc2 (as := List.range W.many) (e1 := fun x => .bool (satW W f x)) (e2 := fun x => .bool (satW W t x)) (fun _ => true) (fun x => .bool (satW W (.so f t) x)) zi (by rw [List.length_range]; omega) (fun _ _ => rfl) fun x hx y1 y2 H4 e4 hy1 hy2 => ⟨eb_yes, fun _ => ?_⟩) ?_
    · exact evd_is (evd_or (evd_not (evd_var rfl hy1)) fun _ => evd_var rfl hy2) (by show _ = PyData.bool (sat _ _ _ _ _); rw [sat])
    · rw [List.filter_eq_self.mpr fun _ _ => rfl, blD_eq]
theorem truths_ok {C : Addr} (T : Tx K w mg) (c : Cw K C) (D : Dfn K mg "truths_in" s_truths_in) (D1 : Dfn K mg "joined_truths" s_joined_truths) (D2 : Dfn K mg "told_truths" s_told_truths) (c_called_anew : Cal P w K mg base 1 "called_anew" (spR K R_anew))
    (k_wv : Mak P w K mg base 2 C "WebView" (spWV K C)) (m_wv_has_letter : Met P w K mg base 1 C "has_letter" (spV (R_has K C))) (c_step_truths : Cal P w K mg base 4 "step_truths" (spR K R_step)) :
    ∀ n, Cal P w K mg base (n + 5) "truths_in" (spR K (R_truth n)) ∧ Cal P w K mg base (n + 4) "truths_in" (spR K (R_truth (n - 1))) := by
  have no : ∀ k, Cal P w K mg base k "truths_in" (spR K (R_truth 0)) := fun k => cal_no (N := n_truths_in) (ps := p_truths_in) D (fun _ _ _ _ _ _ us hl => match us, hl with | [_, _], _ => rfl) fun vs H Q E h => by
    obtain ⟨_, _, _, _, _, ⟨W, s, _, _, hl, _⟩, _⟩ := h
    cases s <;> simp [ld] at hl
  intro n
  induction n with
  | zero => exact ⟨no _, no _⟩
  | succ n ih =>
    refine ⟨truths_step (k := n) T c D k_wv m_wv_has_letter c_step_truths ih.1 (joined_truths_ok T D1 ih.2) ?_, ?_⟩
    · have := told_truths_ok (k := n + 3) (n := n - 1) T D2 ih.2 c_called_anew
      exact this
    · exact ih.1
abbrev R_where (n : Nat) (ds : List PyData) (d : PyData) : Prop := ∃ W s, ds = [encW W, enc s] ∧ WOk W ∧ ld s ≤ n ∧ wide s = true ∧ d = .tuple (((List.range W.many).filter (satW W s)).map inD)
theorem enum_bl (g : Nat → Bool) (n : Nat) : enumD (((List.range n).map g).map PyData.bool) = (List.range n).map fun i => .tuple [inD i, .bool (g i)] := by
  refine List.ext_getElem? fun i => ?_
  unfold enumD
  rw [List.getElem?_zipWith]
  by_cases h : i < n
  · simp [h]
  · simp [h]
theorem worlds_where_ok (T : Tx K w mg) (D : Dfn K mg "worlds_where" s_worlds_where) {n k : Nat} (c_truths_in : Cal P w K mg base k "truths_in" (spR K (R_truth n))) : Cal P w K mg base (k + 1) "worlds_where" (spR K (R_where n)) := by
  refine cal_of D sc_worlds_where (fun _ _ _ _ _ _ us hl => match us, hl with | [_, _], _ => rfl) (spR_len fun ds d h => by obtain ⟨_, _, rfl, _⟩ := h; rfl) fun fa cdv A outer s H vs Q E hr h => ?_
  refine ⟨_, (pss_one (ps_ret (pe_callTy call_tuple_of rfl T.tuple_ (by decide +kernel) (pa_cons (pe_lc (own := [("world", 2), ("is_so", 3)]) (g := gTup K 2 (gCons (gName 2) (gCons (gName 3) gNil))) rfl sc_worlds_where.nd (pi_enum rfl T.enumerate_ (pa_cons (pc_ c_truths_in hr (by omega) (pa_cons (pv 0) (pa_cons (pv 1) pa_nil))) pa_nil)) (blkOk_by (N := n_worlds_where) (sc := defScope s_worlds_where) (own := [("world", 2), ("is_so", 3)]) (by decide +kernel)) (fun _ _ _ _ _ => (pg_tup rfl (pgs_cons (pg_name (i := 2) sc_worlds_where.nd rfl (Or.inl rfl)) (pgs_cons (pg_name (i := 3) sc_worlds_where.nd rfl (Or.inl rfl)) pgs_nil)))) (fun _ _ _ _ _ => (pts_one (pt_val (pv 3)))) (fun _ _ _ _ _ => (pv 2))) pa_nil)))), ?_⟩
  refine ret_of h fun ds d H hd hR => ?_
  obtain ⟨W, s, rfl, hW, hld, hwd, rfl⟩ := hR
  obtain ⟨x0, x1, rfl, h0, h1⟩ := of_two hd
  have hm := hW.many
  have en := ei_enum (K := K) (σ := [some x0, some x1, none, none]) (H := H) (evd_call (E := E0) (R := R_truth n) (evds_cons (evd_var (i := 0) rfl h0) (evds_cons (evd_var (i := 1) rfl h1) evds_nil)) ⟨W, s, rfl, hW, hld, hwd, rfl⟩)
  rw [enum_bl] at en
  exact rd_ret (evd_tupL (evd_lc2 (i := 2) (j := 3) (as := List.range W.many) (e1 := inD) (e2 := fun i => .bool (satW W s i)) (satW W s) inD en (by rw [List.length_range]; omega) (fun _ _ => rfl)
    (fun i hi xv yv H5 e5 hxv hyv => ⟨et_dB (evd_var rfl hyv), fun _ => evd_var rfl hxv⟩)))
end
end Kx
/-! ## KR_Hold -/
set_option Elab.async false
set_option linter.all false
set_option maxRecDepth 100000
set_option maxHeartbeats 2000000
/-! What holds at one world: the worlds reached. -/
namespace Kx
open PySem PySem.Spec PyProof.Rows L2 Evl
theorem nodup_len : ∀ (n : Nat) (l : List Nat), l.Nodup → (∀ x, x ∈ l → x < n) → l.length ≤ n
  | 0, [], _, _ => Nat.le_refl _
  | 0, a :: r, _, h => by have := h a List.mem_cons_self; omega
  | n + 1, l, hn, h => by
    have h1 : (l.erase n).Nodup := hn.erase n
    have h2 := nodup_len n (l.erase n) h1 fun x hx => by
      have hm := (hn.mem_erase_iff.mp hx)
      have := h x hm.2
      omega
    have := List.length_erase (a := n) (l := l)
    split at this <;> omega
/-- all but two places stand -/
def Kc (p q : Addr) (H H' : Hp) : Prop := ∀ b o, b ≠ p → b ≠ q → H b = some o → H' b = some o
section
variable {P : Program} {w : World} {K : Fg} {mg : Str → Option Value} {base : Heap}
abbrev R_need (K : Fg) (H : Hp) (vs : List V) (P : Hp → V → Prop) : Prop := ∃ W x, DpAll K H vs [encW W, inD x] ∧ x < W.many ∧ P = fun _ v => v = .non
theorem need_world_ok (D : Dfn K mg "need_world" s_need_world) : Cal P w K mg base 1 "need_world" (spV (R_need K)) := by
  refine cal_of D sc_need_world (fun _ _ _ _ _ _ us hl => match us, hl with | [_, _], _ => rfl) (spV_len fun H vs P h => by obtain ⟨_, _, h, _⟩ := h; exact dpa_len h) fun fa cdv A outer s H vs Q E hr h => ?_
  refine ⟨_, (pss_one (ps_if (pt_not (pt_chain op_le op_lt pe_int (pv 1) (pe_ix (show IxR _ (rIxT K) from ix_tup) (pv 0) pe_int (fun _ _ => rfl)))) (pss_one ps_never) pss_nil)), ?_⟩
  obtain ⟨F, P, p, ⟨W, x, hd, hx, rfl⟩, q⟩ := h
  obtain ⟨x0, x1, rfl, h0, h1⟩ := of_two hd
  obtain rfl := of_dp_int h1
  obtain ⟨tq, xs, rfl, hs, hxs⟩ := of_dp_tup h0
  obtain ⟨y0, y1, y2, rfl, hy0, _, _⟩ := of_three hxs
  obtain rfl := of_dp_int hy0
  refine ⟨_, rfl, _, _, rfl, rfl, true, by simp, ?_⟩
  rw [if_pos rfl]
  refine ⟨_, rfl, tq, _, 0, _, rfl, rfl, ex_t del_le hs, rfl, _, _, rfl, rfl, true, by simp [hx], ?_⟩
  exact q _ H (Ex.refl _) rfl
/-- the worlds found and the worlds left -/
def Clo (W : Web) (fs st : List Nat) (here : Nat) (todo : Nat → Nat → Prop) : Prop := ∀ h p, p ∈ W.E h → p.1 ∈ fs → p.1 ∈ st ∨ p.2 ∈ fs ∨ (p.1 = here ∧ todo h p.2)
def Fou (W : Web) (x0 : Nat) (df ll : Addr) (H : Hp) (fs st : List Nat) : Prop :=
  ∃ kvs : List (Key × V), H df = some (.dK kvs) ∧ kvs.map (·.1) = fs.map (fun x : Nat => (Sum.inl (x : Int) : Key)) ∧ H ll = some (.lst (st.map inV')) ∧ fs.Nodup ∧ (∀ y, y ∈ fs → y < W.many) ∧ (∀ y, y ∈ st → y ∈ fs) ∧ x0 ∈ fs
theorem Fou.ex {W : Web} {x0 : Nat} {df ll : Addr} {H H' : Hp} {fs st : List Nat} (e : Ex H H') (h : Fou W x0 df ll H fs st) : Fou W x0 df ll H' fs st := by
  obtain ⟨kvs, h1, h2, h3, h4⟩ := h
  exact ⟨kvs, e _ _ h1, h2, e _ _ h3, h4⟩
theorem valV_keys {fs : List Nat} {y : Nat} : ∀ {kvs : List (Key × V)}, kvs.map (·.1) = fs.map (fun x : Nat => (Sum.inl (x : Int) : Key)) → (valV kvs (.inl (y : Int))).isSome = decide (y ∈ fs) := by
  induction fs with
  | nil => intro kvs h; have : kvs = [] := by simpa using h
           subst this; rfl
  | cons a r ih =>
    intro kvs h
    cases kvs with
    | nil => cases h
    | cons kv m =>
      rw [List.map_cons, List.map_cons] at h
      injection h with h1 h2
      by_cases e : a = y
      · subst e
        rw [valV_pos h1]; simp
      · rw [valV_neg (by rw [h1]; intro z; injection z with z; exact e (Int.ofNat_inj.mp z)), ih h2]
        have e2 : ¬ y = a := fun z => e z.symm
        simp [e2]
abbrev PReach (K : Fg) (W : Web) (x : Nat) (H : Hp) (v : V) : Prop := ∃ ks : List Nat, Dp K H v (.list (ks.map inD)) ∧ ks.Nodup ∧ x ∈ ks ∧ (∀ y, y ∈ ks → y < W.many) ∧ ∀ h p, p ∈ W.E h → p.1 ∈ ks → p.2 ∈ ks
abbrev R_reach (K : Fg) (H : Hp) (vs : List V) (P : Hp → V → Prop) : Prop := ∃ W x, DpAll K H vs [encW W, inD x] ∧ WOk W ∧ W.many < 60 ∧ x < W.many ∧ P = PReach K W x
theorem worlds_reached_ok {C : Addr} (T : Tx K w mg) (c : Cw K C) (D : Dfn K mg "worlds_reached" s_worlds_reached) (k_wv : Mak P w K mg base 2 C "WebView" (spWV K C)) (m_wv_led_from : Met P w K mg base 1 C "led_from" (spV (R_from K C))) :
    Cal P w K mg base 4 "worlds_reached" (spV (R_reach K)) := by
  refine cal_of (k := 3) D sc_worlds_reached (fun _ _ _ _ _ _ us hl => match us, hl with | [_, _], _ => rfl) (spV_len fun H vs P h => by obtain ⟨_, _, h, _⟩ := h; exact dpa_len h) fun fa cdv A outer s H vs Q E hr h => ?_
  refine ⟨_, (pss_cons (ps_set (i := 2) sc_worlds_reached.nd rfl (Or.inl rfl) (pk_ k_wv hr (by omega) (pa_cons (pv 0) pa_nil)))
        (pss_cons (ps_set (i := 3) sc_worlds_reached.nd rfl (Or.inl rfl) (pe_disp (pps_cons (pv 1) pe_bl pps_nil) (by rfl) (by rfl) (fun z => by cases z) (by decide)))
        (pss_cons (ps_set (i := 4) sc_worlds_reached.nd rfl (Or.inl rfl) (pe_lst (pa_cons (pv 1) pa_nil)))
        (pss_cons (ps_while PassesOwn.never (pt_cmpR (op_neD hr.units) (pv 4) (pe_lst pa_nil) (nomark _)) (pss_cons (ps_set (i := 5) sc_worlds_reached.nd rfl (Or.inl rfl) (pe_bm0 PySem.F.plainAttrs_list PySem.F.slot_list_pop PySem.F.type_list_pop mt_pop (pv 4)))
        (pss_one (ps_lock (ps_for PassesOwn.never rfl (pi_keys (pe_fld (pv 2) rfl)) (pg_name (i := 6) sc_worlds_reached.nd rfl (Or.inl rfl)) (pss_one (ps_for PassesOwn.never rfl (pi_list (pm_ m_wv_led_from hr (by omega) (pv 2) (pa_cons (pv 6) (pa_cons (pv 5) pa_nil)))) (pg_name (i := 7) sc_worlds_reached.nd rfl (Or.inl rfl)) (pss_one (ps_if (pt_cmp (pc_dnotin (hu_of hr) (pv 7) (pv 3))) (pss_cons (ps_dput (hu_of hr) (pv 3) (pv 7) pe_bl rfl)
        (pss_one (ps_expr (pe_bm PySem.F.plainAttrs_list PySem.F.slot_list_append PySem.F.type_list_append mt_append (pv 4) (pa_cons (pv 7) pa_nil))))) pss_nil)))))))))
        (pss_one (ps_ret (pe_callB (call_sortedDI rfl) rfl T.sorted_ (by decide +kernel) (pa_cons (pv 3) pa_nil)))))))), ?_⟩
  refine retP_of h fun P H hR => ?_
  obtain ⟨W, x0, hd, hW, hm, hx0, rfl⟩ := hR
  obtain ⟨u0, u1, rfl, h0, h1⟩ := of_two hd
  obtain rfl := of_dp_int h1
  refine rp_set (evp_makeU (evd_var rfl h0) hW) fun v2 H1 e1 h2 => ?_
  intro F H2 p2 e2 D q
  -- found, left
  intro df hdf
  refine ⟨_, rfl, upd_same, [(.inl (x0 : Int), .bl true)], rfl, by simp, ?_⟩
  refine ⟨_, rfl, by show (1 : Nat) ≤ sizeLine; decide, fun ll hll => ?_⟩
  obtain ⟨H3, eH3⟩ : ∃ H3, H3 = upd (upd (upd H2 df (.dK [])) df (.dK (mergeK [] [((.inl (x0 : Int) : Key), V.bl true)]))) ll (.lst [.int (x0 : Int)]) := ⟨_, rfl⟩
  rw [← eH3]
  have hdl : df ≠ ll := fun z => by subst z; rw [upd_same] at hll; cases hll
  have H3d : H3 df = some (.dK [((.inl (x0 : Int) : Key), V.bl true)]) := by rw [eH3, upd_ne hdl, upd_same]; rfl
  have H3l : H3 ll = some (.lst [inV' x0]) := by rw [eH3, upd_same]
  have hll2 : H2 ll = none := by
    cases z : H2 ll with
    | none => rfl
    | some o => rw [upd_ne (Ne.symm hdl), upd_ne (Ne.symm hdl), z] at hll; cases hll
  have e23 : Ex H2 H3 := fun b o hb => by
    have n1 := ne_of_none hb hdf
    have n2 := ne_of_none hb hll2
    rw [eH3, upd_ne n2, upd_ne n1, upd_ne n1]; exact hb
  let F1 := add (add F df) ll
  have F1d : F1 df = true := by show (add F df df || _) = true; rw [add_self]; rfl
  have F1l : F1 ll = true := add_self
  have p3 : Prv F1 H3 := ((p2.mono e23).add (some_ne H3d)).add (some_ne H3l)
  have kd : ∀ {H' : Hp}, Kc df ll H3 H' → Ex (del H3 F1) (del H' F1) := fun k b o h => by
    obtain ⟨f, hb⟩ := del_some h
    exact del_at f (k b o (fun z => by subst z; rw [F1d] at f; cases f) (fun z => by subst z; rw [F1l] at f; cases f) hb)
  have kp : ∀ {H H' : Hp}, Prv F1 H → Kc df ll H H' → H' df ≠ none → H' ll ≠ none → Prv F1 H' := fun {H H'} p k hd hl b hb => by
    by_cases n1 : b = df
    · subst n1; exact hd
    · by_cases n2 : b = ll
      · subst n2; exact hl
      · intro z
        cases q : H b with
        | none => exact p b hb q
        | some o => rw [k b o n1 n2 q] at z; cases z
  have ev3 : Ex H1 (del H3 F1) := fun b o h => by
    have hb := e2 b o h
    obtain ⟨f, hb⟩ := del_some hb
    have n1 := ne_of_none hb hdf
    have n2 := ne_of_none hb hll2
    refine del_at ?_ (e23 b o hb)
    exact add_ne (add_ne f n1) n2
  obtain ⟨aV, dxV, d1, d2, kv0, rfl, hV0, hL0, hLed0, hT0⟩ := h2
  have hV := ev3 _ _ hV0
  have hT := hT0.rd (.of ev3)
  obtain ⟨kvL, hL1, hL2⟩ := hLed0.rd (.of ev3)
  have hd1 : H3 d1 = some (.dK kvL) := by
    have h := del_le _ _ (ev3 _ _ hL0)
    rcases ex_rd del_le hL1 with q | ⟨o, q⟩
    · exact q
    · rw [h] at q; cases q
  have hV3 : H3 aV = some (.ins C dxV [("many", inV' W.many), ("led_by", .ref d1), ("true_at", .ref d2)]) := del_le _ _ hV
  -- what the slots hold
  let Sl : L2.St → Prop := fun σ => σ.length = 8 ∧ σ[2]? = some (some (.ref aV)) ∧ σ[3]? = some (some (.ref df)) ∧ σ[4]? = some (some (.ref ll))
  have Slset : ∀ {σ : L2.St} {i : Nat} {v : Option V}, 5 ≤ i → Sl σ → Sl (σ.set i v) := fun {σ i v} hi ⟨a, b, c, d⟩ => by
    refine ⟨by rw [List.length_set]; exact a, ?_, ?_, ?_⟩ <;> rw [List.getElem?_set_ne (by omega)] <;> assumption
  have lenle : ∀ {H : Hp} {fs st : List Nat}, Fou W x0 df ll H fs st → fs.length ≤ W.many := fun ⟨_, _, _, _, hn, hb, _⟩ => nodup_len _ _ hn hb
  dsimp only [tSeq]
  refine ⟨fun m σ H' => Sl σ ∧ Kc df ll H3 H' ∧ ∃ fs st, Fou W x0 df ll H' fs st ∧ m = 2 * (W.many - fs.length) + st.length ∧ m ≤ 200 ∧ Clo W fs st 0 fun _ _ => False,
    ⟨_, ⟨rfl, rfl, rfl, rfl⟩, fun b o _ _ h => h, [x0], [x0], ⟨_, H3d, rfl, H3l, by simp, by simpa using hx0, fun y h => h, by simp⟩, rfl, by simp only [List.length_cons, List.length_nil]; omega, fun h p _ hp => .inl hp⟩, ?_⟩
  have hd12 : H2 d1 = some (.dK kv0) := del_le _ _ (e2 _ _ hL0)
  have hdd : d1 ≠ df := ne_of_none hd12 hdf
  have hdl1 : d1 ≠ ll := ne_of_none hd12 hll2
  have hV2 : H2 aV = _ := del_le _ _ (e2 _ _ hV0)
  have haV1 : aV ≠ df := ne_of_none hV2 hdf
  have haV2 : aV ≠ ll := ne_of_none hV2 hll2
  have haVd : aV ≠ d1 := fun z => by subst z; rw [hd12] at hV2; cases hV2
  have nL : kvL.length = W.steps.length := hL2.len.symm
  rintro m σ H' ⟨⟨sl, s2, s3, s4⟩, kc, fs, st, fo, rfl, h200, clo⟩
  obtain ⟨kvs, hk1, hk2, hk3, hk4, hk5, hk6, hk7⟩ := id fo
  refine ⟨_, s4, by show (0 : Nat) ≤ sizeLine; omega, fun qa hqa => ?_⟩
  have nq1 : df ≠ qa := ne_of_none hk1 hqa
  have nq2 : ll ≠ qa := ne_of_none hk3 hqa
  refine ⟨.list (st.map inD), .list [], .lst (sq_of (by rw [upd_ne nq2]; exact hk3)) (dpa_of_inV st), .lst (sq_of upd_same) .nil, shp_lst fun d hd => by obtain ⟨p, _, rfl⟩ := List.mem_map.mp hd; exact can_int _, rfl, _, rfl, ?_⟩
  have hfe : PyData.eqv (.list (st.map inD)) (.list []) = st.isEmpty := by rw [PyData.eqv, eqv_nil, isE]
  rw [hfe]
  have kq : Kc df ll H3 (upd H' qa (.lst [])) := fun b o n1 n2 h => by
    have := kc b o n1 n2 h
    rw [upd_ne (ne_of_none this hqa)]; exact this
  have foq : Fou W x0 df ll (upd H' qa (.lst [])) fs st := fo.ex (Ex.new hqa)
  rcases List.eq_nil_or_concat st with rfl | ⟨st', here, est⟩
  · -- all found
    show (if (!([] : List Nat).isEmpty) = true then _ else _)
    rw [if_neg (by simp)]
    have hlen := lenle fo
    refine ⟨_, s3, df, kvs, fs.map fun x : Nat => (x : Int), rfl, .inl (by rw [upd_ne nq1]; exact hk1), by rw [hk2, List.map_map]; rfl, by rw [List.length_map]; omega, fun ys p hp _ hpn => ?_⟩
    obtain ⟨ns, hns⟩ : ∃ ns, ns = ys.map Int.toNat := ⟨_, rfl⟩
    have hpm : ns.Perm fs := by
      have := hp.map Int.toNat
      rw [List.map_map] at this
      have e : fs.map (Int.toNat ∘ fun x : Nat => (x : Int)) = fs := by
        rw [show (Int.toNat ∘ fun x : Nat => (x : Int)) = id from by funext x; simp]; exact List.map_id _
      rw [e] at this
      exact hns ▸ this
    have hys : ys = ns.map fun x : Nat => (x : Int) := by
      rw [hns, List.map_map]
      have : ∀ y, y ∈ ys → ((fun x : Nat => (x : Int)) ∘ Int.toNat) y = y := fun y hy => by
        obtain ⟨x, _, rfl⟩ := List.mem_map.mp (hp.mem_iff.mp hy)
        simp
      exact ((List.map_congr_left this).trans (List.map_id' _)).symm
    have exF : Ex H2 (upd (upd H' qa (.lst [])) p (.lst (ys.map V.int))) := fun b o hb => by
      have h3 := e23 b o hb
      have := kq b o (ne_of_none hb hdf) (ne_of_none hb hll2) h3
      rw [upd_ne (ne_of_none this hpn)]; exact this
    have hp2 : H2 p = none := fresh_back (H' := upd H' qa (.lst [])) (fun b o hb => kq b o (ne_of_none hb hdf) (ne_of_none hb hll2) (e23 b o hb)) hpn
    refine q _ _ exF ⟨ns, .lst (sq_of (del_at (p2.no hp2) upd_same)) ?_, hpm.nodup_iff.mpr hk4, hpm.mem_iff.mpr hk7, fun y hy => hk5 y (hpm.mem_iff.mp hy), fun h p hp1 hp2 => ?_⟩
    · rw [hys, List.map_map]
      exact dpa_of_inV ns
    · rcases clo h p hp1 (hpm.mem_iff.mp hp2) with z | z | ⟨_, z⟩
      · cases z
      · exact hpm.mem_iff.mpr z
      · exact z.elim
  · rw [List.concat_eq_append] at est
    subst est
    show (if (!(st' ++ [here]).isEmpty) = true then _ else _)
    rw [if_pos (by simp)]
    have hst : (st' ++ [here]).map inV' = st'.map inV' ++ [inV' here] := by simp
    have hhere : here ∈ fs := hk6 here (by simp)
    have hk3q : upd H' qa (.lst []) ll = some (.lst ((st' ++ [here]).map inV')) := by rw [upd_ne nq2]; exact hk3
    obtain ⟨M, hM⟩ : ∃ M, M = 2 * (W.many - fs.length) + st'.length := ⟨_, rfl⟩
    refine ⟨fun σ' H'' => Sl σ' ∧ Kc df ll H3 H'' ∧ ∃ fs' st2, Fou W x0 df ll H'' fs' st2 ∧ 2 * (W.many - fs'.length) + st2.length ≤ M ∧ Clo W fs' st2 0 fun _ _ => False, fun σ' H'' ⟨a1, a2, fs', st2, a3, a4, a5⟩ => ⟨_, by rw [List.length_append, List.length_singleton]; omega, a1, a2, fs', st2, a3, rfl, by rw [List.length_append, List.length_singleton] at h200; omega, a5⟩, ?_⟩
    refine ⟨_, s4, .inl ⟨rfl, _, sq_of hk3q⟩, ll, _, inV' here, rfl, rfl, hk3q, by rw [hst]; simp, ?_⟩
    rw [hst, List.dropLast_concat]
    obtain ⟨G0, hG0⟩ : ∃ G0, G0 = upd (upd H' qa (.lst [])) ll (.lst (st'.map inV')) := ⟨_, rfl⟩
    rw [← hG0]
    have kG : Kc df ll H3 G0 := fun b o n1 n2 h => by rw [hG0, upd_ne n2]; exact kq b o n1 n2 h
    have G0d : G0 d1 = some (.dK kvL) := kG _ _ hdd hdl1 hd1
    have foG : Fou W x0 df ll G0 fs st' := ⟨kvs, by rw [hG0, upd_ne hdl, upd_ne nq1]; exact hk1, hk2, by rw [hG0, upd_same], hk4, hk5, fun y hy => hk6 y (by simp [hy]), hk7⟩
    refine ⟨d1, .dK kvL, G0d, trivial, fun od => ?_⟩
    obtain ⟨L0, hL0'⟩ : ∃ L0, L0 = upd G0 d1 (.frz od (.dK kvL)) := ⟨_, rfl⟩
    rw [← hL0']
    have L0d : L0 d1 = some (.frz od (.dK kvL)) := by rw [hL0', upd_same]
    have L0V : L0 aV = some (.ins C dxV [("many", inV' W.many), ("led_by", .ref d1), ("true_at", .ref d2)]) := by rw [hL0', upd_ne haVd]; exact kG _ _ haV1 haV2 (del_le _ _ hV)
    have foL : Fou W x0 df ll L0 fs st' := by
      obtain ⟨kv, a1, a2, a3, a4⟩ := foG
      exact ⟨kv, by rw [hL0', upd_ne (Ne.symm hdd)]; exact a1, a2, by rw [hL0', upd_ne (Ne.symm hdl1)]; exact a3, a4⟩
    have cloL : Clo W fs st' here fun _ _ => True := fun h p hp h1 => by
      rcases clo h p hp h1 with z | z | ⟨_, z⟩
      · rcases List.mem_append.mp z with z | z
        · exact .inl z
        · exact .inr (.inr ⟨by simpa using z, trivial⟩)
      · exact .inr (.inl z)
      · exact z.elim
    have rdL : RdE (del H3 F1) (del L0 F1) := fun b u h => by
      have fb : F1 b = false := by
        rcases h with h | ⟨o, h⟩
        · exact (del_some h).1
        · exact (del_some h).1
      have n1 : b ≠ df := fun z => by subst z; rw [F1d] at fb; cases fb
      have n2 : b ≠ ll := fun z => by subst z; rw [F1l] at fb; cases fb
      by_cases e : b = d1
      · subst e
        rcases h with h | ⟨o, h⟩
        · have h := (del_some h).2
          rw [hd1] at h
          cases h
          exact .inr ⟨od, del_at fb L0d⟩
        · have h := (del_some h).2
          rw [hd1] at h
          cases h
      · rcases h with h | ⟨o, h⟩
        · exact .inl (del_at fb (by rw [hL0', upd_ne e]; exact kG _ _ n1 n2 (del_some h).2))
        · exact .inr ⟨o, del_at fb (by rw [hL0', upd_ne e]; exact kG _ _ n1 n2 (del_some h).2)⟩
    have fV : F1 aV = false := (del_some hV).1
    have vwL : VwF K C (del L0 F1) (.ref aV) W := ⟨aV, dxV, d1, d2, rfl, del_at fV L0V, LedF.rd rdL ⟨kvL, hL1, hL2⟩, hT.rd rdL⟩
    have pL : Prv F1 L0 := by
      have pG : Prv F1 G0 := kp p3 kG (by obtain ⟨_, a1, _⟩ := foG; rw [a1]; exact fun z => nomatch z) (by obtain ⟨_, _, _, a3, _⟩ := foG; rw [a3]; exact fun z => nomatch z)
      rw [hL0']
      exact prv_upd pG
    have kdL : ∀ {H' : Hp}, Kc df ll L0 H' → Ex (del L0 F1) (del H' F1) := fun k b o h => by
      obtain ⟨f, hb⟩ := del_some h
      exact del_at f (k b o (fun z => by subst z; rw [F1d] at f; cases f) (fun z => by subst z; rw [F1l] at f; cases f) hb)
    have sV : (σ.set 5 (some (inV' here)))[2]? = some (some (.ref aV)) := by rw [List.getElem?_set_ne (by decide)]; exact s2
    refine ⟨_, sV, aV, C, dxV, _, .ref d1, rfl, L0V, c.cls, c.n2, by kernel_rfl, d1, od, rfl, .inl ⟨kvL, L0d, ?_⟩⟩
    refine ⟨fun i m σ' H'' => m = W.steps.length - i ∧ i ≤ W.steps.length ∧ Sl σ' ∧ σ'[5]? = some (some (inV' here)) ∧ Kc df ll L0 H'' ∧ ∃ fs' st2, Fou W x0 df ll H'' fs' st2 ∧ 2 * (W.many - fs'.length) + st2.length ≤ M ∧ Clo W fs' st2 here fun h _ => h ∉ (W.steps.take i).map (·.1),
      ⟨_, rfl, Nat.zero_le _, Slset (by omega) ⟨sl, s2, s3, s4⟩, List.getElem?_set_self (by omega), fun b o _ _ h => h, fs, st', foL, by omega, fun h p hp h1 => (cloL h p hp h1).imp id (Or.imp id fun z => ⟨z.1, by simp⟩)⟩, ?_⟩
    rintro i m σ' H'' ⟨rfl, hile, hS, s5, kL, fs', st2, fo2, hM2, clo2⟩
    have hd'' : H'' d1 = some (.frz od (.dK kvL)) := kL _ _ hdd hdl1 L0d
    by_cases hlt : i < W.steps.length
    · -- one more hand
      obtain ⟨sh, hsh⟩ : ∃ sh, sh = W.steps[i] := ⟨_, rfl⟩
      have hget : W.steps[i]? = some sh := by rw [hsh]; exact List.getElem?_eq_getElem hlt
      have hkv : ∀ {k v}, kvL[i]? = some (k, v) → k = .inr (sg sh.1) := fun {k v} hk => by
        have gen : ∀ {l : List (Nat × List (Nat × Nat))} {m : List (Key × V)} (j : Nat), Fa (fun (s : Nat × List (Nat × Nat)) (kv : Key × V) => kv.1 = .inr (sg s.1) ∧ ∃ r, kv.2 = .ref r ∧ RowF (del H3 F1) r s.2) l m → l[j]? = some sh → m[j]? = some (k, v) → k = .inr (sg sh.1) := by
          intro l m j q
          induction q generalizing j with
          | nil => intro h; cases h
          | cons h t ih =>
            intro h1 h2
            cases j with
            | zero => cases h1; cases h2; exact h.1
            | succ j => exact ih j h1 h2
        exact gen i hL2 hget hk
      refine .inr ⟨⟨hd'', by rw [nL]; exact hlt⟩, fun σ' H'' => i + 1 ≤ W.steps.length ∧ Sl σ' ∧ σ'[5]? = some (some (inV' here)) ∧ Kc df ll L0 H'' ∧ ∃ fs' st2, Fou W x0 df ll H'' fs' st2 ∧ 2 * (W.many - fs'.length) + st2.length ≤ M ∧ Clo W fs' st2 here fun h _ => h ∉ (W.steps.take (i + 1)).map (·.1),
        fun σ' H'' z => ⟨_, by omega, rfl, z⟩, fun x Hy ⟨ey, k, v, hk, hx⟩ => ?_⟩
      subst Hy
      rw [hkv hk] at hx
      subst hx
      have tk : (W.steps.take (i + 1)).map (·.1) = (W.steps.take i).map (·.1) ++ [sh.1] := by rw [List.take_succ, hget]; simp
      have hS6 := Slset (i := 6) (v := some (V.str (sg sh.1))) (by omega) hS
      have u5 : (σ'.set 6 (some (V.str (sg sh.1))))[5]? = some (some (inV' here)) := by rw [List.getElem?_set_ne (by decide)]; exact s5
      have u6 : (σ'.set 6 (some (V.str (sg sh.1))))[6]? = some (some (.str (sg sh.1))) := List.getElem?_set_self (by have := hS.1; omega)
      have pF'' : Prv F1 H'' := kp pL kL (by obtain ⟨_, a1, _⟩ := fo2; rw [a1]; exact fun z => nomatch z) (by obtain ⟨_, _, _, a3, _⟩ := fo2; rw [a3]; exact fun z => nomatch z)
      have vw2 := vwL.mono (kdL kL)
      have led : EvD K (tMeth C "led_from" (spV (R_from K C)) [] E0 (tVar 2) (tCons (tVar 6) (tCons (tVar 5) tNil))) (σ'.set 6 (some (V.str (sg sh.1)))) (del H'' F1) (.list ((ends (W.E sh.1) here).map inD)) :=
        evd_of (evp_meth (K := K) (P2 := fun H v => VwF K C H v W) (evp_var hS6.2.1 mon_vw vw2) (fun H v ⟨q1, dx, d1, d2, q2, q3, _⟩ => ⟨q1, dx, _, q2, q3, by kernel_rfl⟩) mon_vw (evds_cons (evd_var u6 (.str _)) (evds_cons (evd_var (v := inV' here) u5 (.int _)) evds_nil)) fun H' v vs e hv hvs => by
          obtain ⟨y1, y2, rfl, hy1, hy2⟩ := of_two hvs
          obtain rfl := of_dp_str hy1
          obtain rfl := of_dp_int hy2
          exact ⟨v, W, sh.1, here, rfl, hv, rfl⟩)
      refine for_d (F := F1) (ei_lst led) pF'' (Ex.refl _) fun H8 e8 => ⟨fun j F' σ H => F' = F1 ∧ Sl σ ∧ σ[5]? = some (some (inV' here)) ∧ Kc df ll L0 H ∧ ∃ fs' st2, Fou W x0 df ll H fs' st2 ∧ 2 * (W.many - fs'.length) + st2.length ≤ M ∧ Clo W fs' st2 here fun h y => h ∉ (W.steps.take i).map (·.1) ∧ (h = sh.1 → y ∉ (ends (W.E sh.1) here).take j), ?_, ?_, ?_, ?_⟩
      · exact ⟨rfl, hS6, u5, fun b o n1 n2 h => e8 _ _ (kL b o n1 n2 h), fs', st2, fo2.ex e8, hM2, fun h p hp h1 => (clo2 h p hp h1).imp id (Or.imp id fun z => ⟨z.1, z.2, fun _ => by simp⟩)⟩
      · rintro j F' σ Ha Hb ex ⟨rfl, a1, a2, a3, f1, f2, a4, a5, a6⟩
        exact ⟨rfl, a1, a2, fun b o n1 n2 h => ex _ _ (a3 b o n1 n2 h), f1, f2, a4.ex ex, a5, a6⟩
      · rintro j xv σ4 H4 F' d hd ⟨rfl, a1, a2, a3, f1, f2, a4, a5, a6⟩ pF eF hxv
        have hj : j < (ends (W.E sh.1) here).length := by
          have := (List.getElem?_eq_some_iff.mp hd).1
          simpa using this
        have hgetj : (ends (W.E sh.1) here)[j]? = some (ends (W.E sh.1) here)[j] := List.getElem?_eq_getElem hj
        rw [List.getElem?_map, hgetj] at hd
        obtain ⟨y, hy⟩ : ∃ y, y = (ends (W.E sh.1) here)[j] := ⟨_, rfl⟩
        rw [← hy] at hd hgetj
        cases hd
        obtain rfl := of_dp_int hxv
        have hym : y ∈ ends (W.E sh.1) here := List.mem_of_getElem? hgetj
        have hylt := ends_lt hW hym
        have tj : (ends (W.E sh.1) here).take (j + 1) = (ends (W.E sh.1) here).take j ++ [y] := by rw [List.take_succ, hgetj]; rfl
        have hS7 := Slset (i := 7) (v := some (V.int (y : Int))) (by omega) a1
        have w5 : (σ4.set 7 (some (V.int (y : Int))))[5]? = some (some (inV' here)) := by rw [List.getElem?_set_ne (by decide)]; exact a2
        have w7 : (σ4.set 7 (some (V.int (y : Int))))[7]? = some (some (.int (y : Int))) := List.getElem?_set_self (by have := a1.1; omega)
        obtain ⟨kv4, b1, b2, b3, b4, b5, b6, b7⟩ := id a4
        refine ⟨_, w7, _, hS7.2.2.1, df, _, rfl, DGet.k (k := .inl (y : Int)) b1, _, rfl, ?_⟩
        rw [valV_keys b2]
        by_cases hyf : y ∈ f1
        · rw [decide_eq_true hyf]
          show (if (!true) = true then _ else _)
          rw [if_neg (by decide)]
          refine ⟨F1, ⟨rfl, hS7, w5, a3, f1, f2, a4, a5, fun h p hp h1 => ?_⟩, pF, eF⟩
          rcases a6 h p hp h1 with z | z | ⟨z1, z2, z3⟩
          · exact .inl z
          · exact .inr (.inl z)
          · by_cases hpy : p.2 = y
            · exact .inr (.inl (hpy ▸ hyf))
            · exact .inr (.inr ⟨z1, z2, fun e => by rw [tj, List.mem_append]; rintro (m | m); exact z3 e m; exact hpy (by simpa using m)⟩)
        · rw [decide_eq_false hyf]
          show (if (!false) = true then _ else _)
          rw [if_pos (by decide)]
          have lk4 : kv4.length = f1.length := by have := congrArg List.length b2; simpa using this
          have hn5 : (f1 ++ [y]).Nodup := by
            rw [List.nodup_append]
            exact ⟨b4, by simp, fun a ha b hb e => hyf (by rw [← (List.mem_singleton.mp hb), ← e]; exact ha)⟩
          have hb5 : ∀ z, z ∈ f1 ++ [y] → z < W.many := fun z hz => by
            rcases List.mem_append.mp hz with hz | hz
            · exact b5 z hz
            · have : z = y := by simpa using hz
              omega
          have hl5 := nodup_len _ _ hn5 hb5
          rw [List.length_append, List.length_singleton] at hl5
          have hvn : valV kv4 (.inl (y : Int)) = none := by
            have := valV_keys (y := y) b2
            rw [decide_eq_false hyf] at this
            exact Option.isNone_iff_eq_none.mp (by rw [← Option.not_isSome, this]; rfl)
          refine ⟨_, hS7.2.2.1, _, w7, df, _, rfl, DPut.k (k := .inl (y : Int)) b1 (sz_lt (by omega)), ?_⟩
          have b3' : (upd H4 df (.dK (putK kv4 (.inl (y : Int)) (.bl true)))) ll = some (.lst (f2.map inV')) := by rw [upd_ne (Ne.symm hdl)]; exact b3
          have hm2 : f2.length < 100000 := by rw [List.length_append, List.length_singleton] at h200; omega
          refine ⟨_, hS7.2.2.2, .inl ⟨rfl, _, sq_of b3'⟩, _, w7, ll, _, _, rfl, rfl, b3', sz_lt (by rw [List.length_map]; exact hm2), ?_⟩
          refine ⟨F1, ⟨rfl, hS7, w5, fun b o n1 n2 h => by rw [upd_ne n2, upd_ne n1]; exact a3 b o n1 n2 h, f1 ++ [y], f2 ++ [y], ⟨_, by rw [upd_ne hdl, upd_same], ?_, by rw [upd_same, List.map_append]; rfl, hn5, hb5, fun z hz => ?_, List.mem_append_left _ b7⟩, by rw [List.length_append, List.length_append, List.length_singleton]; omega, fun h p hp h1 => ?_⟩, prv_upd (prv_upd pF), ?_⟩
          · rw [putK_new _ hvn, List.map_append, List.map_append, b2]; rfl
          · rcases List.mem_append.mp hz with hz | hz
            · exact List.mem_append_left _ (b6 z hz)
            · exact List.mem_append_right _ hz
          · rcases List.mem_append.mp h1 with h1 | h1
            · rcases a6 h p hp h1 with z | z | ⟨z1, z2, z3⟩
              · exact .inl (List.mem_append_left _ z)
              · exact .inr (.inl (List.mem_append_left _ z))
              · by_cases hpy : p.2 = y
                · exact .inr (.inl (List.mem_append_right _ (by simp [hpy])))
                · exact .inr (.inr ⟨z1, z2, fun e => by rw [tj, List.mem_append]; rintro (m | m); exact z3 e m; exact hpy (by simpa using m)⟩)
            · exact .inl (List.mem_append_right _ h1)
          · rw [del_upd F1l, del_upd F1d]; exact eF
      · rintro σ4 H4 F' ⟨rfl, a1, a2, a3, f1, f2, a4, a5, a6⟩ pF eF
        rw [List.length_map, List.take_length] at a6
        refine ⟨hlt, a1, a2, a3, f1, f2, a4, a5, fun h p hp h1 => ?_⟩
        rcases a6 h p hp h1 with z | z | ⟨z1, z2, z3⟩
        · exact .inl z
        · exact .inr (.inl z)
        · refine .inr (.inr ⟨z1, ?_⟩)
          show h ∉ (W.steps.take (i + 1)).map (·.1)
          rw [tk, List.mem_append]
          rintro (m | m)
          · exact z2 m
          · have e : h = sh.1 := by simpa using m
            refine z3 e ?_
            subst e
            exact List.mem_map.mpr ⟨p, List.mem_filter.mpr ⟨hp, decide_eq_true z1⟩, rfl⟩
    · -- no more
      have hi2 : i = W.steps.length := by omega
      subst hi2
      rw [List.take_length] at clo2
      refine .inl ⟨⟨hd'', by rw [nL]; exact Nat.le_refl _⟩, hd'', hS, fun b o n1 n2 h => ?_, fs', st2, ?_, hM2, fun h p hp h1 => ?_⟩
      · by_cases e : b = d1
        · subst e; rw [upd_same, ← h, hd1]
        · rw [upd_ne e]
          exact kL b o n1 n2 (by rw [hL0', upd_ne e]; exact kG b o n1 n2 h)
      · obtain ⟨kv, c1, c2, c3, c4⟩ := fo2
        exact ⟨kv, by rw [upd_ne (Ne.symm hdd)]; exact c1, c2, by rw [upd_ne (Ne.symm hdl1)]; exact c3, c4⟩
      · rcases clo2 h p hp h1 with z | z | ⟨_, z⟩
        · exact .inl z
        · exact .inr (.inl z)
        · rw [show W.E h = [] from asc_no z] at hp; cases hp
abbrev R_hold (n : Nat) (ds : List PyData) (d : PyData) : Prop := ∃ W x s, ds = [encW W, inD x, enc s] ∧ WOk W ∧ W.many < 60 ∧ x < W.many ∧ ld s ≤ n ∧ wide s = true ∧ d = .bool (satW W s x)
theorem holds_at_ok (T : Tx K w mg) (D : Dfn K mg "holds_at" s_holds_at) {n k : Nat} (c_need_world : Cal P w K mg base 1 "need_world" (spV (R_need K))) (c_worlds_reached : Cal P w K mg base 4 "worlds_reached" (spV (R_reach K))) (c_called_anew : Cal P w K mg base 1 "called_anew" (spR K R_anew))
    (c_truths_in : Cal P w K mg base (k + 5) "truths_in" (spR K (R_truth n))) : Cal P w K mg base (k + 6) "holds_at" (spR K (R_hold n)) := by
  refine cal_of (k := k + 5) D sc_holds_at (fun _ _ _ _ _ _ us hl => match us, hl with | [_, _, _], _ => rfl) (spR_len fun ds d h => by obtain ⟨_, _, _, rfl, _⟩ := h; rfl) fun fa cdv A outer s H vs Q E hr h => ?_
  refine ⟨_, (pss_cons (ps_expr (pc_ c_need_world hr (by omega) (pa_cons (pv 0) (pa_cons (pv 1) pa_nil))))
        (pss_cons (ps_set (i := 3) sc_holds_at.nd rfl (Or.inl rfl) (pc_ c_worlds_reached hr (by omega) (pa_cons (pv 0) (pa_cons (pv 1) pa_nil))))
        (pss_one (ps_ret (pe_ix (show IxR _ (rIxL K) from ix_list) (pc_ c_truths_in hr (by omega) (pa_cons (pc_ c_called_anew hr (by omega) (pa_cons (pv 0) (pa_cons (pv 3) pa_nil))) (pa_cons (pv 2) pa_nil))) (pe_bm PySem.F.plainAttrs_list PySem.F.slot_list_index PySem.F.type_list_index mt_index (pv 3) (pa_cons (pv 1) pa_nil)) (fun _ _ => rfl)))))), ?_⟩
  refine ret_of h fun ds d H hd hR => ?_
  obtain ⟨W, x, s, rfl, hW, hm, hx, hld, hwd, rfl⟩ := hR
  obtain ⟨x0, x1, x2, rfl, h0, h1, h2⟩ := of_three hd
  obtain rfl := of_dp_int h1
  intro F H1 p1 e1 D q
  have nd := evp_call (K := K) (σ := [some x0, some (.int (x : Int)), some x2, none]) (H := H) (E := E0) (R := R_need K) (P := fun _ v => v = .non) (evds_cons (evd_var (i := 0) rfl h0) (evds_cons (evd_var (v := .int (x : Int)) (i := 1) rfl h1) evds_nil)) fun H' vs e hv => ⟨W, x, hv, hx, rfl⟩
  dsimp only [tSeq]
  refine nd F H1 p1 e1 _ fun _ H2 b2 _ => ?_
  have rest : RetD K (tSeq (tAsg (tCall (spV (R_reach K)) [] E0 (tCons (tVar 0) (tCons (tVar 1) tNil))) (gName 3)) (tRet (tOp (rIxL K) (tCall (spR K (R_truth n)) [] E0 (tCons (tCall (spR K R_anew) [] E0 (tCons (tVar 0) (tCons (tVar 3) tNil))) (tCons (tVar 2) tNil))) (tBM K "list" (rIndex K) (tVar 3) (tCons (tVar 1) tNil)))))
      [some x0, some (.int (x : Int)), some x2, none] H (.bool (satW W s x)) := by
    refine rd_setP (evp_call (P := PReach K W x) (evds_cons (evd_var (i := 0) rfl h0) (evds_cons (evd_var (v := .int (x : Int)) (i := 1) rfl h1) evds_nil)) fun H' vs e hv => ⟨W, x, hv, hW, hm, hx, rfl⟩) fun v3 H3 e3 h3 => rd_ret ?_
    obtain ⟨ks, hk, hn, hxk, hkl, hcl⟩ := h3
    have hlk : ks.length ≤ 100 := Nat.le_trans (nodup_len _ _ hn hkl) hW.many
    have t := evd_call (K := K) (σ := [some x0, some (.int (x : Int)), some x2, some v3]) (H := H3) (E := E0) (R := R_truth n) (evds_cons (evd_call (K := K) (E := E0) (R := R_anew) (evds_cons (evd_var (i := 0) rfl (e3.dp h0)) (evds_cons (evd_var (i := 3) rfl hk) evds_nil)) ⟨W, ks, rfl, hW, hn, hlk, rfl⟩) (evds_cons (evd_var (i := 2) rfl (e3.dp h2)) evds_nil)) ⟨cutW W ks, s, rfl, hW.cut hlk, hld, hwd, rfl⟩
    obtain ⟨i, hi⟩ := Option.isSome_iff_exists.mp (ixo_mem.mpr hxk)
    have hgi := ixo_some hi
    have ix : EvD K (tBM K "list" (rIndex K) (tVar 3) (tCons (tVar 1) tNil)) [some x0, some (.int (x : Int)), some x2, some v3] H3 (.int (i : Int)) := fun F H4 p4 e4 Q k => by
      obtain ⟨a, xs, rfl, hs, hxs⟩ := of_dp_lst (e4.dp hk)
      obtain rfl := dpa_inV hxs
      refine ⟨_, rfl, .inl ⟨rfl, _, ex_l del_le hs⟩, _, rfl, a, _, .int (x : Int), i, inV' x, rfl, rfl, ex_l del_le hs, rfl, ?_, by rw [List.getElem?_map, hgi]; rfl, by simp [eqV], fun m z' hm hz => ?_, k _ H4 (Ex.refl _) (.int _)⟩
      · rw [List.all_map, List.all_eq_true]; intro y _; rfl
      · rw [List.getElem?_map] at hz
        cases hq : ks[m]? with
        | none => rw [hq] at hz; cases hz
        | some y =>
          rw [hq] at hz
          cases hz
          have hne : y ≠ x := fun z => by
            subst z
            have := ixo_at hn hq
            rw [hi] at this
            cases this
            omega
          show (((y : Int)) == (x : Int)) = false
          exact beq_eq_false_iff_ne.mpr fun z => hne (Int.ofNat_inj.mp z)
    refine evd_ixL t ix ?_
    have ht := tru_cut hW hn s
    unfold tru at ht
    have e5 : ((List.range (cutW W ks).many).map (satW (cutW W ks) s)) = ks.map fun x => sat W.E W.L s ks x := ht
    rw [e5, List.getElem?_map, List.getElem?_map, hgi]
    show some (PyData.bool (sat W.E W.L s ks x)) = some (PyData.bool (satW W s x))
    rw [sat_part W.E W.L s ks (List.range W.many) (fun y hy => List.mem_range.mpr (hkl y hy)) (fun h p hp h1 _ => hcl h p hp h1) x hxk]
  exact rest F H2 (p1.mono b2) (e1.trans (del_ex b2)) D fun w H3 c hw => q w H3 (b2.trans c) hw
end
end Kx
/-! ## KS_Where -/
set_option Elab.async false
set_option linter.all false
set_option maxRecDepth 100000
set_option maxHeartbeats 2000000
/-! The law's own reading of a web. -/
namespace Kx
open PySem PySem.Spec PyProof.Rows L2 Evl
section
variable {X : Cx}
/-- tuple(xs): the new tuple has no dict of its own -/
theorem call_tuple_frz : CallR X (.type "tuple") (fun xs H Q => ∃ p ys, xs = [.ref p] ∧ SqL X.K H p ys ∧ ∀ l o, H l = none → o.dict = none → Q (.ref l) (upd H l (.frz o (.tup ys)))) := by
  intro pins s σ H xs us Q I r h
  obtain ⟨p, ys, rfl, hq, q⟩ := h
  obtain ⟨u, rfl, rx⟩ := vals1 r
  cases rx
  obtain ⟨its, r', pl, hz⟩ := I.list hq
  have hlen := r'.length
  refine call_tuple_list pl.isList (fun h' kp => ?_) (by simp only [List.size_toArray] <;> omega)
  have I1 : Inv X pins σ H { s with heap := h' } := I.kept (t' := s.toks) kp
  have I2 : Inv X pins σ (upd H h'.objs.size (.frz { cls := .type "tuple", data := .seq its.toArray } (.tup ys))) { s with heap := h'.push { cls := .type "tuple", data := .seq its.toArray } } :=
    I1.laid (t' := s.toks) (fun b o e => Heap.get?_push_of_some _ e) (Nat.le_refl _) (show ObjOk X.prog X.w _ _ _ (.frz _ (.tup ys)) from ⟨Heap.get?_push_size _ rfl, hz, its, r', IsTup.new _ _⟩)
  exact ⟨.ref h'.objs.size, _, I2, rfl, q _ _ (I1.hok.fresh (Nat.le_refl _)) rfl⟩
/-- dict(t) of a tuple of pairs (key, value) that has no dict of its own -/
theorem call_dict_tup (hcalm : X.calm = true) : CallR X (.type "dict") (fun xs H Q => ∃ (a : Addr) (o : Obj) (ps : List Addr) (kvs : List (Key × V)), xs = [.ref a] ∧ H a = some (.frz o (.tup (ps.map V.ref))) ∧ o.dict = none ∧ Paired (fun p kv => SqT X.K H p [kV kv.1, kv.2]) ps kvs ∧
    ∀ p, H p = none → Q (.ref p) (upd H p (.dK (mergeK [] kvs)))) := by
  intro pins s σ H xs us Q I r q
  obtain ⟨a, o, ps, kvs, ex, hq, hod, hp, q⟩ := q
  subst ex
  obtain ⟨u, eu, rx⟩ := vals1 r
  subst eu
  cases rx
  obtain ⟨ho, hz, its, rv, ⟨o', ho', hc, n, hdat⟩⟩ := I.hok a _ hq
  rw [ho] at ho'
  cases ho'
  have ei := refs_at rv
  subst ei
  rw [List.length_map] at hz
  obtain ⟨prs, rel, hl, hpr⟩ := pairs_of I hp
  have key : ∀ j, j < prs.length → ∃ k v, prs[j]? = some (k, v) ∧ ∃ (b : Addr) (u : Value), ps[j]? = some b ∧ IsTup s.heap b #[u, v] ∧ keyIs k u = true := fun j hj => by
    obtain ⟨b, u, h1, h2, h3⟩ := hpr j prs[j] (List.getElem?_eq_getElem hj)
    exact ⟨_, _, List.getElem?_eq_getElem hj, b, u, h1, h2, h3⟩
  -- the pairs as the heap has them
  obtain ⟨pv, hpv⟩ : ∃ pv : List (Value × Value), pv.length = prs.length ∧ ∀ j k v, prs[j]? = some (k, v) → ∃ (b : Addr) (u : Value), ps[j]? = some b ∧ IsTup s.heap b #[u, v] ∧ keyIs k u = true ∧ pv[j]? = some (u, v) := by
    have gen : ∀ (l : List (Key × Value)) (i : Nat), (∀ j, j < l.length → ∃ (b : Addr) (u : Value), ps[i + j]? = some b ∧ IsTup s.heap b #[u, (l[j]?.getD (.inl 0, .none)).2] ∧ keyIs (l[j]?.getD (.inl 0, .none)).1 u = true) →
        ∃ pv : List (Value × Value), pv.length = l.length ∧ ∀ j k v, l[j]? = some (k, v) → ∃ (b : Addr) (u : Value), ps[i + j]? = some b ∧ IsTup s.heap b #[u, v] ∧ keyIs k u = true ∧ pv[j]? = some (u, v) := by
      intro l
      induction l with
      | nil => intro i _; exact ⟨[], rfl, fun j k v h => by simp at h⟩
      | cons x l ih =>
        intro i h
        obtain ⟨pv, h1, h2⟩ := ih (i + 1) fun j hj => by
          have := h (j + 1) (by simp; omega)
          rw [show i + (j + 1) = i + 1 + j by omega] at this
          simpa using this
        obtain ⟨b, u, g1, g2, g3⟩ := h 0 (by simp)
        refine ⟨(u, x.2) :: pv, by rw [List.length_cons, List.length_cons, h1], fun j k v hj => ?_⟩
        cases j with
        | zero => cases hj; exact ⟨b, u, by simpa using g1, by simpa using g2, by simpa using g3, rfl⟩
        | succ j =>
          obtain ⟨b, u, k1, k2, k3, k4⟩ := h2 j k v (by simpa using hj)
          exact ⟨b, u, by rw [show i + (j + 1) = i + 1 + j by omega]; exact k1, k2, k3, by simpa using k4⟩
    obtain ⟨pv, h1, h2⟩ := gen prs 0 fun j hj => by
      obtain ⟨k, v, e, b, u, g1, g2, g3⟩ := key j hj
      exact ⟨b, u, by simpa using g1, by rw [e]; exact g2, by rw [e]; exact g3⟩
    exact ⟨pv, h1, fun j k v hj => by have := h2 j k v hj; rw [Nat.zero_add] at this; exact this⟩
  have hitems : PairItems s.heap (ps.map Value.ref).toArray (fun j => ps.getD j 0) pv := by
    refine ⟨by simp [hpv.1, hl], fun j k v hj => ?_⟩
    have hjl : j < prs.length := by rw [← hpv.1]; exact (List.getElem?_eq_some_iff.mp hj).1
    obtain ⟨k', v', e, _⟩ := key j hjl
    obtain ⟨b, u, g1, g2, _, g4⟩ := hpv.2 j k' v' e
    rw [hj] at g4
    cases g4
    have gb : ps.getD j 0 = b := by rw [List.getD_eq_getElem?_getD, g1]; rfl
    refine ⟨by simp [g1, gb], ?_⟩
    show PairAt s.heap (ps.getD j 0) k v
    rw [gb]
    obtain ⟨o2, a1, a2, n2, a3⟩ := g2
    exact .inl ⟨o2, a1, a2, n2, a3⟩
  have PA := PairArg.tuple (prog := X.prog) (w := X.w) a (ps.map Value.ref).toArray (fun j => ps.getD j 0) pv
  have hlen : (mergeK [] kvs).length ≤ sizeLine := by
    refine Nat.le_trans (length_mergeK kvs []) ?_
    rw [List.length_nil, Nat.zero_add, rel.length, hl]
    exact hz
  refine PySem.call_dict_pairs (knd := mixKind X.prog X.w) (kvs := prs) PA (I.ok.hd hcalm) ⟨⟨o, n, ho, hc, hod, hdat⟩, hitems⟩ ⟨hpv.1.symm, fun i k v hrel => ?_⟩ (by rw [hpv.1, hl]; exact hz) fun h' tk hd' k => ?_
  · have hil : i < prs.length := by rw [← hpv.1]; exact (List.getElem?_eq_some_iff.mp hrel).1
    obtain ⟨k', v', e, _⟩ := key i hil
    obtain ⟨b, u, _, _, g3, g4⟩ := hpv.2 i k' v' e
    rw [show pv[i]? = some (k, v) from hrel] at g4
    cases g4
    exact ⟨k', e, g3⟩
  · have hm : (s.heap.objs.size == sysModules) = false := beq_eq_false_iff_ne.mpr (Nat.ne_of_gt I.big)
    exact ⟨.ref s.heap.objs.size, upd H s.heap.objs.size (.dK (mergeK [] kvs)), I.laid (t' := tk) (fun b o e => k b o (by simp) e) (Nat.le_refl _) (show ObjOk X.prog X.w _ _ _ (.dK (mergeK [] kvs)) from ⟨hlen, hm, merged [] prs, KV.merge rel .nil, hd'⟩), rfl, q _ (I.hok.fresh (Nat.le_refl _))⟩
end

section
variable {K : Fg} {σ : L2.St} {H H' : Hp} {ta tb te tk td : TE} {P P1 P2 : Hp → V → Prop}
/-- a web whose parts have no dicts of their own -/
def WbF (K : Fg) (H : Hp) (v : V) (W : Web) : Prop := ∃ a t1 t2 o1 o2 xs1 xs2, v = .ref a ∧ SqT K H a [inV' W.many, .ref t1, .ref t2] ∧ H t1 = some (.frz o1 (.tup xs1)) ∧ o1.dict = none ∧ DpAll K H xs1 (W.steps.map stD) ∧
  H t2 = some (.frz o2 (.tup xs2)) ∧ o2.dict = none ∧ DpAll K H xs2 (W.letters.map ltD)
theorem WbF.mono {W : Web} : Mon fun H v => WbF K H v W := fun H H' v e h => by
  obtain ⟨a, t1, t2, o1, o2, xs1, xs2, h1, h2, h3, h4, h5, h6, h7, h8⟩ := h
  exact ⟨a, t1, t2, o1, o2, xs1, xs2, h1, ex_t e h2, e _ _ h3, h4, e.dps h5, e _ _ h6, h7, e.dps h8⟩
theorem WbF.dp {W : Web} {v : V} (h : WbF K H v W) : Dp K H v (encW W) := by
  obtain ⟨a, t1, t2, o1, o2, xs1, xs2, rfl, h2, h3, h4, h5, h6, h7, h8⟩ := h
  exact .tup h2 (.cons (.int _) (.cons (.tup (.inl (.inr ⟨o1, h3⟩)) h5) (.cons (.tup (.inl (.inr ⟨o2, h6⟩)) h8) .nil)))
/-- a dict from one-sign texts to data -/
def DctF (K : Fg) (l : List (Nat × PyData)) (H : Hp) (v : V) : Prop := ∃ d kvs, v = .ref d ∧ H d = some (.dK kvs) ∧ Fa (fun (s : Nat × PyData) (kv : Key × V) => kv.1 = .inr (sg s.1) ∧ Dp K H kv.2 s.2) l kvs
theorem DctF.mono {l : List (Nat × PyData)} : Mon (DctF K l) := fun H H' v e ⟨d, kvs, h1, h2, h3⟩ => ⟨d, kvs, h1, e _ _ h2, h3.imp fun s kv q => ⟨q.1, e.dp q.2⟩⟩
theorem dct_get {c : Nat} {d0 : PyData} : ∀ {l : List (Nat × PyData)} {kvs : List (Key × V)}, Fa (fun (s : Nat × PyData) (kv : Key × V) => kv.1 = .inr (sg s.1) ∧ Dp K H kv.2 s.2) l kvs →
    (valV kvs (.inr (sg c)) = none ∧ asc d0 l c = d0) ∨ ∃ x, valV kvs (.inr (sg c)) = some x ∧ Dp K H x (asc d0 l c)
  | [], _, .nil => .inl ⟨rfl, rfl⟩
  | (h, d) :: l, _, .cons (b := kv) q t => by
    by_cases e : h = c
    · subst e
      exact .inr ⟨kv.2, valV_pos q.1, by rw [asc, if_pos rfl]; exact q.2⟩
    · rw [valV_neg (by rw [q.1]; intro z; injection z with z; exact e (sg_inj z)), asc, if_neg e]
      exact dct_get t
abbrev pdD (s : Nat × PyData) : PyData := .tuple [.str (sg s.1), s.2]
theorem pairs_dp : ∀ (l : List (Nat × PyData)) (xs : List V), DpAll K H xs (l.map pdD) → ∃ (ps : List Addr) (kvs : List (Key × V)), xs = ps.map V.ref ∧ Paired (fun p kv => SqT K H p [kV kv.1, kv.2]) ps kvs ∧ Fa (fun (s : Nat × PyData) (kv : Key × V) => kv.1 = .inr (sg s.1) ∧ Dp K H kv.2 s.2) l kvs
  | [], _, h => by cases h; exact ⟨[], [], rfl, .nil, .nil⟩
  | s :: l, _, h => by
    cases h with
    | cons q a =>
      obtain ⟨ps, kvs, rfl, h1, h2⟩ := pairs_dp l _ a
      obtain ⟨p, ys, rfl, hs, hys⟩ := of_dp_tup q
      obtain ⟨y1, y2, rfl, hy1, hy2⟩ := of_two hys
      obtain rfl := of_dp_str hy1
      exact ⟨p :: ps, (.inr (sg s.1), y2) :: kvs, rfl, .cons hs h1, .cons ⟨rfl, hy2⟩ h2⟩
theorem paired_ex (e : Ex H H') : ∀ {ps : List Addr} {kvs : List (Key × V)}, Paired (fun p kv => SqT K H p [kV kv.1, kv.2]) ps kvs → Paired (fun p kv => SqT K H' p [kV kv.1, kv.2]) ps kvs
  | _, _, .nil => .nil
  | _, _, .cons q t => .cons (ex_t e q) (paired_ex e t)
theorem fa_keys : ∀ {l : List (Nat × PyData)} {kvs : List (Key × V)}, Fa (fun (s : Nat × PyData) (kv : Key × V) => kv.1 = .inr (sg s.1) ∧ Dp K H kv.2 s.2) l kvs → kvs.map (·.1) = l.map fun s => (Sum.inr (sg s.1) : Key)
  | _, _, .nil => rfl
  | _, _, .cons q t => by rw [List.map_cons, List.map_cons, q.1, fa_keys t]
theorem merge_new : ∀ (kvs acc : List (Key × V)), ((acc ++ kvs).map (·.1)).Nodup → mergeK acc kvs = acc ++ kvs
  | [], acc, _ => by rw [List.append_nil]; rfl
  | kv :: kvs, acc, h => by
    have hn : valV acc kv.1 = none := by
      have : kv.1 ∉ acc.map (·.1) := fun z => by
        rw [List.map_append, List.map_cons, List.nodup_append] at h
        exact h.2.2 _ z _ List.mem_cons_self rfl
      clear h
      induction acc with
      | nil => rfl
      | cons a r ih =>
        rw [List.map_cons, List.mem_cons, not_or] at this
        rw [valV_neg (Ne.symm this.1)]
        exact ih this.2
    show mergeK (putK acc kv.1 kv.2) kvs = _
    rw [putK_new _ hn, merge_new kvs (acc ++ [(kv.1, kv.2)]) (by rw [List.append_assoc]; exact h), List.append_assoc]; rfl
/-- dict(t) -/
theorem evp_dict {l : List (Nat × PyData)} (hn : (l.map (·.1)).Nodup) (h : EvP te σ H fun H v => ∃ t o xs, v = .ref t ∧ H t = some (.frz o (.tup xs)) ∧ o.dict = none ∧ DpAll K H xs (l.map pdD)) :
    EvP (tCB (fun xs H Q => ∃ (a : Addr) (o : Obj) (ps : List Addr) (kvs : List (Key × V)), xs = [.ref a] ∧ H a = some (.frz o (.tup (ps.map V.ref))) ∧ o.dict = none ∧ Paired (fun p kv => SqT K H p [kV kv.1, kv.2]) ps kvs ∧ ∀ p, H p = none → Q (.ref p) (upd H p (.dK (mergeK [] kvs)))) (tCons te tNil)) σ H (DctF K l) := fun F H1 p e Q k =>
  h F H1 p e _ fun v H2 b ⟨t, o, xs, h1, h2, h3, h4⟩ => by
    obtain ⟨ps, kvs, rfl, g1, g2⟩ := pairs_dp l xs h4
    have g1' : Paired (fun p kv => SqT K H2 p [kV kv.1, kv.2]) ps kvs := paired_ex del_le g1
    refine ⟨t, o, ps, kvs, by rw [h1], del_le _ _ h2, h3, g1', fun q hq => k _ _ (b.trans (Ex.new hq)) ⟨q, kvs, rfl, ?_, g2.imp fun s kv z => ⟨z.1, (del_ex (Ex.new hq)).dp z.2⟩⟩⟩
    have hk : (([] ++ kvs : List (Key × V)).map (·.1)).Nodup := by
      rw [List.nil_append]
      have e1 := fa_keys g2
      rw [e1, show (l.map fun s => (Sum.inr (sg s.1) : Key)) = (l.map (·.1)).map fun c => (Sum.inr (sg c) : Key) by rw [List.map_map]; rfl]
      exact List.pairwise_map.mpr (hn.imp fun hne z => hne (by injection z with z; exact sg_inj z))
    rw [merge_new kvs [] hk]
    exact del_at ((p.mono b).no hq) upd_same
theorem evd_dctget {l : List (Nat × PyData)} {c : Nat} {ds : List PyData} (h : EvP td σ H (DctF K l)) (hk : EvD K tk σ H (.str (sg c))) (e : asc (.tuple []) l c = .tuple ds) : EvD K (tDGet2 td tk (tTup tNil)) σ H (.tuple ds) :=
  e ▸ evd_of (evp_dget2 (key := .inr (sg c)) (G := asc (.tuple []) l c = .tuple []) (Pd := fun H v => Dp K H v (.tuple [])) h DctF.mono (fun H v ⟨d, kvs, q1, q2, q3⟩ => ⟨d, kvs, q1, .inl q2, dct_get q3⟩) (evp_imp (evp_of hk) fun H v q => of_dp_str q) (evp_of (evd_tup evds_nil)) (fun g H v q => by rw [g]; exact q))
theorem asc_map {α : Type} (f : α → PyData) (d : α) (c : Nat) : ∀ l : List (Nat × α), asc (f d) (l.map fun s => (s.1, f s.2)) c = f (asc d l c)
  | [] => rfl
  | (h, a) :: r => by
    rw [List.map_cons, asc, asc]
    by_cases e : h = c
    · rw [if_pos e, if_pos e]
    · rw [if_neg e, if_neg e]; exact asc_map f d c r
theorem rp_pairP {i j : Nat} {tz : TS} (h1 : EvP ta σ H P1) (m1 : Mon P1) (h2 : EvP tb σ H P2) (k : ∀ v1 v2 H', Ex H H' → P1 H' v1 → P2 H' v2 → RetP tz ((σ.set i (some v1)).set j (some v2)) H' P) (m2 : Mon P2) :
    RetP (tSeq (tAsg (tTup (tCons ta (tCons tb tNil))) (gTup K 2 (gCons (gName i) (gCons (gName j) gNil)))) tz) σ H P := fun F H1 p e D q =>
  h1 F H1 p e _ fun v1 H2 b2 hv1 => h2 F H2 (p.mono b2) (e.trans (del_ex b2)) _ fun v2 H3 b3 hv2 => ⟨by show 2 ≤ sizeLine; decide, fun t ht => by
    have b4 : Ex H3 (upd H3 t (.tup [v1, v2])) := Ex.new ht
    refine ⟨t, _, rfl, st_of upd_same, rfl, _, _, rfl, _, _, rfl, rfl, ?_⟩
    exact k v1 v2 _ (e.trans (del_ex (b2.trans (b3.trans b4)))) (m1 _ _ _ (del_ex (b3.trans b4)) hv1) (m2 _ _ _ (del_ex b4) hv2) F _ ((p.mono (b2.trans b3)).mono b4) (Ex.refl _) D fun w H5 c hw => q w H5 (b2.trans (b3.trans (b4.trans c))) hw⟩
/-- a call whose first argument is a name -/
theorem evp_callV {i : Nat} {v : V} {R : Hp → List V → (Hp → V → Prop) → Prop} {E : XK} {tr : TA} {ds : List PyData} (hv : σ[i]? = some (some v)) (h : EvDs K tr σ H ds) (hr : ∀ H' vs, Ex H H' → DpAll K H' vs ds → R H' (v :: vs) P) : EvP (tCall (spV R) [] E (tCons (tVar i) tr)) σ H P := fun F H1 p a Q k =>
  ⟨v, hv, h F H1 p a _ fun vs H2 b hvs => ⟨F, P, p.mono b, by rw [List.append_nil]; exact hr _ _ (a.trans (del_ex b)) hvs, fun w H3 c hw => k w H3 (b.trans c) hw⟩⟩
end
section
variable {P : Program} {w : World} {K : Fg} {mg : Str → Option Value} {base : Heap}
abbrev R_ends (ds : List PyData) (d : PyData) : Prop := ∃ (ps : List (Nat × Nat)) (x : Nat) (ks js : List Nat), ds = [.tuple (ps.map prD), inD x, .list (ks.map inD), .list (js.map inD)] ∧ ps.length ≤ 10000 ∧ d = .list (((ps.filter fun p : Nat × Nat => decide (p.1 = x) && decide (p.2 ∈ ks)).map fun p => decide (p.2 ∈ js)).map PyData.bool)
theorem int_eq (a b : Nat) : decide ((a : Int) = (b : Int)) = decide (a = b) := decide_eq_decide.mpr Int.ofNat_inj
theorem evd_inN {σ : L2.St} {H : Hp} {ta tb : TE} {neg : Bool} {x : Nat} {ks : List Nat} (h : EvD K ta σ H (inD x)) (h2 : EvD K tb σ H (.list (ks.map inD))) : EvD K (tOp (rIn K neg) ta tb) σ H (.bool (if neg then !decide (x ∈ ks) else decide (x ∈ ks))) :=
  evd_is (evd_inI (neg := neg) (ss := ks.map fun y : Nat => (y : Int)) h h2 (by rw [← inDs]; rfl)) (by rw [ints_mem])
theorem evd_inNT {σ : L2.St} {H : Hp} {ta tb : TE} {neg : Bool} {x : Nat} {ks : List Nat} (h : EvD K ta σ H (inD x)) (h2 : EvD K tb σ H (.tuple (ks.map inD))) : EvD K (tOp (rIn K neg) ta tb) σ H (.bool (if neg then !decide (x ∈ ks) else decide (x ∈ ks))) :=
  evd_is (evd_inI (neg := neg) (ss := ks.map fun y : Nat => (y : Int)) h h2 (by rw [← inDs]; rfl)) (by rw [ints_mem])
theorem law_ends_ok (D : Dfn K mg "_law_ends" s_law_ends) : Cal P w K mg base 1 "_law_ends" (spR K R_ends) := by
  refine cal_of D sc_law_ends (fun _ _ _ _ _ _ us hl => match us, hl with | [_, _, _, _], _ => rfl) (spR_len fun ds d h => by obtain ⟨_, _, _, _, rfl, _⟩ := h; rfl) fun fa cdv A outer s H vs Q E hr h => ?_
  refine ⟨_, (pss_one (ps_ret (pe_lc (own := [("_law_pair", 4)]) (g := gName 4) rfl sc_law_ends.nd (pi_tup (pv 0)) (blkOk_by (N := n_law_ends) (sc := defScope s_law_ends) (own := [("_law_pair", 4)]) (by decide +kernel)) (fun _ _ _ _ _ => (pg_name (i := 4) sc_law_ends.nd rfl (Or.inl rfl))) (fun _ _ _ _ _ => (pts_one (PW.pt (pw_and (pt_cmpR op_eq (pe_ix (show IxR _ (rIxT K) from ix_tup) (pv 4) pe_int (fun _ _ => rfl)) (pv 1) (nomark _)) (pw_and1 (pt_cmpR (show OpR _ _ (rIn K false) from op_in_seq) (pe_ix (show IxR _ (rIxT K) from ix_tup) (pv 4) pe_int (fun _ _ => rfl)) (pv 2) (by rfl))))))) (fun _ _ _ _ _ => (pe_cmpR (show OpR _ _ (rIn K false) from op_in_seq) (pe_ix (show IxR _ (rIxT K) from ix_tup) (pv 4) pe_int (fun _ _ => rfl)) (pv 3) (by rfl)))))), ?_⟩
  refine ret_of h fun ds d H hd hR => ?_
  obtain ⟨ps, x, ks, js, rfl, hl, rfl⟩ := hR
  obtain ⟨x0, x1, x2, x3, rfl, h0, h1, h2, h3⟩ := of_four hd
  rw [List.map_map]
  refine rd_ret (evd_lc1 (as := ps) (en := prD) (fun p => decide (p.1 = x) && decide (p.2 ∈ ks)) (fun p => .bool (decide (p.2 ∈ js))) (ei_tup (evd_var rfl h0)) (by omega) (fun _ => rfl) fun p hp y H1 e hy => ⟨?_, fun _ => ?_⟩)
  · exact eb_and (eb_is (et_d (evd_eqI (evd_ixT (i := 0) (evd_var rfl hy) evd_int rfl) (evd_var rfl (e.dp h1)))) (int_eq _ _)) fun _ => et_d (evd_inN (neg := false) (evd_ixT (i := 1) (evd_var rfl hy) evd_int rfl) (evd_var rfl (e.dp h2)))
  · exact evd_inN (neg := false) (evd_ixT (i := 1) (evd_var rfl hy) evd_int rfl) (evd_var rfl (e.dp h3))
end
end Kx
/-! ## KT_Where -/
set_option Elab.async false
set_option linter.all false
set_option maxRecDepth 100000
set_option maxHeartbeats 2000000
namespace Kx
open PySem PySem.Spec PyProof.Rows L2 Evl
def asgScope (d : Scope) : Stmt → Scope
  | .Assign _ (.ListComp _ _ sc _) _ => sc
  | _ => d
def ifBody : Stmt → List Stmt
  | .If _ b _ _ => b
  | _ => []
def freeCell (s : Scope) : Scope := { s with names := s.names.map fun y => if y.2 == .free then (y.1, .cell) else y }
abbrev scn_law_where : Scope := freeCell <| asgScope (defScope s_law_where) ((ifBody ((defBody s_law_where).getD 3 (.Pass ⟨0, 0, 0, 0⟩))).getD 1 (.Pass ⟨0, 0, 0, 0⟩))
def tIfB (t ta tb : TT) : TT := fun σ H Q => t σ H fun k H1 => if k = true then ta σ H1 Q else tb σ H1 Q
theorem pt_if {X : Cx} {c a b : Expr} {tc ta tb : TT} {pos : Pos} (hc : PT X c tc) (ha : PT X a ta) (hb : PT X b tb) : PT X (.IfExp c a b pos) (tIfB tc ta tb) := by
  refine ⟨fun pins s σ H Q I h => ?_⟩
  refine isTrue_IfExp (thn (hc.run pins s σ H _ I h) fun k s1 ⟨H1, I1, q1⟩ => ?_)
  cases k with
  | true => exact ha.run pins s1 σ H1 Q I1 q1
  | false => exact hb.run pins s1 σ H1 Q I1 q1
theorem eb_if {σ : L2.St} {H : Hp} {t ta tb : TT} {b c : Bool} (h : EvB t σ H b) (h1 : b = true → EvB ta σ H c) (h2 : b = false → EvB tb σ H c) : EvB (tIfB t ta tb) σ H c := fun F H1 p a Q k => h F H1 p a _ fun H2 q => by
  cases b with
  | true => exact h1 rfl F H2 (p.mono q) (a.trans (del_ex q)) Q fun H3 r => k H3 (q.trans r)
  | false => exact h2 rfl F H2 (p.mono q) (a.trans (del_ex q)) Q fun H3 r => k H3 (q.trans r)
theorem mem_flt {ks : List Nat} {f : Nat → Bool} {x : Nat} (h : x ∈ ks) : decide (x ∈ ks.filter f) = f x := by
  rw [Bool.eq_iff_iff]
  simp [List.mem_filter, h]
theorem md_all {E : Nat → List (Nat × Nat)} {L : Nat → List Nat} {b : Bool} {h : Nat} {s : Sy} {ks : List Nat} {x : Nat} :
    sat E L (.md b h s) ks x = if b then ((((E h).filter fun p => decide (p.1 = x) && decide (p.2 ∈ ks)).map fun p => decide (p.2 ∈ ks.filter fun y => sat E L s ks y)).all id) else ((((E h).filter fun p => decide (p.1 = x) && decide (p.2 ∈ ks)).map fun p => decide (p.2 ∈ ks.filter fun y => sat E L s ks y)).any id) := by
  cases b
  · rw [sat, if_neg (by decide), List.any_map, List.any_filter]
    congr 1
    funext p
    by_cases h2 : p.2 ∈ ks
    · simp only [Function.comp_apply, id_eq, mem_flt h2]
    · simp [h2]
  · rw [sat, if_pos rfl, List.all_map, List.all_filter]
    congr 1
    funext p
    by_cases h2 : p.2 ∈ ks
    · simp only [Function.comp_apply, id_eq, mem_flt h2]
    · simp [h2]
section
variable {P : Program} {w : World} {K : Fg} {mg : Str → Option Value} {base : Heap}
theorem where_last {σ : L2.St} {H : Hp} {m : Nat} {w0 hw : Str} {b : Bool} {ks : List Nat} {ms : Nat → List Bool} {x1 x2 v : V} {tl : List PyData} (sl : σ.length = 14) (hm : m < 12) (s1 : σ[1]? = some (some x1)) (h1 : Dp K H x1 (.list (ks.map inD))) (s2 : σ[2]? = some (some x2)) (h2 : Dp K H x2 (.tuple (.str hw :: tl)))
    (hb : decide (hw = w0) = b) (s3 : σ[m]? = some (some v)) (h3 : Dp K H v (.list (ks.map fun x => .list ((ms x).map PyData.bool)))) (hl : ks.length ≤ 100) :
    EvD K (tLc (iRng1 (tCons (tCB (rLenOf K) (tCons (tVar 1) tNil)) tNil)) (gName 12) (tIfB (tTest (tOp rEq (tOp (rIxT K) (tVar 2) (tC (.int 0))) (tC (.str w0)))) (tTest (tOp (rIn K true) (tC (.bl false)) (tOp (rIxL K) (tVar m) (tVar 12)))) (tTest (tOp (rIn K false) (tC (.bl true)) (tOp (rIxL K) (tVar m) (tVar 12))))) (tOp (rIxL K) (tVar 1) (tVar 12)) [12]) σ H
      (.list ((ks.filter fun x => if b then (ms x).all id else (ms x).any id).map inD)) := by
  have hi : EvI K (iRng1 (tCons (tCB (rLenOf K) (tCons (tVar 1) tNil)) tNil)) σ H ((List.range ks.length).map inD) := by
    rw [← rng_map]
    exact ei_rng (n := ks.length) (evd_is (evd_len (evd_var s1 h1) (show seqD _ = some _ from rfl)) (by rw [List.length_map])) (by omega)
  have lc := evd_lc1 (K := K) (σ := σ) (H := H) (vs := [12]) (j := 12) (as := List.range ks.length) (en := inD) (tt := tIfB (tTest (tOp rEq (tOp (rIxT K) (tVar 2) (tC (.int 0))) (tC (.str w0)))) (tTest (tOp (rIn K true) (tC (.bl false)) (tOp (rIxL K) (tVar m) (tVar 12)))) (tTest (tOp (rIn K false) (tC (.bl true)) (tOp (rIxL K) (tVar m) (tVar 12))))) (te := tOp (rIxL K) (tVar 1) (tVar 12))
    (fun i => if b then (ms (ks.getD i 0)).all id else (ms (ks.getD i 0)).any id) (fun i => inD (ks.getD i 0)) hi (by rw [List.length_range]; omega) (fun y => by simp [wipe]) fun i hi y H1 e hy => by
      obtain rfl := of_dp_int hy
      have hi := List.mem_range.mp hi
      have hg : ks[i]? = some (ks.getD i 0) := by rw [List.getElem?_eq_getElem hi, List.getD_eq_getElem?_getD, List.getElem?_eq_getElem hi]; rfl
      have u1 : ((wipe σ [12]).set 12 (some (V.int (i : Int))))[1]? = some (some x1) := by simp [wipe, s1]
      have u2 : ((wipe σ [12]).set 12 (some (V.int (i : Int))))[2]? = some (some x2) := by simp [wipe, s2]
      have um : ((wipe σ [12]).set 12 (some (V.int (i : Int))))[m]? = some (some v) := by
        rw [List.getElem?_set_ne (by omega)]
        show ((wipe σ []).set 12 none)[m]? = _
        rw [List.getElem?_set_ne (by omega)]
        exact s3
      have u12 : ((wipe σ [12]).set 12 (some (V.int (i : Int))))[12]? = some (some (.int (i : Int))) := by simp [wipe, sl]
      have hrow : EvD K (tOp (rIxL K) (tVar m) (tVar 12)) ((wipe σ [12]).set 12 (some (V.int (i : Int)))) H1 (.list ((ms (ks.getD i 0)).map PyData.bool)) := evd_ixL (i := i) (evd_var um (e.dp h3)) (evd_var u12 (.int _)) (by rw [List.getElem?_map, hg]; rfl)
      refine ⟨(eb_if (eqT (K := K) (evd_ixT (i := 0) (evd_var u2 (e.dp h2)) evd_int rfl) evd_str hb) (fun q => ?_) fun q => ?_), fun _ => evd_ixL (i := i) (evd_var u1 (e.dp h1)) (evd_var u12 (.int _)) (by rw [List.getElem?_map, hg]; rfl)⟩
      · rw [if_pos q]
        refine eb_is (et_d (evd_inB (neg := true) (ss := ms (ks.getD i 0)) evd_bl hrow rfl)) ?_
        rw [if_pos rfl]
        rw [Bool.eq_iff_iff]
        simp only [Bool.not_eq_true', decide_eq_false_iff_not, List.all_eq_true, id_eq]
        exact ⟨fun h z hz => by cases z; exact absurd hz h; rfl, fun h hz => by have := h false hz; cases this⟩
      · rw [if_neg (by rw [q]; decide)]
        refine eb_is (et_d (evd_inB (neg := false) (ss := ms (ks.getD i 0)) evd_bl hrow rfl)) ?_
        rw [if_neg (by decide)]
        rw [Bool.eq_iff_iff]
        simp only [decide_eq_true_eq, List.any_eq_true, id_eq]
        exact ⟨fun h => ⟨true, h, rfl⟩, fun ⟨z, hz, e⟩ => by rw [← e]; exact hz⟩
  refine evd_is lc ?_
  congr 1
  have e1 : ks.filter (fun x => if b then (ms x).all id else (ms x).any id) = ((List.range ks.length).filter fun i => if b then (ms (ks.getD i 0)).all id else (ms (ks.getD i 0)).any id).map fun i => ks.getD i 0 := by
    have := List.filter_map (f := fun i => ks.getD i 0) (p := fun x => if b then (ms x).all id else (ms x).any id) (l := List.range ks.length)
    rw [range_get] at this
    exact this
  rw [e1, List.map_map]; rfl
abbrev R_lw (K : Fg) (n : Nat) (H : Hp) (vs : List V) (P : Hp → V → Prop) : Prop := ∃ (v : V) (W : Web) (x1 x2 : V) (ks : List Nat) (s : Sy), vs = [v, x1, x2] ∧ WbF K H v W ∧ Dp K H x1 (.list (ks.map inD)) ∧ Dp K H x2 (enc s) ∧ WOk W ∧ ks.length ≤ 100 ∧ fit n s = true ∧
  P = fun H u => Dp K H u (.list ((ks.filter fun x => sat W.E W.L s ks x).map inD))
theorem law_where_ok (T : Tx K w mg) (D : Dfn K mg "_law_where" s_law_where) (c_law_ends : Cal P w K mg base 1 "_law_ends" (spR K R_ends)) : ∀ n, Cal P w K mg base (n + 2) "_law_where" (spV (R_lw K n))
  | 0 => cal_no (N := n_law_where) (ps := p_law_where) D (fun _ _ _ _ _ _ us hl => match us, hl with | [_, _, _], _ => rfl) fun vs H Q E h => by
    obtain ⟨_, _, _, ⟨_, _, _, _, _, s, _, _, _, _, _, _, hf, _⟩, _⟩ := h
    exact fit_zero hf
  | n + 1 => by
    have c_law_where := law_where_ok T D c_law_ends n
    refine cal_of (k := n + 2) D sc_law_where (fun _ _ _ _ _ _ us hl => match us, hl with | [_, _, _], _ => rfl) (spV_len fun H vs P h => by obtain ⟨_, _, _, _, _, _, rfl, _⟩ := h; rfl) fun fa cdv A outer s H vs Q E hr h => ?_
    refine ⟨_, (pss_cons (ps_asg (pe_tup (pa_cons (pe_callTy (call_dict_tup rfl) rfl T.dict_ (by decide +kernel) (pa_cons (pe_ix (show IxR _ (rIxT K) from ix_tup) (pv 0) pe_int (fun _ _ => rfl)) pa_nil)) (pa_cons (pe_callTy (call_dict_tup rfl) rfl T.dict_ (by decide +kernel) (pa_cons (pe_ix (show IxR _ (rIxT K) from ix_tup) (pv 0) pe_int (fun _ _ => rfl)) pa_nil)) pa_nil))) (pg_tup rfl (pgs_cons (pg_name (i := 3) sc_law_where.nd rfl (Or.inl rfl)) (pgs_cons (pg_name (i := 4) sc_law_where.nd rfl (Or.inr rfl)) pgs_nil))))
        (pss_cons (ps_if (pt_cmpR op_eq (pe_ix (show IxR _ (rIxT K) from ix_tup) (pv 2) pe_int (fun _ _ => rfl)) pe_str (nomark _)) (pss_one (ps_ret (pe_lc (own := [("_law_k", 12)]) (g := gName 12) rfl sc_law_where.nd (show PI _ _ _ (iList K _) from pi_list (pv 1)) (blkOk_by (N := n_law_where) (sc := defScope s_law_where) (own := [("_law_k", 12)]) (by decide +kernel)) (fun _ _ _ _ _ => (pg_name (i := 12) sc_law_where.nd rfl (Or.inl rfl))) (fun _ _ _ _ _ => (pts_one (pt_cmpR (show OpR _ _ (rIn K false) from op_in_seq) (pv 12) (pe_dget2 (hu_of hr) (pv 4) (pe_ix (show IxR _ (rIxT K) from ix_tup) (pv 2) pe_int (fun _ _ => rfl)) (pe_tup pa_nil) ⟨rfl, rfl, rfl, rfl⟩) (by rfl)))) (fun _ _ _ _ _ => (pv 12))))) pss_nil)
        (pss_cons (ps_if (pt_cmpR op_eq (pe_ix (show IxR _ (rIxT K) from ix_tup) (pv 2) pe_int (fun _ _ => rfl)) pe_str (nomark _)) (pss_cons (ps_set (i := 5) sc_law_where.nd rfl (Or.inr rfl) (pc_ c_law_where hr (by omega) (pa_cons (pv 0) (pa_cons (pv 1) (pa_cons (pe_ix (show IxR _ (rIxT K) from ix_tup) (pv 2) pe_int (fun _ _ => rfl)) pa_nil)))))
        (pss_one (ps_ret (pe_lc (own := [("_law_k", 12)]) (g := gName 12) rfl sc_law_where.nd (show PI _ _ _ (iList K _) from pi_list (pv 1)) (blkOk_by (N := n_law_where) (sc := defScope s_law_where) (own := [("_law_k", 12)]) (by decide +kernel)) (fun _ _ _ _ _ => (pg_name (i := 12) sc_law_where.nd rfl (Or.inl rfl))) (fun _ _ _ _ _ => (pts_one (pt_cmpR (show OpR _ _ (rIn K true) from op_notIn_seq) (pv 12) (pv 5) (by rfl)))) (fun _ _ _ _ _ => (pv 12)))))) pss_nil)
        (pss_cons (ps_if (pt_cmpR (show OpR _ _ (rIn K false) from op_in_seq) (pe_ix (show IxR _ (rIxT K) from ix_tup) (pv 2) pe_int (fun _ _ => rfl)) (pe_tup (pa_cons pe_str (pa_cons pe_str pa_nil))) (by rfl)) (pss_cons (ps_set (i := 6) sc_law_where.nd rfl (Or.inr rfl) (pe_lc (own := [("_law_one", 13)]) (g := gName 13) (tt := tYes) rfl sc_law_where.nd (show PI _ _ _ (iTup K _) from pi_tup (pe_ix (show IxR _ (rIxT K) from ix_tup) (pv 2) pe_int (fun _ _ => rfl))) (blkOk_by (N := n_law_where) (sc := defScope s_law_where) (own := [("_law_one", 13)]) (by decide +kernel)) (fun _ _ _ _ _ => (pg_name (i := 13) sc_law_where.nd rfl (Or.inl rfl))) (fun _ _ _ _ _ => pts_nil) (fun _ _ _ _ _ => (pc_ c_law_where hr (by omega) (pa_cons (pv 0) (pa_cons (pv 1) (pa_cons (pv 13) pa_nil)))))))
        (pss_cons (ps_set (i := 7) sc_law_where.nd rfl (Or.inr rfl) (pe_lc (own := [("_law_k", 12)]) (g := gName 12) (tt := tYes) rfl sc_law_where.nd (show PI _ _ _ (iList K _) from pi_list (pv 1)) (blkOk_by (N := n_law_where) (sc := defScope s_law_where) (own := [("_law_k", 12)]) (by decide +kernel)) (fun _ _ _ _ _ => (pg_name (i := 12) sc_law_where.nd rfl (Or.inr rfl))) (fun _ _ _ _ _ => pts_nil) (fun _ _ _ _ _ => (pe_lc (own := [("_law_one", 13)]) (g := gName 13) (tt := tYes) rfl sc_law_where.nd (show PI _ _ _ (iList K _) from pi_list (pv 6)) (blkOk_by (N := n_law_where) (sc := scn_law_where) (own := [("_law_one", 13)]) (by decide +kernel)) (fun _ _ _ _ _ => (pg_name (i := 13) sc_law_where.nd rfl (Or.inl rfl))) (fun _ _ _ _ _ => pts_nil) (fun _ _ _ _ _ => (pe_cmpR (show OpR _ _ (rIn K false) from op_in_seq) (pv 12) (pv 13) (by rfl)))))))
        (pss_one (ps_ret (pe_lc (own := [("_law_k", 12)]) (g := gName 12) rfl sc_law_where.nd (pi_range1 rfl T.range_ (pa_cons (pe_callB call_len_seq rfl T.len_ PySem.boot_len (pa_cons (pv 1) pa_nil)) pa_nil)) (blkOk_by (N := n_law_where) (sc := defScope s_law_where) (own := [("_law_k", 12)]) (by decide +kernel)) (fun _ _ _ _ _ => (pg_name (i := 12) sc_law_where.nd rfl (Or.inl rfl))) (fun _ _ _ _ _ => (pts_one (pt_if (pt_cmpR op_eq (pe_ix (show IxR _ (rIxT K) from ix_tup) (pv 2) pe_int (fun _ _ => rfl)) pe_str (nomark _)) (pt_cmpR (show OpR _ _ (rIn K true) from op_notIn_seq) pe_bl (pe_ix (show IxR _ (rIxL K) from ix_list) (pv 7) (pv 12) (fun _ _ => rfl)) (by rfl)) (pt_cmpR (show OpR _ _ (rIn K false) from op_in_seq) pe_bl (pe_ix (show IxR _ (rIxL K) from ix_list) (pv 7) (pv 12) (fun _ _ => rfl)) (by rfl))))) (fun _ _ _ _ _ => (pe_ix (show IxR _ (rIxL K) from ix_list) (pv 1) (pv 12) (fun _ _ => rfl)))))))) pss_nil)
        (pss_cons (ps_if (pt_cmpR (show OpR _ _ (rIn K false) from op_in_seq) (pe_ix (show IxR _ (rIxT K) from ix_tup) (pv 2) pe_int (fun _ _ => rfl)) (pe_tup (pa_cons pe_str (pa_cons pe_str pa_nil))) (by rfl)) (pss_cons (ps_asg (pe_tup (pa_cons (pc_ c_law_where hr (by omega) (pa_cons (pv 0) (pa_cons (pv 1) (pa_cons (pe_ix (show IxR _ (rIxT K) from ix_tup) (pv 2) pe_int (fun _ _ => rfl)) pa_nil)))) (pa_cons (pe_dget2 (hu_of hr) (pv 3) (pe_ix (show IxR _ (rIxT K) from ix_tup) (pv 2) pe_int (fun _ _ => rfl)) (pe_tup pa_nil) ⟨rfl, rfl, rfl, rfl⟩) pa_nil))) (pg_tup rfl (pgs_cons (pg_name (i := 5) sc_law_where.nd rfl (Or.inr rfl)) (pgs_cons (pg_name (i := 8) sc_law_where.nd rfl (Or.inr rfl)) pgs_nil))))
        (pss_cons (ps_set (i := 9) sc_law_where.nd rfl (Or.inr rfl) (pe_lc (own := [("_law_k", 12)]) (g := gName 12) (tt := tYes) rfl sc_law_where.nd (show PI _ _ _ (iList K _) from pi_list (pv 1)) (blkOk_by (N := n_law_where) (sc := defScope s_law_where) (own := [("_law_k", 12)]) (by decide +kernel)) (fun _ _ _ _ _ => (pg_name (i := 12) sc_law_where.nd rfl (Or.inl rfl))) (fun _ _ _ _ _ => pts_nil) (fun _ _ _ _ _ => (pc_ c_law_ends hr (by omega) (pa_cons (pv 8) (pa_cons (pv 12) (pa_cons (pv 1) (pa_cons (pv 5) pa_nil))))))))
        (pss_one (ps_ret (pe_lc (own := [("_law_k", 12)]) (g := gName 12) rfl sc_law_where.nd (pi_range1 rfl T.range_ (pa_cons (pe_callB call_len_seq rfl T.len_ PySem.boot_len (pa_cons (pv 1) pa_nil)) pa_nil)) (blkOk_by (N := n_law_where) (sc := defScope s_law_where) (own := [("_law_k", 12)]) (by decide +kernel)) (fun _ _ _ _ _ => (pg_name (i := 12) sc_law_where.nd rfl (Or.inl rfl))) (fun _ _ _ _ _ => (pts_one (pt_if (pt_cmpR op_eq (pe_ix (show IxR _ (rIxT K) from ix_tup) (pv 2) pe_int (fun _ _ => rfl)) pe_str (nomark _)) (pt_cmpR (show OpR _ _ (rIn K true) from op_notIn_seq) pe_bl (pe_ix (show IxR _ (rIxL K) from ix_list) (pv 9) (pv 12) (fun _ _ => rfl)) (by rfl)) (pt_cmpR (show OpR _ _ (rIn K false) from op_in_seq) pe_bl (pe_ix (show IxR _ (rIxL K) from ix_list) (pv 9) (pv 12) (fun _ _ => rfl)) (by rfl))))) (fun _ _ _ _ _ => (pe_ix (show IxR _ (rIxL K) from ix_list) (pv 1) (pv 12) (fun _ _ => rfl)))))))) pss_nil)
        (pss_cons (ps_set (i := 10) sc_law_where.nd rfl (Or.inr rfl) (pc_ c_law_where hr (by omega) (pa_cons (pv 0) (pa_cons (pv 1) (pa_cons (pe_ix (show IxR _ (rIxT K) from ix_tup) (pv 2) pe_int (fun _ _ => rfl)) pa_nil)))))
        (pss_cons (ps_set (i := 11) sc_law_where.nd rfl (Or.inr rfl) (pc_ c_law_where hr (by omega) (pa_cons (pv 0) (pa_cons (pe_ifExp (pt_cmpR op_eq (pe_ix (show IxR _ (rIxT K) from ix_tup) (pv 2) pe_int (fun _ _ => rfl)) pe_str (nomark _)) (pv 10) (pv 1)) (pa_cons (pe_ix (show IxR _ (rIxT K) from ix_tup) (pv 2) pe_int (fun _ _ => rfl)) pa_nil)))))
        (pss_one (ps_ret (pe_lc (own := [("_law_k", 12)]) (g := gName 12) rfl sc_law_where.nd (show PI _ _ _ (iList K _) from pi_list (pv 1)) (blkOk_by (N := n_law_where) (sc := defScope s_law_where) (own := [("_law_k", 12)]) (by decide +kernel)) (fun _ _ _ _ _ => (pg_name (i := 12) sc_law_where.nd rfl (Or.inl rfl))) (fun _ _ _ _ _ => (pts_one (PW.pt (pw_or (pt_cmpR (show OpR _ _ (rIn K true) from op_notIn_seq) (pv 12) (pv 10) (by rfl)) (pw_or1 (pt_cmpR (show OpR _ _ (rIn K false) from op_in_seq) (pv 12) (pv 11) (by rfl))))))) (fun _ _ _ _ _ => (pv 12)))))))))))), ?_⟩
    refine retP_of h fun P H hR => ?_
    obtain ⟨v, W, x1, x2, ks, s, rfl, h0, h1, h2, hW, hlk, hf, rfl⟩ := hR
    obtain ⟨hw, hin⟩ := fit_inn hf
    have ev : ∀ (i : Nat), i = 1 ∨ i = 2 → True := fun _ _ => trivial
    refine rp_pairP (P1 := DctF K (W.steps.map fun s => (s.1, PyData.tuple (s.2.map prD)))) (P2 := DctF K (W.letters.map fun s => (s.1, PyData.tuple (s.2.map inD)))) (evp_dict (by rw [List.map_map]; exact hW.stn) ?_) DctF.mono (evp_dict (by rw [List.map_map]; exact hW.ltn) ?_) (fun d1 d2 H1 e1 hd1 hd2 => ?_) DctF.mono
    · intro F H1 p e Q k
      obtain ⟨a, t1, t2, o1, o2, xs1, xs2, rfl, g2, g3, g4, g5, _⟩ := WbF.mono _ _ _ e h0
      exact ⟨_, rfl, a, _, 1, .ref t1, rfl, rfl, ex_t del_le g2, rfl, k _ H1 (Ex.refl _) ⟨t1, o1, xs1, rfl, g3, g4, by rw [List.map_map]; exact g5⟩⟩
    · intro F H1 p e Q k
      obtain ⟨a, t1, t2, o1, o2, xs1, xs2, rfl, g2, g3, g4, g5, g6, g7, g8⟩ := WbF.mono _ _ _ e h0
      exact ⟨_, rfl, a, _, 2, .ref t2, rfl, rfl, ex_t del_le g2, rfl, k _ H1 (Ex.refl _) ⟨t2, o2, xs2, rfl, g6, g7, by rw [List.map_map]; exact g8⟩⟩
    have w0 := WbF.mono _ _ _ e1 h0
    have g1 := e1.dp h1
    have g2' := e1.dp h2
    have g2 := g2'
    rw [enc_eq] at g2
    have t0 : ∀ {σ : L2.St} {H' : Hp}, Ex H1 H' → σ[2]? = some (some x2) → EvD K (tOp (rIxT K) (tVar 2) (tC (.int 0))) σ H' (.str (hdw s)) := fun e hs => evd_ixT (i := 0) (evd_var hs (e.dp g2)) evd_int rfl
    refine rp_of ?_
    cases s with
    | lt c =>
      refine rd_T (eqT (t0 (Ex.refl _) rfl) evd_str (by kernel_rfl)) (rd_ret ?_)
      refine evd_is (evd_lc1 (as := ks) (en := inD) (fun x => decide (x ∈ W.L c)) inD (ei_lst (evd_var rfl g1)) (by omega) (fun _ => rfl) fun x hx y H2 e2 hy => ⟨et_d (evd_inNT (neg := false) (evd_var rfl hy) (evd_dctget (c := c) (evp_var rfl DctF.mono (DctF.mono _ _ _ e2 hd2)) (evd_ixT (i := 1) (evd_var rfl (e2.dp g2)) evd_int rfl) ?_)), fun _ => evd_var rfl hy⟩) ?_
      · exact asc_map (fun ws : List Nat => PyData.tuple (ws.map inD)) [] c W.letters
      · congr 2
    | nt m =>
      refine rd_F (eqT (t0 (Ex.refl _) rfl) evd_str (by kernel_rfl)) (rd_T (eqT (t0 (Ex.refl _) rfl) evd_str (by kernel_rfl)) ?_)
      refine rd_setP (P2 := fun H u => Dp K H u (.list ((ks.filter fun x => sat W.E W.L m ks x).map inD))) (evp_callV rfl (evds_cons (evd_var rfl g1) (evds_cons (evd_ixT (i := 1) (evd_var rfl g2) evd_int rfl) evds_nil)) fun H' vs e hvs => ?_) fun v5 H2 e2 h5 => rd_ret ?_
      · obtain ⟨y1, y2, rfl, k1, k2⟩ := of_two hvs
        exact ⟨_, W, y1, y2, ks, m, rfl, WbF.mono _ _ _ e w0, k1, k2, hW, hlk, hin m (by simp [inn]), rfl⟩
      · refine evd_is (evd_lc1 (as := ks) (en := inD) (fun x => !decide (x ∈ ks.filter fun y => sat W.E W.L m ks y)) inD (ei_lst (evd_var rfl (e2.dp g1))) (by omega) (fun _ => rfl) fun x hx y H3 e3 hy => ⟨et_d (evd_inN (neg := true) (evd_var rfl hy) (evd_var rfl (e3.dp h5))), fun _ => evd_var rfl hy⟩) ?_
        congr 2
        refine List.filter_congr fun x hx => ?_
        rw [mem_flt hx, sat]
    | jn b l =>
      have b1 : decide (hdw (.jn b l) = "letter") = false := by cases b <;> kernel_rfl
      have b2 : decide (hdw (.jn b l) = "not") = false := by cases b <;> kernel_rfl
      have b3 : decide (hdw (.jn b l) ∈ (["and", "or"] : List Str)) = true := by cases b <;> kernel_rfl
      have b4 : decide (hdw (.jn b l) = "and") = b := by cases b <;> kernel_rfl
      refine rd_F (eqT (t0 (Ex.refl _) rfl) evd_str b1) (rd_F (eqT (t0 (Ex.refl _) rfl) evd_str b2) (rd_T (inT (ss := ["and", "or"]) (t0 (Ex.refl _) rfl) (evd_tup (evds_cons evd_str (evds_cons evd_str evds_nil))) rfl b3) ?_))
      have hwl : l.length ≤ 100 := hw
      refine rd_set (evd_lcA (as := l) (en := enc) (fun u => .list ((ks.filter fun x => sat W.E W.L u ks x).map inD)) (ei_tup (evd_ixT (i := 1) (evd_var rfl g2) evd_int (by rw [tlw, encL_map]; rfl))) (by omega) (fun _ => rfl) fun u hu y H2 e2 hy => ?_) fun v6 H2 e2 h6 => ?_
      · refine evd_of (evp_callV (P := fun H v => Dp K H v (.list ((ks.filter fun x => sat W.E W.L u ks x).map inD))) rfl (evds_cons (evd_var rfl (e2.dp g1)) (evds_cons (evd_var rfl hy) evds_nil)) fun H' vs e hvs => ?_)
        obtain ⟨y1, y2, rfl, k1, k2⟩ := of_two hvs
        exact ⟨_, W, y1, y2, ks, u, rfl, WbF.mono _ _ _ (e2.trans e) w0, k1, k2, hW, hlk, hin u hu, rfl⟩
      · refine rd_set (evd_lcA (as := ks) (en := inD) (fun x => .list ((l.map fun u => decide (x ∈ ks.filter fun y => sat W.E W.L u ks y)).map PyData.bool)) (ei_lst (evd_var rfl (e2.dp g1))) (by omega) (fun _ => rfl) fun x hx y H3 e3 hy => ?_) fun v7 H3 e3 h7 => ?_
        · refine evd_is (evd_lcA (as := l) (en := fun u => .list ((ks.filter fun x => sat W.E W.L u ks x).map inD)) (fun u => .bool (decide (x ∈ ks.filter fun y => sat W.E W.L u ks y))) (ei_lst (evd_var rfl (e3.dp h6))) (by omega) (fun _ => rfl) fun u hu z H4 e4 hz => ?_) (by rw [List.map_map]; rfl)
          exact evd_inN (neg := false) (evd_var rfl (e4.dp hy)) (evd_var rfl hz)
        · refine rd_ret (evd_is (where_last (ms := fun x => l.map fun u => decide (x ∈ ks.filter fun y => sat W.E W.L u ks y)) rfl (by decide) rfl ((e2.trans e3).dp g1) rfl ((e2.trans e3).dp g2) b4 rfl h7 hlk) ?_)
          congr 2
          refine List.filter_congr fun x hx => ?_
          have e5 : (l.map fun u => decide (x ∈ ks.filter fun y => sat W.E W.L u ks y)) = l.map fun u => sat W.E W.L u ks x := List.map_congr_left fun u _ => mem_flt hx
          rw [e5]
          cases b
          · rw [if_neg (by decide), sat_jf, List.any_map]; rfl
          · rw [if_pos rfl, sat_jt, List.all_map]; rfl
    | md b hh m =>
      have b1 : decide (hdw (.md b hh m) = "letter") = false := by cases b <;> kernel_rfl
      have b2 : decide (hdw (.md b hh m) = "not") = false := by cases b <;> kernel_rfl
      have b3 : decide (hdw (.md b hh m) ∈ (["and", "or"] : List Str)) = false := by cases b <;> kernel_rfl
      have b3' : decide (hdw (.md b hh m) ∈ (["must", "may"] : List Str)) = true := by cases b <;> kernel_rfl
      have b4 : decide (hdw (.md b hh m) = "must") = b := by cases b <;> kernel_rfl
      refine rd_F (eqT (t0 (Ex.refl _) rfl) evd_str b1) (rd_F (eqT (t0 (Ex.refl _) rfl) evd_str b2) (rd_F (inT (ss := ["and", "or"]) (t0 (Ex.refl _) rfl) (evd_tup (evds_cons evd_str (evds_cons evd_str evds_nil))) rfl b3) (rd_T (inT (ss := ["must", "may"]) (t0 (Ex.refl _) rfl) (evd_tup (evds_cons evd_str (evds_cons evd_str evds_nil))) rfl b3') ?_)))
      refine rd_of (rp_pairP (P1 := fun H u => Dp K H u (.list ((ks.filter fun x => sat W.E W.L m ks x).map inD))) (P2 := fun H u => Dp K H u (.tuple ((W.E hh).map prD))) (evp_callV rfl (evds_cons (evd_var rfl g1) (evds_cons (evd_ixT (i := 2) (evd_var rfl g2) evd_int rfl) evds_nil)) fun H' vs e hvs => ?_) mon_dp
        (evp_of (evd_dctget (c := hh) (evp_var rfl DctF.mono hd1) (evd_ixT (i := 1) (evd_var rfl g2) evd_int rfl) ?_)) (fun v5 v8 H2 e2 h5 h8 => rp_of ?_) mon_dp)
      · obtain ⟨y1, y2, rfl, k1, k2⟩ := of_two hvs
        exact ⟨_, W, y1, y2, ks, m, rfl, WbF.mono _ _ _ e w0, k1, k2, hW, hlk, hin m (by simp [inn]), rfl⟩
      · exact asc_map (fun ps : List (Nat × Nat) => PyData.tuple (ps.map prD)) [] hh W.steps
      · refine rd_set (evd_lcA (as := ks) (en := inD) (fun x => .list ((((W.E hh).filter fun p : Nat × Nat => decide (p.1 = x) && decide (p.2 ∈ ks)).map fun p => decide (p.2 ∈ ks.filter fun y => sat W.E W.L m ks y)).map PyData.bool)) (ei_lst (evd_var rfl (e2.dp g1))) (by omega) (fun _ => rfl) fun x hx y H3 e3 hy => ?_) fun v9 H3 e3 h9 => ?_
        · exact evd_call (evds_cons (evd_var rfl (e3.dp h8)) (evds_cons (evd_var rfl hy) (evds_cons (evd_var rfl (e3.dp (e2.dp g1))) (evds_cons (evd_var rfl (e3.dp h5)) evds_nil)))) ⟨W.E hh, x, ks, ks.filter fun y => sat W.E W.L m ks y, rfl, E_len hW hh, rfl⟩
        · refine rd_ret (evd_is (where_last (ms := fun x => ((W.E hh).filter fun p : Nat × Nat => decide (p.1 = x) && decide (p.2 ∈ ks)).map fun p => decide (p.2 ∈ ks.filter fun y => sat W.E W.L m ks y)) rfl (by decide) rfl ((e2.trans e3).dp g1) rfl ((e2.trans e3).dp g2) b4 rfl h9 hlk) ?_)
          congr 2
          exact List.filter_congr fun x hx => md_all.symm
    | so f t =>
      refine rd_F (eqT (t0 (Ex.refl _) rfl) evd_str (by kernel_rfl)) (rd_F (eqT (t0 (Ex.refl _) rfl) evd_str (by kernel_rfl)) (rd_F (inT (ss := ["and", "or"]) (t0 (Ex.refl _) rfl) (evd_tup (evds_cons evd_str (evds_cons evd_str evds_nil))) rfl (by kernel_rfl)) (rd_F (inT (ss := ["must", "may"]) (t0 (Ex.refl _) rfl) (evd_tup (evds_cons evd_str (evds_cons evd_str evds_nil))) rfl (by kernel_rfl)) ?_)))
      refine rd_setP (P2 := fun H u => Dp K H u (.list ((ks.filter fun x => sat W.E W.L f ks x).map inD))) (evp_callV rfl (evds_cons (evd_var rfl g1) (evds_cons (evd_ixT (i := 1) (evd_var rfl g2) evd_int rfl) evds_nil)) fun H' vs e hvs => ?_) fun v10 H2 e2 h10 => ?_
      · obtain ⟨y1, y2, rfl, k1, k2⟩ := of_two hvs
        exact ⟨_, W, y1, y2, ks, f, rfl, WbF.mono _ _ _ e w0, k1, k2, hW, hlk, hin f (by simp [inn]), rfl⟩
      refine rd_setP (P2 := fun H u => Dp K H u (.list ((ks.filter fun x => sat W.E W.L t ks x).map inD))) (evp_callV rfl (evds_cons (evd_ifF (eqT (t0 e2 rfl) evd_str (by kernel_rfl)) (evd_var rfl (e2.dp g1))) (evds_cons (evd_ixT (i := 2) (evd_var rfl (e2.dp g2)) evd_int rfl) evds_nil)) fun H' vs e hvs => ?_) fun v11 H3 e3 h11 => rd_ret ?_
      · obtain ⟨y1, y2, rfl, k1, k2⟩ := of_two hvs
        exact ⟨_, W, y1, y2, ks, t, rfl, WbF.mono _ _ _ (e2.trans e) w0, k1, k2, hW, hlk, hin t (by simp [inn]), rfl⟩
      refine evd_is (evd_lc1 (as := ks) (en := inD) (fun x => !decide (x ∈ ks.filter fun y => sat W.E W.L f ks y) || decide (x ∈ ks.filter fun y => sat W.E W.L t ks y)) inD (ei_lst (evd_var rfl ((e2.trans e3).dp g1))) (by omega) (fun _ => rfl) fun x hx y H4 e4 hy => ⟨eb_or (et_d (evd_inN (neg := true) (evd_var rfl hy) (evd_var rfl (e4.dp (e3.dp h10))))) fun _ => et_d (evd_inN (neg := false) (evd_var rfl hy) (evd_var rfl (e4.dp h11))), fun _ => evd_var rfl hy⟩) ?_
      congr 2
      refine List.filter_congr fun x hx => ?_
      rw [mem_flt hx, mem_flt hx, sat]
    | td f t =>
      refine rd_F (eqT (t0 (Ex.refl _) rfl) evd_str (by kernel_rfl)) (rd_F (eqT (t0 (Ex.refl _) rfl) evd_str (by kernel_rfl)) (rd_F (inT (ss := ["and", "or"]) (t0 (Ex.refl _) rfl) (evd_tup (evds_cons evd_str (evds_cons evd_str evds_nil))) rfl (by kernel_rfl)) (rd_F (inT (ss := ["must", "may"]) (t0 (Ex.refl _) rfl) (evd_tup (evds_cons evd_str (evds_cons evd_str evds_nil))) rfl (by kernel_rfl)) ?_)))
      obtain ⟨js, hjs⟩ : ∃ js, js = ks.filter fun x => sat W.E W.L f ks x := ⟨_, rfl⟩
      have hlj : js.length ≤ 100 := by rw [hjs]; exact Nat.le_trans (List.length_filter_le _ _) hlk
      refine rd_setP (P2 := fun H u => Dp K H u (.list (js.map inD))) (evp_callV rfl (evds_cons (evd_var rfl g1) (evds_cons (evd_ixT (i := 1) (evd_var rfl g2) evd_int rfl) evds_nil)) fun H' vs e hvs => ?_) fun v10 H2 e2 h10 => ?_
      · obtain ⟨y1, y2, rfl, k1, k2⟩ := of_two hvs
        exact ⟨_, W, y1, y2, ks, f, rfl, WbF.mono _ _ _ e w0, k1, k2, hW, hlk, hin f (by simp [inn]), by rw [hjs]⟩
      refine rd_setP (P2 := fun H u => Dp K H u (.list ((js.filter fun x => sat W.E W.L t js x).map inD))) (evp_callV rfl (evds_cons (evd_ifT (eqT (t0 e2 rfl) evd_str (by kernel_rfl)) (evd_var rfl h10)) (evds_cons (evd_ixT (i := 2) (evd_var rfl (e2.dp g2)) evd_int rfl) evds_nil)) fun H' vs e hvs => ?_) fun v11 H3 e3 h11 => rd_ret ?_
      · obtain ⟨y1, y2, rfl, k1, k2⟩ := of_two hvs
        exact ⟨_, W, y1, y2, js, t, rfl, WbF.mono _ _ _ (e2.trans e) w0, k1, k2, hW, hlj, hin t (by simp [inn]), rfl⟩
      refine evd_is (evd_lc1 (as := ks) (en := inD) (fun x => !decide (x ∈ js) || decide (x ∈ js.filter fun y => sat W.E W.L t js y)) inD (ei_lst (evd_var rfl ((e2.trans e3).dp g1))) (by omega) (fun _ => rfl) fun x hx y H4 e4 hy => ⟨eb_or (et_d (evd_inN (neg := true) (evd_var rfl hy) (evd_var rfl (e4.dp (e3.dp h10))))) fun _ => et_d (evd_inN (neg := false) (evd_var rfl hy) (evd_var rfl (e4.dp h11))), fun _ => evd_var rfl hy⟩) ?_
      congr 2
      refine List.filter_congr fun x hx => ?_
      have e6 : decide (x ∈ js) = sat W.E W.L f ks x := by rw [hjs, mem_flt hx]
      rw [sat, ← hjs, ← e6]
      by_cases hxj : x ∈ js
      · rw [mem_flt hxj]
      · simp [hxj]
end
end Kx
/-! ## KU_Draw -/
set_option Elab.async false
set_option linter.all false
set_option maxRecDepth 100000
set_option maxHeartbeats 2000000
/-! The law's draws. -/
namespace Kx
open PySem PySem.Spec PyProof.Rows L2 Evl
section
variable {K : Fg} {σ : L2.St} {H H' : Hp} {te : TE} {d : PyData} {Q : VK} {t : TT} {b : Bool} {F : Addr → Bool} {p : Addr}
/-- read in the heap as it is -/
theorem ev0 (h : EvD K te σ H d) (k : ∀ v H2, Ex H H2 → Dp K H2 v d → Q v H2) : te σ H Q := h nul H prv_nul (by rw [del_nul]; exact Ex.refl _) Q fun v H2 b hv => k v H2 b (by rw [del_nul] at hv; exact hv)
theorem eb0 (h : EvB t σ H b) {Q : Bool → Hp → Prop} (k : ∀ H2, Ex H H2 → Q b H2) : t σ H Q := h nul H prv_nul (by rw [del_nul]; exact Ex.refl _) Q k
/-- the feed: its cells, what was taken, what is left of one, how many were drawn -/
def Fd (K : Fg) (F : Addr → Bool) (H : Hp) (p : Addr) (n : Nat) : Prop := ∃ (c : Addr) (cs : List Int) (n1 : Nat) (n2 : Int), H p = some (.lst [.ref c, .int n1, .int n2, .int n]) ∧ Dp K (del H F) (.ref c) (.list (cs.map PyData.int)) ∧ 0 ≤ n2 ∧ n1 ≤ n ∧ cs.length ≤ 100
theorem Fd.kb {n : Nat} (hF : F p = true) (k : Kb p H H') {n : Nat} (h : Fd K F H p n) : ∃ (c : Addr) (cs : List Int), Dp K (del H' F) (.ref c) (.list (cs.map PyData.int)) := by
  obtain ⟨c, cs, _, _, _, h2, _⟩ := h
  exact ⟨c, cs, (k.del hF).dp h2⟩
theorem Fd.ex {n : Nat} (e : Ex H H') (h : Fd K F H p n) : Fd K F H' p n := by
  obtain ⟨c, cs, n1, n2, h1, h2, h3⟩ := h
  exact ⟨c, cs, n1, n2, e _ _ h1, (del_ex e).dp h2, h3⟩
def spDraw (K : Fg) : Sp := fun vs H Q _ => ∃ F p n m, vs = [.ref p, .int (m : Nat)] ∧ Prv F H ∧ F p = true ∧ Fd K F H p n ∧ n ≤ 100000 ∧ 0 < m ∧ m ≤ 100 ∧ ∀ (r : Nat) H2, Kb p H H2 → Fd K F H2 p (n + 1) → r < m → Q (.int (r : Nat)) H2
end
section
variable {P : Program} {w : World} {K : Fg} {mg : Str → Option Value} {base : Heap}
theorem if_cell {b : Bool} {E : TE} {D' : Ends} {σ : L2.St} {H4 : Hp} (S : Int → Hp → Prop) (z0 : Int) (hs : σ.set 3 (some (.int z0)) = σ) (h1 : b = true → ∀ Q : VK, (∀ z H5, S z H5 → Q (.int z) H5) → E σ H4 Q) (h2 : b = false → S z0 H4)
    (hn : ∀ z H5, S z H5 → D'.nx (σ.set 3 (some (.int z))) H5) : if b = true then tAsg E (gName 3) D' σ H4 else tNext D' σ H4 := by
  cases b with
  | true => exact h1 rfl _ fun z H5 h => hn z H5 h
  | false => have := hn z0 H4 (h2 rfl); rw [hs] at this; exact this
theorem mod_nat {i : Int} {m : Nat} (h : 0 < m) : ∃ r : Nat, i % (m : Int) = (r : Int) ∧ r < m := by
  have h1 := Int.emod_nonneg i (show (m : Int) ≠ 0 by omega)
  have h2 := Int.emod_lt_of_pos i (show (0 : Int) < m by omega)
  exact ⟨(i % (m : Int)).toNat, by omega, by omega⟩
theorem law_draw_ok (T : Tx K w mg) (D : Dfn K mg "_law_draw" s_law_draw) : Cal P w K mg base 1 "_law_draw" (spDraw K) := by
  refine cal_of D sc_law_draw (fun _ _ _ _ _ _ us hl => match us, hl with | [_, _], _ => rfl) (fun vs H Q E h => by obtain ⟨_, _, _, _, rfl, _⟩ := h; rfl) fun fa cdv A outer s H vs Q E hr h => ?_
  refine ⟨_, (pss_cons (ps_asg (pe_op op_add (pe_ix (show IxR _ (rIxL K) from ix_list) (pv 0) pe_int (fun _ _ => rfl)) pe_int) (pg_sub (pv 0) pe_int set_list))
        (pss_cons (ps_if (pt_cmpR op_gt (pe_ix (show IxR _ (rIxL K) from ix_list) (pv 0) pe_int (fun _ _ => rfl)) pe_int (nomark _)) (pss_cons (ps_set (i := 2) sc_law_draw.nd rfl (Or.inl rfl) (pe_op op_mod (pe_ix (show IxR _ (rIxL K) from ix_list) (pv 0) pe_int (fun _ _ => rfl)) (pv 1)))
        (pss_cons (ps_asg (pe_op op_fdiv (pe_ix (show IxR _ (rIxL K) from ix_list) (pv 0) pe_int (fun _ _ => rfl)) (pv 1)) (pg_sub (pv 0) pe_int set_list))
        (pss_one (ps_ret (pv 2))))) pss_nil)
        (pss_cons (ps_set (i := 3) sc_law_draw.nd rfl (Or.inl rfl) pe_int)
        (pss_cons (ps_if (pt_cmpR (op_neD hr.units) (pe_ix (show IxR _ (rIxL K) from ix_list) (pv 0) pe_int (fun _ _ => rfl)) (pe_lst pa_nil) (nomark _)) (pss_one (ps_set (i := 3) sc_law_draw.nd rfl (Or.inl rfl) (pe_ix (show IxR _ (rIxL K) from ix_list) (pe_ix (show IxR _ (rIxL K) from ix_list) (pv 0) pe_int (fun _ _ => rfl)) (pe_op op_mod (pe_ix (show IxR _ (rIxL K) from ix_list) (pv 0) pe_int (fun _ _ => rfl)) (pe_callB call_len_seq rfl T.len_ PySem.boot_len (pa_cons (pe_ix (show IxR _ (rIxL K) from ix_list) (pv 0) pe_int (fun _ _ => rfl)) pa_nil))) (fun _ _ => rfl)))) pss_nil)
        (pss_cons (ps_asg (pe_op op_add (pe_ix (show IxR _ (rIxL K) from ix_list) (pv 0) pe_int (fun _ _ => rfl)) pe_int) (pg_sub (pv 0) pe_int set_list))
        (pss_cons (ps_if (PW.pt (pw_and (pt_cmpR op_ge (pv 3) (pe_op op_pow pe_int pe_int) (nomark _)) (pw_and1 (pt_cmpR op_le (pe_ix (show IxR _ (rIxL K) from ix_list) (pv 0) pe_int (fun _ _ => rfl)) (pe_callB call_len_seq rfl T.len_ PySem.boot_len (pa_cons (pe_ix (show IxR _ (rIxL K) from ix_list) (pv 0) pe_int (fun _ _ => rfl)) pa_nil)) (nomark _))))) (pss_cons (ps_asg (pe_op op_fdiv (pv 3) (pv 1)) (pg_sub (pv 0) pe_int set_list))
        (pss_one (ps_ret (pe_op op_mod (pv 3) (pv 1))))) pss_nil)
        (pss_cons (ps_set (i := 4) sc_law_draw.nd rfl (Or.inl rfl) (pe_op op_mod (pe_op op_pow (pe_op op_add (pe_op op_add (pe_op op_mod (pv 3) pe_int) (pe_op op_mul pe_int (pe_ix (show IxR _ (rIxL K) from ix_list) (pv 0) pe_int (fun _ _ => rfl)))) pe_int) pe_int) pe_int))
        (pss_one (ps_ret (pe_op op_mod (pe_op op_fdiv (pe_op op_mod (pe_op op_pow (pe_op op_add (pv 4) (pe_op op_mul pe_int (pe_ix (show IxR _ (rIxL K) from ix_list) (pv 0) pe_int (fun _ _ => rfl)))) pe_int) pe_int) pe_int) (pv 1))))))))))), ?_⟩
  obtain ⟨F, p, n, m, rfl, pF, hFp, ⟨c, cs, n1, n2, hp, hc, h0, h1, hcl⟩, hn, hm, hm2, q⟩ := h
  have feed : ∀ {H' : Hp} {a1 : Int} {a2 a3 : Int}, Ex (del H F) (del H' F) → H' p = some (.lst [.ref c, .int a1, .int a2, .int a3]) → Dp K H' (.ref p) (.list [.list (cs.map PyData.int), .int a1, .int a2, .int a3]) := fun e h =>
    .lst (sq_of h) (.cons (del_le.dp (e.dp hc)) (.cons (.int _) (.cons (.int _) (.cons (.int _) .nil))))
  have fin : ∀ {H' : Hp} {a1 : Nat} {a2 : Int} {r : Nat}, Kb p H H' → H' p = some (.lst [.ref c, .int (a1 : Int), .int a2, .int ((n : Int) + 1)]) → 0 ≤ a2 → a1 ≤ n + 1 → r < m → Q (.int (r : Nat)) H' := fun k h h2 h3 hr =>
    q _ _ k ⟨c, cs, _, _, h, (k.del hFp).dp hc, h2, h3, hcl⟩ hr
  -- one more is drawn
  refine ev0 (evd_I0 (d := .int ((n : Int) + 1)) (evd_ixL (i := 3) (evd_var rfl (feed (Ex.refl _) hp)) evd_int rfl) evd_int fun _ => .int _) fun v H1 e1 hv => ?_
  obtain rfl := of_dp_int hv
  refine ⟨_, rfl, p, _, 3, 3, rfl, rfl, e1 _ _ hp, rfl, ?_⟩
  have k2 : Kb p H (upd H1 p (.lst [.ref c, .int n1, .int n2, .int ((n : Int) + 1)])) := (Kb.of e1).trans .upd
  obtain ⟨H2, hH2⟩ : ∃ H2, H2 = upd H1 p (.lst [.ref c, .int n1, .int n2, .int ((n : Int) + 1)]) := ⟨_, rfl⟩
  have hp2 : H2 p = some (.lst [.ref c, .int n1, .int n2, .int ((n : Int) + 1)]) := by rw [hH2, upd_same]
  rw [← hH2] at k2
  change tSeq _ _ _ _ (upd H1 p (.lst [.ref c, .int n1, .int n2, .int ((n : Int) + 1)]))
  rw [← hH2]
  have ix : ∀ {σ : L2.St} {H' : Hp} {a1 a2 a3 : Int} (i : Nat) (d : PyData), Kb p H H' → H' p = some (.lst [.ref c, .int a1, .int a2, .int a3]) → σ[0]? = some (some (.ref p)) → [PyData.list (cs.map PyData.int), .int a1, .int a2, .int a3][i]? = some d → EvD K (tOp (rIxL K) (tVar 0) (tC (.int (i : Int)))) σ H' d := fun i d k h hs hd =>
    evd_ixL (i := i) (evd_var hs (feed (k.del hFp) h)) evd_int hd
  refine eb0 (et_d (evd_I0 (d := .bool (decide (0 < n2))) (ix 2 _ k2 hp2 rfl rfl) evd_int fun _ => .bl _)) fun H3 e3 => ?_
  have k3 : Kb p H H3 := k2.trans (.of e3)
  have hp3 := e3 _ _ hp2
  obtain ⟨r0, hr0, hr0m⟩ := mod_nat (i := n2) hm
  cases hb : decide (0 < n2) with
  | true =>
    refine ev0 (evd_I (C := fun _ j => 0 < j) (d := .int (n2 % (m : Int))) (ix 2 _ k3 hp3 rfl rfl) (evd_var (v := .int (m : Int)) rfl (.int _)) (by omega) fun _ => .int _) fun v H4 e4 hv => ?_
    obtain rfl := of_dp_int hv
    have k4 : Kb p H H4 := k3.trans (.of e4)
    have hp4 := e4 _ _ hp3
    refine ev0 (evd_I (C := CDiv) (d := .int (n2 / (m : Int))) (ix 2 _ k4 hp4 rfl rfl) (evd_var (v := .int (m : Int)) rfl (.int _)) ⟨by omega, by omega⟩ fun _ => .int _) fun v H5 e5 hv => ?_
    obtain rfl := of_dp_int hv
    have k5 : Kb p H H5 := k4.trans (.of e5)
    refine ⟨_, rfl, p, _, 2, 2, rfl, rfl, e5 _ _ hp4, rfl, ?_⟩
    refine ⟨_, rfl, ?_⟩
    show Q (.int (n2 % (m : Int))) _
    rw [hr0]
    exact fin (k5.trans .upd) upd_same (Int.ediv_nonneg h0 (by omega)) (by omega) hr0m
  | false =>
    have len : ∀ {σ : L2.St} {H' : Hp} {a1 a2 a3 : Int}, Kb p H H' → H' p = some (.lst [.ref c, .int a1, .int a2, .int a3]) → σ[0]? = some (some (.ref p)) → EvD K (tCB (rLenOf K) (tCons (tOp (rIxL K) (tVar 0) (tC (.int 0))) tNil)) σ H' (.int (cs.length : Int)) := fun k h hs =>
      evd_is (evd_len (ix 0 _ k h hs rfl) (show seqD _ = some _ from rfl)) (by rw [List.length_map])
    rw [if_neg (by decide)]
    dsimp only [tNext, tSeq]
    refine eb0 (et_d (evd_neD (ix 0 _ k3 hp3 rfl rfl) (evd_lst evds_nil) (shp_lst fun d hd => by obtain ⟨i, _, rfl⟩ := List.mem_map.mp hd; exact can_int i) rfl)) fun H4 e4 => ?_
    have k4 := k3.trans (.of e4)
    have hp4 := e4 _ _ hp3
    refine if_cell (fun z H' => Kb p H H' ∧ H' p = some (.lst [.ref c, .int n1, .int n2, .int ((n : Int) + 1)])) 5 rfl (fun hcs Q k => ?_) (fun _ => ⟨k4, hp4⟩) fun z H5 ⟨k5, hp5⟩ => ?_
    · have hne : cs ≠ [] := fun z => by subst z; simp [PyData.eqv, PyData.eqvAll] at hcs
      have hl : 0 < cs.length := List.length_pos_iff.mpr hne
      obtain ⟨r, hr, hrl⟩ := mod_nat (i := (n1 : Int)) hl
      have hg : cs[r]? = some cs[r] := List.getElem?_eq_getElem hrl
      refine ev0 (evd_ixL (i := r) (d := .int cs[r]) (ix 0 _ k4 hp4 rfl rfl) (evd_I (C := fun _ j => 0 < j) (ix 1 _ k4 hp4 rfl rfl) (len k4 hp4 rfl) (by omega) fun _ => by rw [hr]; exact .int _) (by rw [List.getElem?_map, hg]; rfl)) fun v H5 e5 hv => ?_
      obtain rfl := of_dp_int hv
      exact k _ H5 ⟨k4.trans (.of e5), e5 _ _ hp4⟩
    · -- one cell more is passed
      dsimp only
      refine ev0 (evd_I0 (d := .int ((n1 : Int) + 1)) (ix 1 _ k5 hp5 rfl rfl) evd_int fun _ => .int _) fun v H6 e6 hv => ?_
      obtain rfl := of_dp_int hv
      refine ⟨_, rfl, p, _, 1, 1, rfl, rfl, e6 _ _ hp5, rfl, ?_⟩
      obtain ⟨H7, hH7⟩ : ∃ H7, H7 = upd H6 p (.lst [.ref c, .int ((n1 : Int) + 1), .int n2, .int ((n : Int) + 1)]) := ⟨_, rfl⟩
      have hp7 : H7 p = some (.lst [.ref c, .int ((n1 : Int) + 1), .int n2, .int ((n : Int) + 1)]) := by rw [hH7, upd_same]
      have k7 : Kb p H H7 := by rw [hH7]; exact (k5.trans (.of e6)).trans .upd
      dsimp only [tSeq]
      change tIfS _ _ _ _ _ (upd H6 p (.lst [.ref c, .int ((n1 : Int) + 1), .int n2, .int ((n : Int) + 1)]))
      rw [← hH7]
      have big : ∀ {σ : L2.St}, σ[3]? = some (some (.int z)) → σ[0]? = some (some (.ref p)) → EvB (tAnd (tTest (tOp (rI0 fun i j => .bl (decide (j ≤ i))) (tVar 3) (tOp (rI CPow fun i j => .int (i ^ j.toNat)) (tC (.int 10)) (tC (.int 18))))) (tTest (tOp (rI0 fun i j => .bl (decide (i ≤ j))) (tOp (rIxL K) (tVar 0) (tC (.int 1))) (tCB (rLenOf K) (tCons (tOp (rIxL K) (tVar 0) (tC (.int 0))) tNil))))) σ H7 (decide ((10 : Int) ^ (18 : Int).toNat ≤ z) && decide ((n1 : Int) + 1 ≤ (cs.length : Int))) := fun s3 s0 =>
        eb_and (et_d (K := K) (evd_I0 (evd_var s3 (.int _)) (evd_I (C := CPow) (d := .int ((10 : Int) ^ (18 : Int).toNat)) evd_int evd_int ⟨by decide, by decide, by decide⟩ fun _ => .int _) fun _ => .bl _)) fun _ => et_d (evd_I0 (ix 1 _ k7 hp7 s0 rfl) (len k7 hp7 s0) fun _ => .bl _)
      refine eb0 (big rfl rfl) fun H8 e8 => ?_
      have k8 := k7.trans (.of e8)
      have hp8 := e8 _ _ hp7
      have mm : (0 : Int) < (m : Int) := by omega
      cases hbg : (decide ((10 : Int) ^ (18 : Int).toNat ≤ z) && decide ((n1 : Int) + 1 ≤ (cs.length : Int))) with
      | true =>
        have hz : 0 ≤ z := by
          rw [Bool.and_eq_true, decide_eq_true_eq] at hbg
          exact Int.le_trans (by decide) hbg.1
        refine ev0 (evd_I (K := K) (C := CDiv) (d := .int (z / (m : Int))) (evd_var (v := .int z) rfl (.int _)) (evd_var (v := .int (m : Int)) rfl (.int _)) ⟨mm, by omega⟩ fun _ => .int _) fun v H9 e9 hv => ?_
        obtain rfl := of_dp_int hv
        refine ⟨_, rfl, p, _, 2, 2, rfl, rfl, e9 _ _ hp8, rfl, ?_⟩
        obtain ⟨r, hr, hrm⟩ := mod_nat (i := z) hm
        refine ev0 (evd_I (K := K) (C := fun _ j => 0 < j) (d := .int (z % (m : Int))) (evd_var (v := .int z) rfl (.int _)) (evd_var (v := .int (m : Int)) rfl (.int _)) mm fun _ => .int _) fun v H10 e10 hv => ?_
        obtain rfl := of_dp_int hv
        show Q (.int (z % (m : Int))) H10
        rw [hr]
        exact fin (a1 := n1 + 1) (((k8.trans (.of e9)).trans .upd).trans (.of e10)) (e10 _ _ upd_same) (Int.ediv_nonneg hz (by omega)) (by omega) hrm
      | false =>
        rw [if_neg (by decide)]
        dsimp only [tNext, tAsg, gName]
        have a1 := Int.emod_nonneg z (show (2147483629 : Int) ≠ 0 by decide)
        have a2 := Int.emod_lt_of_pos z (show (0 : Int) < 2147483629 by decide)
        refine ev0 (evd_I (C := fun _ j => 0 < j) (d := .int ((z % 2147483629 + 7919 * ((n : Int) + 1) + 1) ^ (5 : Int).toNat % 2147483647)) (evd_I (C := CPow) (d := .int ((z % 2147483629 + 7919 * ((n : Int) + 1) + 1) ^ (5 : Int).toNat)) (evd_I0 (evd_I0 (evd_I (C := fun _ j => 0 < j) (d := .int (z % 2147483629)) (evd_var (v := .int z) rfl (.int _)) evd_int (by decide) fun _ => .int _) (evd_I (C := CMul) (d := .int (7919 * ((n : Int) + 1))) evd_int (ix 3 _ k8 hp8 rfl rfl) (.inl ⟨by decide, by decide⟩) fun _ => .int _) fun _ => .int _) evd_int fun _ => .int _) evd_int ⟨by decide, by decide, by omega⟩ fun _ => .int _) evd_int (by decide) fun _ => .int _) fun v H9 e9 hv => ?_
        obtain rfl := of_dp_int hv
        obtain ⟨y, hy⟩ : ∃ y, y = (z % 2147483629 + 7919 * ((n : Int) + 1) + 1) ^ (5 : Int).toNat % 2147483647 := ⟨_, rfl⟩
        have b1 := Int.emod_nonneg ((z % 2147483629 + 7919 * ((n : Int) + 1) + 1) ^ (5 : Int).toNat) (show (2147483647 : Int) ≠ 0 by decide)
        have b2 := Int.emod_lt_of_pos ((z % 2147483629 + 7919 * ((n : Int) + 1) + 1) ^ (5 : Int).toNat) (show (0 : Int) < 2147483647 by decide)
        rw [← hy] at b1 b2 ⊢
        have k9 := k8.trans (.of e9)
        have hp9 := e9 _ _ hp8
        obtain ⟨r, hr, hrm⟩ := mod_nat (i := (y + 104729 * ((n : Int) + 1)) ^ (5 : Int).toNat % 2147483587 / 64) hm
        refine ev0 (evd_I (K := K) (C := fun _ j => 0 < j) (d := .int ((y + 104729 * ((n : Int) + 1)) ^ (5 : Int).toNat % 2147483587 / 64 % (m : Int))) (evd_I (C := CDiv) (d := .int ((y + 104729 * ((n : Int) + 1)) ^ (5 : Int).toNat % 2147483587 / 64)) (evd_I (C := fun _ j => 0 < j) (d := .int ((y + 104729 * ((n : Int) + 1)) ^ (5 : Int).toNat % 2147483587)) (evd_I (C := CPow) (d := .int ((y + 104729 * ((n : Int) + 1)) ^ (5 : Int).toNat)) (evd_I0 (evd_var (v := .int y) rfl (.int _)) (evd_I (C := CMul) (d := .int (104729 * ((n : Int) + 1))) evd_int (ix 3 _ k9 hp9 rfl rfl) (.inl ⟨by decide, by decide⟩) fun _ => .int _) fun _ => .int _) evd_int ⟨by decide, by decide, by omega⟩ fun _ => .int _) evd_int (by decide) fun _ => .int _) evd_int ⟨by decide, by decide⟩ fun _ => .int _) (evd_var (v := .int (m : Int)) rfl (.int _)) mm fun _ => .int _) fun v H10 e10 hv => ?_
        obtain rfl := of_dp_int hv
        show Q (.int ((y + 104729 * ((n : Int) + 1)) ^ (5 : Int).toNat % 2147483587 / 64 % (m : Int))) H10
        rw [hr]
        exact fin (a1 := n1 + 1) (k9.trans (.of e10)) (e10 _ _ hp9) h0 (by omega) hrm
end
end Kx
/-! ## KV_Say -/
set_option Elab.async false
set_option linter.all false
set_option maxRecDepth 100000
set_option maxHeartbeats 2000000
/-! The law's sayings. -/
namespace Kx
open PySem PySem.Spec PyProof.Rows L2 Evl
abbrev lowc (c : Nat) : Bool := decide (97 ≤ c) && decide (c ≤ 122)
mutual
/-- letters and hands small, no and, or of more than three -/
def gd : Sy → Bool
  | .lt c => lowc c
  | .nt s => gd s
  | .jn _ l => decide (l.length ≤ 3) && gdL l
  | .so s t => gd s && gd t
  | .md _ h s => lowc h && gd s
  | .td s t => gd s && gd t
def gdL : List Sy → Bool
  | [] => true
  | s :: r => gd s && gdL r
end
mutual
/-- how many sayings stand in it, itself with them -/
def nd : Sy → Nat
  | .lt _ => 1
  | .nt s => nd s + 1
  | .jn _ l => ndL l + 1
  | .so s t => nd s + nd t + 1
  | .md _ _ s => nd s + 1
  | .td s t => nd s + nd t + 1
def ndL : List Sy → Nat
  | [] => 0
  | s :: r => nd s + ndL r
end
mutual
theorem nd_cm : ∀ s, gd s = true → nd s ≤ 1 + 3 * cm s
  | .lt _, _ => by simp [nd, cm]
  | .nt s, h => by rw [gd] at h; have := nd_cm s h; rw [nd, cm]; omega
  | .jn b [], _ => by simp [nd, ndL, cm]
  | .jn b (a :: r), h => by
    rw [gd, Bool.and_eq_true, decide_eq_true_eq] at h
    have := ndL_cm (a :: r) h.2
    rw [nd, cm]
    rw [cmL] at this
    omega
  | .so s t, h => by rw [gd, Bool.and_eq_true] at h; have := nd_cm s h.1; have := nd_cm t h.2; rw [nd, cm]; omega
  | .md _ _ s, h => by rw [gd, Bool.and_eq_true] at h; have := nd_cm s h.2; rw [nd, cm]; omega
  | .td s t, h => by rw [gd, Bool.and_eq_true] at h; have := nd_cm s h.1; have := nd_cm t h.2; rw [nd, cm]; omega
theorem ndL_cm : ∀ l, gdL l = true → ndL l ≤ l.length + 3 * cmL l
  | [], _ => by simp [ndL]
  | s :: r, h => by rw [gdL, Bool.and_eq_true] at h; have := nd_cm s h.1; have := ndL_cm r h.2; rw [ndL, cmL, List.length_cons]; omega
end
theorem gdL_snoc {s : Sy} : ∀ {l : List Sy}, gdL (l ++ [s]) = (gdL l && gd s)
  | [] => by simp [gdL]
  | a :: r => by rw [List.cons_append, gdL, gdL, gdL_snoc, Bool.and_assoc]
theorem cmL_snoc {s : Sy} : ∀ {l : List Sy}, cmL (l ++ [s]) = cmL l + cm s
  | [] => by simp [cmL]
  | a :: r => by rw [List.cons_append, cmL, cmL, cmL_snoc]; omega
theorem ndL_snoc {s : Sy} : ∀ {l : List Sy}, ndL (l ++ [s]) = ndL l + nd s
  | [] => by simp [ndL]
  | a :: r => by rw [List.cons_append, ndL, ndL, ndL_snoc]; omega
theorem Kc.trans {p q : Addr} {H H1 H2 : Hp} (a : Kc p q H H1) (b : Kc p q H1 H2) : Kc p q H H2 := fun c o n m h => b c o n m (a c o n m h)
theorem Kc.of {p q : Addr} {H H1 : Hp} (e : Ex H H1) : Kc p q H H1 := fun c o _ _ h => e c o h
theorem Kc.kb1 {p q : Addr} {H H1 : Hp} (e : Kb p H H1) : Kc p q H H1 := fun c o n _ h => e c o n h
theorem Kc.kb2 {p q : Addr} {H H1 : Hp} (e : Kb q H H1) : Kc p q H H1 := fun c o _ n h => e c o n h
theorem Kc.del {p q : Addr} {H H1 : Hp} {F : Addr → Bool} (k : Kc p q H H1) (hp : F p = true) (hq : F q = true) : Ex (del H F) (del H1 F) := fun b o h => by
  obtain ⟨f, g⟩ := del_some h
  exact del_at f (k b o (fun z => by subst z; rw [hp] at f; cases f) (fun z => by subst z; rw [hq] at f; cases f) g)
theorem Kc.prv {p q : Addr} {H H1 : Hp} {F : Addr → Bool} (k : Kc p q H H1) (pF : Prv F H) (hp : H1 p ≠ none) (hq : H1 q ≠ none) : Prv F H1 := fun b hb => by
  by_cases e : b = p
  · subst e; exact hp
  · by_cases e2 : b = q
    · subst e2; exact hq
    · intro z
      cases g : H b with
      | none => exact pF b hb g
      | some o => rw [k b o e e2 g] at z; cases z
def spSay (K : Fg) (m : Nat) : Sp := fun vs H Q _ => ∃ (F : Addr → Bool) (p q : Addr) (n : Nat) (L : Int) (told : Bool), vs = [.ref p, .ref q, .bl told] ∧ Prv F H ∧ F p = true ∧ F q = true ∧ p ≠ q ∧ Fd K F H p n ∧ H q = some (.lst [.int L]) ∧ L.toNat + 1 ≤ m ∧ n + 8 * (L.toNat + 1) ≤ 100000 ∧
  ∀ (s : Sy) (L' : Int) (n' : Nat) (v : V) (H2 : Hp), Kc p q H H2 → Fd K F H2 p n' → H2 q = some (.lst [.int L']) → gd s = true → (told = false → plain s = true) → cm s + L'.toNat ≤ (L - 1).toNat → n' ≤ n + 2 * nd s → Dp K (del H2 F) v (enc s) → Q v H2
section
variable {K : Fg} {σ : L2.St} {H : Hp} {Q : VK} {F : Addr → Bool} {p q : Addr}
theorem draw_call {n m : Nat} (s0 : σ[0]? = some (some (.ref p))) (pF : Prv F H) (hp : F p = true) (hf : Fd K F H p n) (hn : n ≤ 100000) (hm : 0 < m) (hm2 : m ≤ 100) (k : ∀ (r : Nat) H2, Kb p H H2 → Fd K F H2 p (n + 1) → r < m → Q (.int (r : Nat)) H2) :
    tCall (spDraw K) [] E0 (tCons (tVar 0) (tCons (tC (.int (m : Int))) tNil)) σ H Q := ⟨_, s0, F, p, n, m, rfl, pF, hp, hf, hn, hm, hm2, k⟩
theorem Fd.kq {n : Nat} (hp : F p = true) (hq : F q = true) (hne : p ≠ q) {o : HO} (h : Fd K F H p n) : Fd K F (upd H q o) p n := by
  obtain ⟨c, cs, n1, n2, h1, h2, h3⟩ := h
  exact ⟨c, cs, n1, n2, by rw [upd_ne hne]; exact h1, by rw [del_upd hq]; exact h2, h3⟩
theorem Fd.new {n : Nat} {D : Addr} {o : HO} (hD : H D = none) (h : Fd K F H p n) : Fd K (add F D) (upd H D o) p n := by
  obtain ⟨c, cs, n1, n2, h1, h2, h3⟩ := h
  exact ⟨c, cs, n1, n2, Ex.new hD _ _ h1, (ex_add hD (Ex.refl _) (Ex.new hD)).dp h2, h3⟩
theorem Fd.le {n : Nat} {F' : Addr → Bool} (e : Ex (del H F) (del H F')) (h : Fd K F H p n) : Fd K F' H p n := by
  obtain ⟨c, cs, n1, n2, h1, h2, h3⟩ := h
  exact ⟨c, cs, n1, n2, h1, e.dp h2, h3⟩
/-- [..][draw]: one of some constants -/
theorem pick_raw {n m : Nat} {xs : List V} {tl : TA} (ht : ∀ σ H (Q : List V → Hp → Prop), Q xs H → tl σ H Q) (hlen : xs.length = m) (s0 : σ[0]? = some (some (.ref p))) (pF : Prv F H) (hp : F p = true) (hf : Fd K F H p n) (hn : n ≤ 100000) (hm : 0 < m) (hm2 : m ≤ 100)
    (k : ∀ (r : Nat) v H2, Kb p H H2 → Fd K F H2 p (n + 1) → xs[r]? = some v → Q v H2) : tOp (rIxL K) (tLst tl) (tCall (spDraw K) [] E0 (tCons (tVar 0) (tCons (tC (.int (m : Int))) tNil))) σ H Q := by
  refine ht σ H _ ⟨by rw [hlen]; exact sz_of (by omega), fun l hl => ?_⟩
  refine draw_call (F := F) (n := n) s0 (pF.mono (Ex.new hl)) hp (hf.ex (Ex.new hl)) hn hm hm2 fun r H2 kb hf2 hr => ?_
  have hlp : l ≠ p := fun z => by subst z; exact pF l hp hl
  have hxs : xs[r]? = some (xs[r]'(by omega)) := List.getElem?_eq_getElem (by omega)
  exact ⟨l, xs, (r : Int), xs[r]'(by omega), rfl, rfl, sq_of (kb _ _ hlp upd_same), atI_nat hxs, k r _ H2 ((Kb.of (Ex.new hl)).trans kb) hf2 hxs⟩
/-- a comprehension over range, step by step -/
theorem lc_rng {te0 te : TE} {tt : TT} {vs : List Nat} {g : TG} (n : Nat) (hn : n ≤ 1000) (h0 : ∀ Q : VK, (∀ H1, Ex H H1 → Q (.int (n : Int)) H1) → te0 σ H Q)
    (h : ∀ H1 D, Ex H H1 → H1 D = none → ∃ S : Nat → List V → Hp → Prop, S 0 [] (upd H1 D (.lst [])) ∧
      (∀ i acc H', i < n → S i acc H' → g (.int (i : Int)) (wipe σ vs) H' fun σ2 H2 => wipe σ2 vs = wipe σ vs ∧ tt σ2 H2 fun b H3 => if b = true then te σ2 H3 fun v H4 => ∃ acc, H4 D = some (.lst acc) ∧ acc.length < sizeLine ∧ ∃ acc2, S (i + 1) acc2 (upd H4 D (.lst (acc ++ [v]))) else ∃ acc2, S (i + 1) acc2 H3) ∧
      ∀ acc H', S n acc H' → Q (.ref D) H') : tLc (iRng1 (tCons te0 tNil)) g tt te vs σ H Q := by
  refine h0 _ fun H1 e1 => ⟨(n : Int), rfl, by omega, by omega, fun D hD => ?_⟩
  rw [Int.toNat_natCast]
  obtain ⟨S, s0, st, sd⟩ := h H1 D e1 hD
  refine ⟨fun i m H' => m = n - i ∧ i ≤ n ∧ ∃ acc, S i acc H', ⟨_, rfl, Nat.zero_le _, [], s0⟩, ?_⟩
  rintro i m H' ⟨rfl, hile, acc, hs⟩
  by_cases hlt : i < n
  · refine .inr ⟨hlt, fun H'' => ∃ acc, S (i + 1) acc H'', fun H'' z => ⟨_, by omega, rfl, hlt, z⟩, fun x H'' y => ?_⟩
    obtain ⟨rfl, rfl⟩ := y
    rw [Int.zero_add]
    exact st i acc _ hlt hs
  · have hi2 : i = n := by omega
    subst hi2
    exact .inl ⟨Nat.le_refl _, sd acc H' hs⟩
end
section
variable {P : Program} {w : World} {K : Fg} {mg : Str → Option Value} {base : Heap}
theorem law_saying_ok (T : Tx K w mg) (D : Dfn K mg "_law_saying" s_law_saying) (c_law_draw : Cal P w K mg base 1 "_law_draw" (spDraw K)) : ∀ m, Cal P w K mg base (m + 1) "_law_saying" (spSay K m)
  | 0 => cal_no (N := n_law_saying) (ps := p_law_saying) D (fun _ _ _ _ _ _ us hl => match us, hl with | [_, _, _], _ => rfl) fun vs H Q E h => by
    obtain ⟨_, _, _, _, _, _, _, _, _, _, _, _, _, h, _⟩ := h
    omega
  | m + 1 => by
    have c_law_saying := law_saying_ok T D c_law_draw m
    refine cal_of D sc_law_saying (fun _ _ _ _ _ _ us hl => match us, hl with | [_, _, _], _ => rfl) (fun vs H Q E h => by obtain ⟨_, _, _, _, _, _, rfl, _⟩ := h; rfl) fun fa cdv A outer s H vs Q E hr h => ?_
    refine ⟨_, (pss_cons (ps_asg (pe_op op_sub (pe_ix (show IxR _ (rIxL K) from ix_list) (pv 1) pe_int (fun _ _ => rfl)) pe_int) (pg_sub (pv 1) pe_int set_list))
        (pss_cons (ps_set (i := 3) sc_law_saying.nd rfl (Or.inl rfl) (pc_ c_law_draw hr (by omega) (pa_cons (pv 0) (pa_cons pe_int pa_nil))))
        (pss_cons (ps_if (PW.pt (pw_or (pt_cmpR op_lt (pv 3) pe_int (nomark _)) (pw_or1 (pt_cmpR op_lt (pe_ix (show IxR _ (rIxL K) from ix_list) (pv 1) pe_int (fun _ _ => rfl)) pe_int (nomark _))))) (pss_one (ps_ret (pe_tup (pa_cons pe_str (pa_cons (pe_ix (show IxR _ (rIxL K) from ix_list) (pe_lst (pa_cons pe_str (pa_cons pe_str (pa_cons pe_str pa_nil)))) (pc_ c_law_draw hr (by omega) (pa_cons (pv 0) (pa_cons pe_int pa_nil))) (fun _ _ => rfl)) pa_nil))))) pss_nil)
        (pss_cons (ps_if (pt_cmpR (show OpR _ _ (rIn K false) from op_in_seq) (pv 3) (pe_tup (pa_cons pe_int (pa_cons pe_int pa_nil))) (by rfl)) (pss_one (ps_ret (pe_tup (pa_cons pe_str (pa_cons (pc_ c_law_saying hr (by omega) (pa_cons (pv 0) (pa_cons (pv 1) (pa_cons (pv 2) pa_nil)))) pa_nil))))) pss_nil)
        (pss_cons (ps_if (pt_cmpR op_lt (pv 3) pe_int (nomark _)) (pss_cons (ps_set (i := 4) sc_law_saying.nd rfl (Or.inl rfl) (pe_ix (show IxR _ (rIxL K) from ix_list) (pe_lst (pa_cons pe_int (pa_cons pe_int (pa_cons pe_int (pa_cons pe_int (pa_cons pe_int pa_nil)))))) (pc_ c_law_draw hr (by omega) (pa_cons (pv 0) (pa_cons pe_int pa_nil))) (fun _ _ => rfl)))
        (pss_cons (ps_setLc (i := 5) (own := [("_law_k", 7)]) (g := gName 7) rfl sc_law_saying.nd rfl rfl (sw_true rfl rfl rfl (by decide +kernel)) (pi_range1 rfl T.range_ (pa_cons (pv 4) pa_nil)) (blkOk_by (N := n_law_saying) (sc := defScope s_law_saying) (own := [("_law_k", 7)]) (by decide +kernel)) (fun _ _ _ _ _ => (pg_name (i := 7) sc_law_saying.nd rfl (Or.inl rfl))) (fun _ _ _ _ _ => (pts_one (pt_cmpR op_gt (pe_ix (show IxR _ (rIxL K) from ix_list) (pv 1) pe_int (fun _ _ => rfl)) pe_int (nomark _)))) (fun _ _ _ _ _ => (pc_ c_law_saying hr (by omega) (pa_cons (pv 0) (pa_cons (pv 1) (pa_cons (pv 2) pa_nil))))))
        (pss_one (ps_ret (pe_tup (pa_cons (pe_ix (show IxR _ (rIxL K) from ix_list) (pe_lst (pa_cons pe_str (pa_cons pe_str pa_nil))) (pe_op op_mod (pv 3) pe_int) (fun _ _ => rfl)) (pa_cons (pe_callTy call_tuple_of rfl T.tuple_ (by decide +kernel) (pa_cons (pv 5) pa_nil)) pa_nil))))))) pss_nil)
        (pss_cons (ps_if (PW.pt (pw_or (pt_cmpR (show OpR _ _ (rIn K false) from op_in_seq) (pv 3) (pe_tup (pa_cons pe_int (pa_cons pe_int pa_nil))) (by rfl)) (pw_or1 (PW.pt (pw_and (pt_cmpR op_eq (pv 3) pe_int (nomark _)) (pw_and1 (pt_not (pt_val (pv 2))))))))) (pss_one (ps_ret (pe_tup (pa_cons pe_str (pa_cons (pc_ c_law_saying hr (by omega) (pa_cons (pv 0) (pa_cons (pv 1) (pa_cons (pv 2) pa_nil)))) (pa_cons (pc_ c_law_saying hr (by omega) (pa_cons (pv 0) (pa_cons (pv 1) (pa_cons (pv 2) pa_nil)))) pa_nil)))))) pss_nil)
        (pss_cons (ps_if (pt_cmpR op_eq (pv 3) pe_int (nomark _)) (pss_one (ps_ret (pe_tup (pa_cons pe_str (pa_cons (pc_ c_law_saying hr (by omega) (pa_cons (pv 0) (pa_cons (pv 1) (pa_cons (pv 2) pa_nil)))) (pa_cons (pc_ c_law_saying hr (by omega) (pa_cons (pv 0) (pa_cons (pv 1) (pa_cons (pv 2) pa_nil)))) pa_nil)))))) pss_nil)
        (pss_cons (ps_set (i := 6) sc_law_saying.nd rfl (Or.inl rfl) (pe_ix (show IxR _ (rIxL K) from ix_list) (pe_lst (pa_cons pe_str (pa_cons pe_str pa_nil))) (pc_ c_law_draw hr (by omega) (pa_cons (pv 0) (pa_cons pe_int pa_nil))) (fun _ _ => rfl)))
        (pss_one (ps_ret (pe_tup (pa_cons (pe_ix (show IxR _ (rIxL K) from ix_list) (pe_lst (pa_cons pe_str (pa_cons pe_str pa_nil))) (pe_op op_mod (pv 3) pe_int) (fun _ _ => rfl)) (pa_cons (pv 6) (pa_cons (pc_ c_law_saying hr (by omega) (pa_cons (pv 0) (pa_cons (pv 1) (pa_cons (pv 2) pa_nil)))) pa_nil)))))))))))))), ?_⟩
    obtain ⟨F, p, q, n, L, told, rfl, pF, hFp, hFq, hne, hf, hq, hL, hn, k⟩ := h
    -- one less is left
    have lq : ∀ {H' : Hp} {x : Int}, H' q = some (.lst [.int x]) → Dp K H' (.ref q) (.list [.int x]) := fun h => .lst (sq_of h) (.cons (.int _) .nil)
    refine ev0 (evd_I0 (d := .int (L - 1)) (evd_ixL (i := 0) (evd_var rfl (lq hq)) evd_int rfl) evd_int fun _ => .int _) fun v H1 e1 hv => ?_
    obtain rfl := of_dp_int hv
    refine ⟨_, rfl, q, _, 0, 0, rfl, rfl, e1 _ _ hq, rfl, ?_⟩
    obtain ⟨H2, hH2⟩ : ∃ H2, H2 = upd H1 q (.lst [.int (L - 1)]) := ⟨_, rfl⟩
    have hq2 : H2 q = some (.lst [.int (L - 1)]) := by rw [hH2, upd_same]
    have k2 : Kc p q H H2 := by rw [hH2]; exact (Kc.of e1).trans (Kc.kb2 .upd)
    have hf2 : Fd K F H2 p n := by rw [hH2]; exact (hf.ex e1).kq hFp hFq hne
    have fp : ∀ {F' : Addr → Bool} {H' : Hp} {n'}, Fd K F' H' p n' → H' p ≠ none := fun h => by obtain ⟨_, _, _, _, h, _⟩ := h; rw [h]; exact fun z => nomatch z
    have p2 : Prv F H2 := k2.prv pF (fp hf2) (some_ne hq2)
    dsimp only [tSeq]
    change tAsg _ _ _ _ (upd H1 q (.lst [.int (L - 1)]))
    rw [← hH2]
    -- which way
    refine draw_call (F := F) (n := n) (m := 14) rfl p2 hFp hf2 (by omega) (by decide) (by decide) fun way H3 kb3 hf3 hway => ?_
    have k3 : Kc p q H H3 := k2.trans (Kc.kb1 kb3)
    have hq3 : H3 q = some (.lst [.int (L - 1)]) := kb3 _ _ (Ne.symm hne) hq2
    have p3 : Prv F H3 := k3.prv pF (fp hf3) (some_ne hq3)
    obtain ⟨L1, hL1⟩ : ∃ L1, L1 = L - 1 := ⟨_, rfl⟩
    rw [← hL1] at hq3
    have fin : ∀ {s : Sy} {L' : Int} {n' : Nat} {H' : Hp} {vs : List V} {ds : List PyData}, Kc p q H H' → Fd K F H' p n' → H' q = some (.lst [.int L']) → gd s = true → (told = false → plain s = true) → cm s + L'.toNat ≤ L1.toNat → n' ≤ n + 2 * nd s → DpAll K (del H' F) vs ds → enc s = .tuple ds → vs.length ≤ 100 →
        (vs.length ≤ sizeLine ∧ ∀ t, H' t = none → Q (.ref t) (upd H' t (.tup vs))) := fun {s L' n' H' vs ds} a1 a2 a3 a4 a5 a6 a7 a8 a9 a10 => ⟨sz_of (by omega), fun t ht => by
      have pH := a1.prv pF (fp a2) (some_ne a3)
      refine k s L' n' _ _ (a1.trans (Kc.of (Ex.new ht))) (a2.ex (Ex.new ht)) (Ex.new ht _ _ a3) a4 a5 (by rw [← hL1]; exact a6) a7 ?_
      rw [a9]
      exact new_tup pH ht a8⟩
    have sub : ∀ {σ : L2.St} {H' : Hp} {n' : Nat} {L' : Int} {Q' : VK} {F' : Addr → Bool}, σ[0]? = some (some (.ref p)) → σ[1]? = some (some (.ref q)) → σ[2]? = some (some (.bl told)) → Prv F' H' → F' p = true → F' q = true → Fd K F' H' p n' → H' q = some (.lst [.int L']) → L'.toNat + 1 ≤ m → n' + 8 * (L'.toNat + 1) ≤ 100000 →
        (∀ (s : Sy) (L2 : Int) (n2 : Nat) (v : V) (H2 : Hp), Kc p q H' H2 → Fd K F' H2 p n2 → H2 q = some (.lst [.int L2]) → gd s = true → (told = false → plain s = true) → cm s + L2.toNat ≤ (L' - 1).toNat → n2 ≤ n' + 2 * nd s → Dp K (del H2 F') v (enc s) → Q' v H2) →
        tCall (spSay K m) [] E0 (tCons (tVar 0) (tCons (tVar 1) (tCons (tVar 2) tNil))) σ H' Q' := fun s0 s1 s2 a1 a2 a3 a4 a5 a6 a7 a8 => ⟨_, s0, _, s1, _, s2, _, p, q, _, _, told, rfl, a1, a2, a3, hne, a4, a5, a6, a7, a8⟩
    have ew : ∀ {H' : Hp} {z : Option V}, EvD K (tVar 3) [some (.ref p), some (.ref q), some (.bl told), some (.int (way : Int)), none, none, z, none] H' (.int (way : Int)) := evd_var (v := .int (way : Int)) rfl (.int _)
    dsimp only [gName]
    refine eb0 (b := decide ((way : Int) < 3) || decide (L1 < 1)) (eb_or (et_d (K := K) (evd_I0 ew evd_int fun _ => .bl _)) fun _ => et_d (evd_I0 (evd_ixL (i := 0) (evd_var rfl (lq hq3)) evd_int rfl) evd_int fun _ => .bl _)) fun H4 e4 => ?_
    have k4 := k3.trans (Kc.of e4)
    have hf4 := hf3.ex e4
    have hq4 := e4 _ _ hq3
    have p4 : Prv F H4 := k4.prv pF (fp hf4) (some_ne hq4)
    cases hc1 : (decide ((way : Int) < 3) || decide (L1 < 1)) with
    | true =>
      rw [if_pos rfl]
      refine pick_raw (n := n + 1) (m := 3) (xs := [.str "a", .str "b", .str "p"]) (fun σ H Q h => h) rfl rfl p4 hFp hf4 (by omega) (by decide) (by decide) fun r v H5 kb5 hf5 hv => ?_
      obtain ⟨c, rfl, hc⟩ : ∃ c : Nat, v = .str (sg c) ∧ lowc c = true := by
        have : r = 0 ∨ r = 1 ∨ r = 2 := by
          have := (List.getElem?_eq_some_iff.mp hv).1
          simp at this; omega
        rcases this with rfl | rfl | rfl <;> cases hv
        · exact ⟨97, by kernel_rfl, by decide⟩
        · exact ⟨98, by kernel_rfl, by decide⟩
        · exact ⟨112, by kernel_rfl, by decide⟩
      exact fin (s := .lt c) (k4.trans (Kc.kb1 kb5)) hf5 (kb5 _ _ (Ne.symm hne) hq4) (by rw [gd]; exact hc) (fun _ => rfl) (by simp [cm]) (by rw [nd]; omega) (.cons (.str _) (.cons (.str _) .nil)) rfl (by simp)
    | false =>
      have hL1p : 1 ≤ L1 := by
        rw [Bool.or_eq_false_iff, decide_eq_false_iff_not, decide_eq_false_iff_not] at hc1
        omega
      rw [if_neg (by decide)]
      dsimp only [tNext, tSeq]
      refine eb0 (et_d (evd_inI (neg := false) (ss := [3, 4]) ew (evd_tup (evds_cons evd_int (evds_cons evd_int evds_nil))) rfl)) fun H5 e5 => ?_
      have k5 := k4.trans (Kc.of e5)
      have hf5 := hf4.ex e5
      have hq5 := e5 _ _ hq4
      have p5 : Prv F H5 := k5.prv pF (fp hf5) (some_ne hq5)
      rw [if_neg (show ¬ (false = true) by decide)]
      cases hc2 : decide ((way : Int) ∈ ([3, 4] : List Int)) with
      | true =>
        rw [if_pos rfl]
        refine sub rfl rfl rfl p5 hFp hFq hf5 hq5 (by omega) (by omega) fun s L2 n2 v H6 a1 a2 a3 a4 a5 a6 a7 a8 => ?_
        exact fin (s := .nt s) (k5.trans a1) a2 a3 (by rw [gd]; exact a4) (fun h => by rw [plain]; exact a5 h) (by rw [cm]; omega) (by rw [nd]; omega) (.cons (.str _) (.cons a8 .nil)) rfl (by simp)
      | false =>
        rw [if_neg (by decide)]
        refine eb0 (b := decide ((way : Int) < 8)) (et_d (K := K) (evd_I0 ew evd_int fun _ => .bl _)) fun H6 e6 => ?_
        have k6 := k5.trans (Kc.of e6)
        have hf6 := hf5.ex e6
        have hq6 := e6 _ _ hq5
        have p6 : Prv F H6 := k6.prv pF (fp hf6) (some_ne hq6)
        cases hc3 : decide ((way : Int) < 8) with
        | true =>
          rw [if_pos rfl]
          dsimp only [tAsg, gName]
          refine pick_raw (n := n + 1) (m := 5) (xs := [.int 2, .int 1, .int 3, .int 2, .int 0]) (fun σ H Q h => h) rfl rfl p6 hFp hf6 (by omega) (by decide) (by decide) fun r v H7 kb7 hf7 hv => ?_
          obtain ⟨cnt, rfl, hcnt⟩ : ∃ c : Nat, v = .int (c : Int) ∧ c ≤ 3 := by
            have : r = 0 ∨ r = 1 ∨ r = 2 ∨ r = 3 ∨ r = 4 := by
              have := (List.getElem?_eq_some_iff.mp hv).1
              simp at this; omega
            rcases this with rfl | rfl | rfl | rfl | rfl <;> cases hv
            · exact ⟨2, rfl, by decide⟩
            · exact ⟨1, rfl, by decide⟩
            · exact ⟨3, rfl, by decide⟩
            · exact ⟨2, rfl, by decide⟩
            · exact ⟨0, rfl, by decide⟩
          have k7 := k6.trans (Kc.kb1 (q := q) kb7)
          have hq7 := kb7 _ _ (Ne.symm hne) hq6
          have p7 : Prv F H7 := k7.prv pF (fp hf7) (some_ne hq7)
          dsimp only [gName, tAsg, tSeq]
          refine lc_rng cnt (by omega) (fun Q h => ⟨_, rfl, h _ (Ex.refl _)⟩) fun H8 Dl e8 hD => ?_
          have k8 := k7.trans (Kc.of e8)
          have hf8 := hf7.ex e8
          have hq8 := e8 _ _ hq7
          have p8 : Prv F H8 := k8.prv pF (fp hf8) (some_ne hq8)
          have hDp : Dl ≠ p := fun z => by subst z; exact fp hf8 hD
          have hDq : Dl ≠ q := fun z => by subst z; rw [hq8] at hD; cases hD
          let F1 := add F Dl
          have F1p : F1 p = true := by show (F p || _) = true; rw [hFp]; rfl
          have F1q : F1 q = true := by show (F q || _) = true; rw [hFq]; rfl
          refine ⟨fun i acc H' => H' Dl = some (.lst acc) ∧ Prv F1 H' ∧ Kc p q H8 H' ∧ ∃ (ss : List Sy) (L' : Int) (n' : Nat), ss.length ≤ i ∧ DpAll K (del H' F1) acc (encL ss) ∧ Fd K F1 H' p n' ∧ H' q = some (.lst [.int L']) ∧ gdL ss = true ∧ (told = false → plainL ss = true) ∧ ((ss = [] ∧ L' = L1) ∨ cmL ss + L'.toNat ≤ (L1 - 1).toNat) ∧ n' ≤ n + 2 + 2 * ndL ss,
            ⟨upd_same, (p8.mono (Ex.new hD)).add (some_ne upd_same), Kc.of (Ex.new hD), [], L1, _, Nat.le_refl _, .nil, hf8.new hD, Ex.new hD _ _ hq8, rfl, fun _ => rfl, .inl ⟨rfl, rfl⟩, by rw [ndL]; omega⟩, ?_, ?_⟩
          · rintro i acc H' hi ⟨s1, s2, s3, ss, L', n', g1, g2, g3, g4, g5, g6, g7, g8⟩
            have hacc : acc.length ≤ 3 := by have := dpa_len g2; rw [encL_map, List.length_map] at this; omega
            refine ⟨rfl, eb0 (b := decide (0 < L')) (et_d (evd_I0 (evd_ixL (i := 0) (evd_var rfl (lq g4)) evd_int rfl) evd_int fun _ => .bl _)) fun H9 e9 => ?_⟩
            have hcmL := ndL_cm ss g5
            cases hpos : decide (0 < L') with
            | true =>
              have hpos := of_decide_eq_true hpos
              rw [if_pos rfl]
              refine sub rfl rfl rfl (s2.mono e9) F1p F1q (g3.ex e9) (e9 _ _ g4) (by rcases g7 with ⟨_, rfl⟩ | g7 <;> omega) ?_ fun s L2 n2 v H10 a1 a2 a3 a4 a5 a6 a7 a8 => ?_
              · rcases g7 with ⟨rfl, rfl⟩ | g7
                · simp only [ndL] at g8; omega
                · omega
              · have hD9 : H9 Dl = some (.lst acc) := e9 _ _ s1
                have hD10 : H10 Dl = some (.lst acc) := a1 _ _ hDp hDq hD9
                have p10 : Prv F1 H10 := a1.prv (s2.mono e9) (fp a2) (some_ne a3)
                have pub : Ex (del H' F1) (del H10 F1) := (del_ex e9).trans (a1.del F1p F1q)
                refine ⟨acc, hD10, sz_lt (by omega), acc ++ [v], upd_same, prv_upd p10, fun b o n1 n2 hb => ?_, ss ++ [s], L2, n2, by rw [List.length_append, List.length_singleton]; omega, ?_, ?_, by rw [upd_ne (Ne.symm hDq)]; exact a3, by rw [gdL_snoc, g5, a4]; rfl, fun h => ?_, ?_, ?_⟩
                · rw [upd_ne (ne_of_none hb hD)]
                  exact a1 b o n1 n2 (e9 b o (s3 b o n1 n2 hb))
                · rw [del_upd add_self, encL_map, List.map_append, ← encL_map]
                  exact dpa_app (pub.dps g2) (.cons a8 .nil)
                · exact a2.kq F1p add_self (Ne.symm hDp)
                · rw [plainL_all, List.all_append, ← plainL_all, g6 h]
                  simp [a5 h]
                · right
                  rw [cmL_snoc]
                  rcases g7 with ⟨rfl, rfl⟩ | g7
                  · simp only [cmL]; omega
                  · omega
                · rw [ndL_snoc]; omega
            | false =>
              rw [if_neg (by decide)]
              exact ⟨acc, e9 _ _ s1, s2.mono e9, s3.trans (Kc.of e9), ss, L', n', by omega, (del_ex e9).dps g2, g3.ex e9, e9 _ _ g4, g5, g6, g7, g8⟩
          · rintro acc H' ⟨s1, s2, s3, ss, L', n', g1, g2, g3, g4, g5, g6, g7, g8⟩
            have k9 := k8.trans s3
            have hfF : Fd K F H' p n' := g3.le del_add_le
            have p9 : Prv F H' := k9.prv pF (fp hfF) (some_ne g4)
            have hlist : Dp K (del H' F) (.ref Dl) (.list (encL ss)) := .lst (sq_of (del_at (p8.no hD) s1)) (del_add_le.dps g2)
            have word : EvD K (tOp (rIxL K) (tLst (tCons (tC (.str "and")) (tCons (tC (.str "or")) tNil))) (tOp (rI (fun _ j => 0 < j) fun i j => .int (i % j)) (tVar 3) (tC (.int 2)))) [some (.ref p), some (.ref q), some (.bl told), some (.int (way : Int)), some (.int (cnt : Int)), some (.ref Dl), none, none] (del H' F) (.str (hdw (.jn (decide (way % 2 = 0)) ss))) := by
              refine evd_ixL (i := way % 2) (evd_lst (evds_cons evd_str (evds_cons evd_str evds_nil))) (evd_I (C := fun _ j => 0 < j) (d := .int ((way % 2 : Nat) : Int)) (evd_var (v := .int (way : Int)) rfl (.int _)) evd_int (by decide) fun _ => by rw [show (way : Int) % 2 = ((way % 2 : Nat) : Int) by omega]; exact .int _) ?_
              rcases Nat.mod_two_eq_zero_or_one way with z | z <;> rw [z] <;> rfl
            refine word F H' p9 (Ex.refl _) _ fun v1 H10 e10 hv1 => ?_
            have tup := evd_tupL (K := K) (σ := [some (.ref p), some (.ref q), some (.bl told), some (.int (way : Int)), some (.int (cnt : Int)), some (.ref Dl), none, none]) (H := del H10 F) (ta := tVar 5) (evd_var rfl ((del_ex e10).dp hlist))
            refine tup F H10 (p9.mono e10) (Ex.refl _) _ fun v2 H11 e11 hv2 => ?_
            have e12 := e10.trans e11
            refine fin (s := .jn (decide (way % 2 = 0)) ss) (L' := L') (n' := n') (k9.trans (Kc.of e12)) (hfF.ex e12) (e12 _ _ g4) (by rw [gd, g5, Bool.and_true]; exact decide_eq_true (by omega)) (fun h => by rw [plain]; exact g6 h) ?_ (by rw [nd]; omega) (.cons ((del_ex e11).dp hv1) (.cons hv2 .nil)) (by cases decide (way % 2 = 0) <;> rw [enc] <;> rfl) (by simp)
            cases ss with
            | nil =>
              rw [cm]
              rcases g7 with ⟨_, rfl⟩ | g7
              · omega
              · simp only [cmL] at g7; omega
            | cons a r =>
              rcases g7 with ⟨z, _⟩ | g7
              · cases z
              · rw [cm]; rw [cmL] at g7; omega
        | false =>
          rw [if_neg (by decide)]
          have h13 : ∀ {H' : Hp}, EvB (tTest (tOp rEq (tVar 3) (tC (.int 13)))) [some (.ref p), some (.ref q), some (.bl told), some (.int (way : Int)), none, none, none, none] H' (decide ((way : Int) = 13)) := et_d (K := K) (evd_eqI ew evd_int)
          refine eb0 (b := decide ((way : Int) ∈ ([8, 9] : List Int)) || (decide ((way : Int) = 13) && !told)) (eb_or (et_d (evd_inI (neg := false) (ss := [8, 9]) ew (evd_tup (evds_cons evd_int (evds_cons evd_int evds_nil))) rfl)) fun _ => eb_and h13 fun _ => eb_not (et_dB (K := K) (evd_var (v := .bl told) rfl (.bl _)))) fun H7 e7 => ?_
          have k7 := k6.trans (Kc.of e7)
          have hf7 := hf6.ex e7
          have hq7 := e7 _ _ hq6
          have p7 : Prv F H7 := k7.prv pF (fp hf7) (some_ne hq7)
          cases hc4 : (decide ((way : Int) ∈ ([8, 9] : List Int)) || (decide ((way : Int) = 13) && !told)) with
          | true =>
            rw [if_pos rfl]
            refine sub rfl rfl rfl p7 hFp hFq hf7 hq7 (by omega) (by omega) fun s L2 n2 v H8 a1 a2 a3 a4 a5 a6 a7 a8 => ?_
            have hs := nd_cm s a4
            refine sub rfl rfl rfl (a1.prv p7 (fp a2) (some_ne a3)) hFp hFq a2 a3 (by omega) (by omega) fun t L3 n3 u H9 b1 b2 b3 b4 b5 b6 b7 b8 => ?_
            exact fin (s := .so s t) ((k7.trans a1).trans b1) b2 b3 (by rw [gd, a4, b4]; rfl) (fun h => by rw [plain, a5 h, b5 h]; rfl) (by rw [cm]; omega) (by rw [nd]; omega) (.cons (.str _) (.cons ((b1.del hFp hFq).dp a8) (.cons b8 .nil))) rfl (by simp)
          | false =>
            rw [if_neg (by decide)]
            refine eb0 h13 fun H8 e8 => ?_
            have k8 := k7.trans (Kc.of e8)
            have hf8 := hf7.ex e8
            have hq8 := e8 _ _ hq7
            have p8 : Prv F H8 := k8.prv pF (fp hf8) (some_ne hq8)
            cases hc5 : decide ((way : Int) = 13) with
            | true =>
              have htold : told = true := by
                rw [hc5, Bool.or_eq_false_iff] at hc4
                cases told
                · exact absurd hc4.2 (by decide)
                · rfl
              rw [if_pos rfl]
              refine sub rfl rfl rfl p8 hFp hFq hf8 hq8 (by omega) (by omega) fun s L2 n2 v H9 a1 a2 a3 a4 a5 a6 a7 a8 => ?_
              have hs := nd_cm s a4
              refine sub rfl rfl rfl (a1.prv p8 (fp a2) (some_ne a3)) hFp hFq a2 a3 (by omega) (by omega) fun t L3 n3 u H10 b1 b2 b3 b4 b5 b6 b7 b8 => ?_
              exact fin (s := .td s t) ((k8.trans a1).trans b1) b2 b3 (by rw [gd, a4, b4]; rfl) (fun h => by rw [htold] at h; cases h) (by rw [cm]; omega) (by rw [nd]; omega) (.cons (.str _) (.cons ((b1.del hFp hFq).dp a8) (.cons b8 .nil))) rfl (by simp)
            | false =>
              rw [if_neg (by decide)]
              dsimp only [tAsg, gName]
              refine pick_raw (n := n + 1) (m := 2) (xs := [.str "h", .str "k"]) (fun σ H Q h => h) rfl rfl p8 hFp hf8 (by omega) (by decide) (by decide) fun r v H9 kb9 hf9 hv => ?_
              obtain ⟨c, rfl, hc⟩ : ∃ c : Nat, v = .str (sg c) ∧ lowc c = true := by
                have : r = 0 ∨ r = 1 := by
                  have := (List.getElem?_eq_some_iff.mp hv).1
                  simp at this; omega
                rcases this with rfl | rfl <;> cases hv
                · exact ⟨104, by kernel_rfl, by decide⟩
                · exact ⟨107, by kernel_rfl, by decide⟩
              have k9 := k8.trans (Kc.kb1 (q := q) kb9)
              have hq9 := kb9 _ _ (Ne.symm hne) hq8
              have p9 : Prv F H9 := k9.prv pF (fp hf9) (some_ne hq9)
              have word : EvD K (tOp (rIxL K) (tLst (tCons (tC (.str "must")) (tCons (tC (.str "may")) tNil))) (tOp (rI (fun _ j => 0 < j) fun i j => .int (i % j)) (tVar 3) (tC (.int 2)))) [some (.ref p), some (.ref q), some (.bl told), some (.int (way : Int)), none, none, some (.str (sg c)), none] H9 (.str (if way % 2 = 0 then "must" else "may")) := by
                refine evd_ixL (i := way % 2) (evd_lst (evds_cons evd_str (evds_cons evd_str evds_nil))) (evd_I (C := fun _ j => 0 < j) (d := .int ((way % 2 : Nat) : Int)) ew evd_int (by decide) fun _ => by rw [show (way : Int) % 2 = ((way % 2 : Nat) : Int) by omega]; exact .int _) ?_
                rcases Nat.mod_two_eq_zero_or_one way with z | z <;> rw [z] <;> rfl
              refine ev0 word fun v1 H10 e10 hv1 => ?_
              obtain rfl := of_dp_str hv1
              have k10 := k9.trans (Kc.of e10)
              have hf10 := hf9.ex e10
              have hq10 := e10 _ _ hq9
              have p10 : Prv F H10 := k10.prv pF (fp hf10) (some_ne hq10)
              refine ⟨_, rfl, ?_⟩
              refine sub rfl rfl rfl p10 hFp hFq hf10 hq10 (by omega) (by omega) fun s L2 n2 v H11 a1 a2 a3 a4 a5 a6 a7 a8 => ?_
              refine fin (s := .md (decide (way % 2 = 0)) c s) (k10.trans a1) a2 a3 (by rw [gd, hc, a4]; rfl) (fun h => by rw [plain]; exact a5 h) (by rw [cm]; omega) (by rw [nd]; omega) (.cons (.str _) (.cons (.str _) (.cons a8 .nil))) ?_ (by simp)
              rcases Nat.mod_two_eq_zero_or_one way with z | z <;> simp [z, enc]
end
end Kx
/-! ## KW_Web -/
set_option Elab.async false
set_option linter.all false
set_option maxRecDepth 100000
set_option maxHeartbeats 2000000
/-! The law's feed, the law's webs. -/
namespace Kx
open PySem PySem.Spec PyProof.Rows L2 Evl
def spFeed (K : Fg) : Sp := fun vs H Q _ => ∃ F a ns, vs = [.ref a] ∧ Prv F H ∧ Dp K (del H F) (.ref a) (.list ((ns : List Int).map PyData.int)) ∧ ns.length ≤ 100 ∧ ∀ p H2, H p = none → Ex H H2 → Fd K (add F p) H2 p 0 → Q (.ref p) H2
def spWeb (K : Fg) : Sp := fun vs H Q _ => ∃ F p n, vs = [.ref p] ∧ Prv F H ∧ F p = true ∧ Fd K F H p n ∧ n ≤ 50000 ∧ ∀ W n' v H2, Kb p H H2 → Fd K F H2 p n' → n' ≤ n + 60 → WOk W → 1 ≤ W.many → W.many ≤ 4 → WbF K (del H2 F) v W → Q v H2
section
variable {P : Program} {w : World} {K : Fg} {mg : Str → Option Value} {base : Heap}
theorem law_feed_ok (D : Dfn K mg "_law_feed" s_law_feed) : Cal P w K mg base 1 "_law_feed" (spFeed K) := by
  refine cal_of D sc_law_feed (fun _ _ _ _ _ _ us hl => match us, hl with | [_], _ => rfl) (fun vs H Q E h => by obtain ⟨_, _, _, rfl, _⟩ := h; rfl) fun fa cdv A outer s H vs Q E hr h => ?_
  refine ⟨_, (pss_one (ps_ret (pe_lst (pa_cons (pe_slice sl_list (pv 0) po_none (po_some pe_int)) (pa_cons pe_int (pa_cons pe_int (pa_cons pe_int pa_nil))))))), ?_⟩
  obtain ⟨F, a, ns, rfl, pF, ha, hl, q⟩ := h
  obtain ⟨a', xs, e, hs, hxs⟩ := of_dp_lst ha
  cases e
  obtain rfl := of_dpa_ints ns hxs
  refine ⟨_, rfl, ⟨63, rfl, a, _, rfl, ex_l del_le hs, fun c hc => ?_⟩⟩
  have hcut : ∃ cs : List Int, cutV (ns.map V.int) none (some 63) = cs.map V.int ∧ cs.length ≤ 100 := by
    refine ⟨(ns.drop (HT.sIx (ns.map V.int).length 0 none)).take (HT.sIx (ns.map V.int).length (ns.map V.int).length (some 63) - HT.sIx (ns.map V.int).length 0 none), ?_, ?_⟩
    · unfold cutV; rw [List.map_take, List.map_drop]
    · rw [List.length_take, List.length_drop]; omega
  obtain ⟨cs, hcs, hcl⟩ := hcut
  rw [hcs]
  refine ⟨by show 4 ≤ sizeLine; decide, fun p hp => ?_⟩
  have e1 : Ex H (upd H c (.lst (cs.map V.int))) := Ex.new hc
  have hp0 : H p = none := fresh_back e1 hp
  refine q p _ hp0 (e1.trans (Ex.new hp)) ⟨c, cs, 0, 0, upd_same, ?_, by decide, Nat.le_refl _, hcl⟩
  have hcp : c ≠ p := fun z => by subst z; rw [upd_same] at hp; cases hp
  refine .lst (sq_of (del_at (add_ne (pF.no hc) hcp) ?_)) (dpa_ints cs)
  rw [upd_ne hcp, upd_same]
theorem evd_int1 {σ : L2.St} {H : Hp} {te : TE} {b : Bool} (h : EvD K te σ H (.bool b)) : EvD K (tCB (fun xs H Q => (∃ i, xs = [.int i] ∧ Q (.int i) H) ∨ ∃ k, xs = [.bl k] ∧ Q (.int (if k then 1 else 0)) H) (tCons te tNil)) σ H (.int (((if b then 1 else 0 : Nat)) : Int)) := fun F H1 p a Q k =>
  h F H1 p a _ fun v H2 c hv => by
    obtain rfl := of_dp_bl hv
    refine .inr ⟨b, rfl, ?_⟩
    cases b
    · exact k _ H2 c (.int _)
    · exact k _ H2 c (.int _)
/-- one letter's worlds or one hand's steps more, if there are any -/
abbrev one' {α : Type} (h : Nat) (ps : List α) : List (Nat × List α) := if ps.isEmpty then [] else [(h, ps)]
theorem one_mem {α : Type} {h : Nat} {ps : List α} {s : Nat × List α} (m : s ∈ one' h ps) : s = (h, ps) := by
  unfold one' at m
  split at m
  · cases m
  · simpa using m
/-- those k below N at which a draw gives nought -/
theorem draw_comp {σ : L2.St} {H : Hp} {Q : VK} {F : Addr → Bool} {p : Addr} {N m n' : Nat} {h : Nat → PyData} {te0 te : TE} (h0 : ∀ Q : VK, (∀ H1, Ex H H1 → Q (.int (N : Int)) H1) → te0 σ H Q) (s0 : σ[0]? = some (some (.ref p))) (sl : σ.length = 9) (pF : Prv F H) (hFp : F p = true) (hf : Fd K F H p n')
    (hN : N ≤ 100) (hn : n' + N ≤ 100000) (hm : 0 < m) (hm2 : m ≤ 100) (ht : ∀ (i : Nat) H', i < N → EvD K te ((wipe σ [8]).set 8 (some (.int (i : Int)))) H' (h i))
    (k : ∀ (D : Addr) (H2 : Hp) (as : List Nat) (n2 : Nat), Kb p H H2 → Fd K F H2 p n2 → n2 ≤ n' + N → (∀ a, a ∈ as → a < N) → as.length ≤ N → Dp K (del H2 F) (.ref D) (.list (as.map h)) → Q (.ref D) H2) :
    tLc (iRng1 (tCons te0 tNil)) (gName 8) (tTest (tOp rEq (tCall (spDraw K) [] E0 (tCons (tVar 0) (tCons (tC (.int (m : Int))) tNil))) (tC (.int 0)))) te [8] σ H Q := by
  have fp : ∀ {F' : Addr → Bool} {H' : Hp} {n'}, Fd K F' H' p n' → H' p ≠ none := fun h => by obtain ⟨_, _, _, _, h, _⟩ := h; rw [h]; exact fun z => nomatch z
  refine lc_rng N (by omega) h0 fun H1 D e1 hD => ?_
  have hf1 := hf.ex e1
  have p1 := pF.mono e1
  have hDp : D ≠ p := fun z => by subst z; exact fp hf1 hD
  let F1 := add F D
  have F1p : F1 p = true := by show (F p || _) = true; rw [hFp]; rfl
  refine ⟨fun i acc H' => H' D = some (.lst acc) ∧ Prv F1 H' ∧ Kb p H1 H' ∧ ∃ (as : List Nat) (n2 : Nat), as.length ≤ i ∧ (∀ a, a ∈ as → a < N) ∧ DpAll K (del H' F1) acc (as.map h) ∧ Fd K F1 H' p n2 ∧ n2 ≤ n' + i,
    ⟨upd_same, (p1.mono (Ex.new hD)).add (some_ne upd_same), .of (Ex.new hD), [], _, Nat.le_refl _, (fun a z => nomatch z), .nil, hf1.new hD, Nat.le_refl _⟩, ?_, ?_⟩
  · rintro i acc H' hi ⟨a1, a2, a3, as, n2, a4, a5, a6, a7, a8⟩
    have hacc : acc.length ≤ N := by have := dpa_len a6; rw [List.length_map] at this; omega
    refine ⟨by simp [wipe], ?_⟩
    refine draw_call (F := F1) (n := n2) (by simp [wipe, s0]) a2 F1p a7 (by omega) hm hm2 fun r H2 kb hf2 hr => ?_
    have p2 : Prv F1 H2 := kb.prv a2 (fp hf2)
    have hD2 := kb _ _ hDp a1
    refine ⟨rfl, _, rfl, ?_⟩
    cases hb : decide (V.int (r : Int) = V.int 0) with
    | true =>
      rw [if_pos rfl]
      refine ht i (del H2 F1) hi F1 H2 p2 (Ex.refl _) _ fun v H3 e3 hv => ?_
      refine ⟨acc, e3 _ _ hD2, sz_lt (by omega), acc ++ [v], upd_same, prv_upd (p2.mono e3), fun b o n1 hb => ?_, as ++ [i], n2 + 1, by rw [List.length_append, List.length_singleton]; omega, fun a ha => ?_, ?_, ?_, by omega⟩
      · rw [upd_ne (ne_of_none hb hD)]
        exact e3 b o (kb b o n1 (a3 b o n1 hb))
      · rcases List.mem_append.mp ha with ha | ha
        · exact a5 a ha
        · have : a = i := by simpa using ha
          omega
      · rw [del_upd add_self, List.map_append]
        exact dpa_app (((kb.del F1p).trans (del_ex e3)).dps a6) (.cons hv .nil)
      · exact (hf2.ex e3).kq F1p add_self (Ne.symm hDp)
    | false =>
      rw [if_neg (by decide)]
      exact ⟨acc, hD2, p2, a3.trans kb, as, n2 + 1, by omega, a5, (kb.del F1p).dps a6, hf2, by omega⟩
  · rintro acc H' ⟨a1, a2, a3, as, n2, a4, a5, a6, a7, a8⟩
    exact k D H' as n2 ((Kb.of e1).trans a3) (a7.le del_add_le) a8 a5 a4 (.lst (sq_of (del_at (p1.no hD) a1)) (del_add_le.dps a6))
theorem law_web_ok (T : Tx K w mg) (D : Dfn K mg "_law_web" s_law_web) (c_law_draw : Cal P w K mg base 1 "_law_draw" (spDraw K)) : Cal P w K mg base 2 "_law_web" (spWeb K) := by
  refine cal_of (k := 1) D sc_law_web (fun _ _ _ _ _ _ us hl => match us, hl with | [_], _ => rfl) (fun vs H Q E h => by obtain ⟨_, _, _, rfl, _⟩ := h; rfl) fun fa cdv A outer s H vs Q E hr h => ?_
  refine ⟨_, (pss_cons (ps_asg (pe_tup (pa_cons (pe_op op_add pe_int (pc_ c_law_draw hr (by omega) (pa_cons (pv 0) (pa_cons pe_int pa_nil)))) (pa_cons (pe_lst pa_nil) (pa_cons (pe_lst pa_nil) pa_nil)))) (pg_tup rfl (pgs_cons (pg_name (i := 1) sc_law_web.nd rfl (Or.inr rfl)) (pgs_cons (pg_name (i := 2) sc_law_web.nd rfl (Or.inl rfl)) (pgs_cons (pg_name (i := 3) sc_law_web.nd rfl (Or.inl rfl)) pgs_nil)))))
        (pss_cons (ps_for PassesOwn.never rfl (show PI _ _ _ (iTup K _) from pi_tup (pe_tup (pa_cons pe_str (pa_cons pe_str pa_nil)))) (pg_name (i := 4) sc_law_web.nd rfl (Or.inl rfl)) (pss_cons (ps_setLc (i := 5) (own := [("_law_k", 8)]) (g := gName 8) rfl sc_law_web.nd rfl rfl (sw_true rfl rfl rfl (by decide +kernel)) (pi_range1 rfl T.range_ (pa_cons (pe_op op_mul (pv 1) (pv 1)) pa_nil)) (blkOk_by (N := n_law_web) (sc := defScope s_law_web) (own := [("_law_k", 8)]) (by decide +kernel)) (fun _ _ _ _ _ => (pg_name (i := 8) sc_law_web.nd rfl (Or.inl rfl))) (fun _ _ _ _ _ => (pts_one (pt_cmpR op_eq (pc_ c_law_draw hr (by omega) (pa_cons (pv 0) (pa_cons pe_int pa_nil))) pe_int (nomark _)))) (fun _ _ _ _ _ => (pe_tup (pa_cons (pe_op op_fdiv (pv 8) (pv 1)) (pa_cons (pe_op op_mod (pv 8) (pv 1)) pa_nil)))))
        (pss_one (ps_set (i := 2) sc_law_web.nd rfl (Or.inl rfl) (pe_op op_catL (pv 2) (pe_op op_rep (pe_lst (pa_cons (pe_tup (pa_cons (pv 4) (pa_cons (pe_callTy call_tuple_of rfl T.tuple_ (by decide +kernel) (pa_cons (pv 5) pa_nil)) pa_nil))) pa_nil)) (pe_callTy call_int1 rfl T.int_ (by decide +kernel) (pa_cons (pe_cmpR (op_neD hr.units) (pv 5) (pe_lst pa_nil) (nomark _)) pa_nil))))))))
        (pss_cons (ps_for PassesOwn.never rfl (show PI _ _ _ (iTup K _) from pi_tup (pe_tup (pa_cons pe_str (pa_cons pe_str (pa_cons pe_str pa_nil))))) (pg_name (i := 6) sc_law_web.nd rfl (Or.inl rfl)) (pss_cons (ps_setLc (i := 7) (own := [("_law_k", 8)]) (g := gName 8) rfl sc_law_web.nd rfl rfl (sw_true rfl rfl rfl (by decide +kernel)) (pi_range1 rfl T.range_ (pa_cons (pv 1) pa_nil)) (blkOk_by (N := n_law_web) (sc := defScope s_law_web) (own := [("_law_k", 8)]) (by decide +kernel)) (fun _ _ _ _ _ => (pg_name (i := 8) sc_law_web.nd rfl (Or.inl rfl))) (fun _ _ _ _ _ => (pts_one (pt_cmpR op_eq (pc_ c_law_draw hr (by omega) (pa_cons (pv 0) (pa_cons pe_int pa_nil))) pe_int (nomark _)))) (fun _ _ _ _ _ => (pv 8)))
        (pss_one (ps_set (i := 3) sc_law_web.nd rfl (Or.inl rfl) (pe_op op_catL (pv 3) (pe_op op_rep (pe_lst (pa_cons (pe_tup (pa_cons (pv 6) (pa_cons (pe_callTy call_tuple_of rfl T.tuple_ (by decide +kernel) (pa_cons (pv 7) pa_nil)) pa_nil))) pa_nil)) (pe_callTy call_int1 rfl T.int_ (by decide +kernel) (pa_cons (pe_cmpR (op_neD hr.units) (pv 7) (pe_lst pa_nil) (nomark _)) pa_nil))))))))
        (pss_one (ps_ret (pe_tup (pa_cons (pv 1) (pa_cons (pe_callTy call_tuple_frz rfl T.tuple_ (by decide +kernel) (pa_cons (pv 2) pa_nil)) (pa_cons (pe_callTy call_tuple_frz rfl T.tuple_ (by decide +kernel) (pa_cons (pv 3) pa_nil)) pa_nil))))))))), ?_⟩
  obtain ⟨F, p, n, rfl, pF, hFp, hf, hn, q⟩ := h
  have fp : ∀ {F' : Addr → Bool} {H' : Hp} {n'}, Fd K F' H' p n' → H' p ≠ none := fun h => by obtain ⟨_, _, _, _, h, _⟩ := h; rw [h]; exact fun z => nomatch z
  dsimp only [tSeq]
  -- how many worlds
  refine draw_call (F := F) (n := n) (m := 4) rfl pF hFp hf (by omega) (by decide) (by decide) fun r H1 kb1 hf1 hr4 => ?_
  have p1 : Prv F H1 := kb1.prv pF (fp hf1)
  obtain ⟨M, hM⟩ : ∃ M : Nat, M = 1 + r := ⟨_, rfl⟩
  refine ⟨1, (r : Int), rfl, rfl, ?_⟩
  refine ⟨by show (0 : Nat) ≤ sizeLine; omega, fun l1 hl1 => ⟨by show (0 : Nat) ≤ sizeLine; omega, fun l2 hl2 => ⟨by show 3 ≤ sizeLine; decide, fun t ht => ?_⟩⟩⟩
  refine ⟨t, _, rfl, st_of upd_same, rfl, _, _, rfl, _, _, rfl, _, _, rfl, rfl, ?_⟩
  obtain ⟨H2, hH2⟩ : ∃ H2, H2 = upd (upd (upd H1 l1 (.lst [])) l2 (.lst [])) t (.tup [.int (1 + (r : Int)), .ref l1, .ref l2]) := ⟨_, rfl⟩
  have n1 : l1 ≠ l2 := fun z => by subst z; rw [upd_same] at hl2; cases hl2
  have hl2' : H1 l2 = none := fresh_back (Ex.new hl1) hl2
  have ht' : H1 t = none := fresh_back ((Ex.new hl1).trans (Ex.new hl2)) ht
  have e12 : Ex H1 H2 := by rw [hH2]; exact (Ex.new hl1).trans ((Ex.new hl2).trans (Ex.new ht))
  have kb2 : Kb p H H2 := kb1.trans (.of e12)
  have hf2 := hf1.ex e12
  have p2 : Prv F H2 := p1.mono e12
  have d1 : Dp K (del H2 F) (.ref l1) (.list []) := .lst (sq_of (del_at (p1.no hl1) (by rw [hH2]; exact ((Ex.new hl2).trans (Ex.new ht)) _ _ upd_same))) .nil
  have d2 : Dp K (del H2 F) (.ref l2) (.list []) := .lst (sq_of (del_at (p1.no hl2') (by rw [hH2]; exact (Ex.new ht) _ _ upd_same))) .nil
  have hMr : (1 + (r : Int)) = (M : Int) := by omega
  dsimp only [tSeq]
  change tFor _ _ _ _ [some (.ref p), some (.int (1 + (r : Int))), some (.ref l1), some (.ref l2), none, none, none, none, none] (upd (upd (upd H1 l1 (.lst [])) l2 (.lst [])) t (.tup [.int (1 + (r : Int)), .ref l1, .ref l2]))
  rw [hMr] at hH2 ⊢
  have hM1 : 1 ≤ M := by omega
  have hM4 : M ≤ 4 := by omega
  rw [← hH2]
  refine for_d (F := F) (ei_tup (evd_tup (evds_cons evd_str (evds_cons evd_str evds_nil)))) p2 (Ex.refl (del H2 F)) fun H3 e3 => ⟨fun i F' σ H' => F' = F ∧ σ.length = 9 ∧ σ[0]? = some (some (.ref p)) ∧ σ[1]? = some (some (.int (M : Int))) ∧ Kb p H H' ∧ (∃ v3, σ[3]? = some (some v3) ∧ Dp K (del H' F) v3 (.list [])) ∧
      ∃ (n' : Nat) (v2 : V) (ss : List (Nat × List (Nat × Nat))), Fd K F H' p n' ∧ n' ≤ n + 1 + 16 * i ∧ σ[2]? = some (some v2) ∧ Dp K (del H' F) v2 (.list (ss.map stD)) ∧ (ss.map (·.1)).Sublist (([104, 107] : List Nat).take i) ∧ ∀ s, s ∈ ss → s.2.length ≤ 16 ∧ ∀ x, x ∈ s.2 → x.1 < M ∧ x.2 < M,
    ⟨rfl, rfl, rfl, rfl, kb2.trans (.of e3), ⟨_, rfl, (del_ex e3).dp d2⟩, n + 1, _, [], hf2.ex e3, by omega, rfl, (del_ex e3).dp d1, by simp, fun s h => nomatch h⟩, ?_, ?_, ?_⟩
  · rintro i F' σ Ha Hb ex ⟨rfl, a1, a2, a3, a4, ⟨v3, a5, a6⟩, n', v2, ss, b1, b2, b3, b4, b5, b6⟩
    exact ⟨rfl, a1, a2, a3, a4.trans (.of ex), ⟨v3, a5, (del_ex ex).dp a6⟩, n', v2, ss, b1.ex ex, b2, b3, (del_ex ex).dp b4, b5, b6⟩
  · rintro i x σ H' F' d hd ⟨rfl, a1, a2, a3, a4, ⟨v3, a5, a6⟩, n', v2, ss, b1, b2, b3, b4, b5, b6⟩ pF' eF hx
    obtain ⟨hc, hhc, rfl, hlt⟩ : ∃ hc : Nat, ([104, 107] : List Nat)[i]? = some hc ∧ d = .str (sg hc) ∧ i < 2 := by
      have : i = 0 ∨ i = 1 := by
        have := (List.getElem?_eq_some_iff.mp hd).1
        simp at this; omega
      rcases this with rfl | rfl <;> cases hd
      · exact ⟨104, rfl, by kernel_rfl, by decide⟩
      · exact ⟨107, rfl, by kernel_rfl, by decide⟩
    obtain rfl := of_dp_str hx
    dsimp only [tSeq, tAsg, gName]
    have hMM : M * M ≤ 16 := Nat.mul_le_mul hM4 hM4
    refine draw_comp (N := M * M) (n' := n') (m := 3) (h := fun k => prD (k / M, k % M)) (fun Q hQ => ev0 (evd_I (K := K) (C := CMul) (d := .int ((M * M : Nat) : Int)) (evd_var (v := .int (M : Int)) (by rw [List.getElem?_set_ne (by decide)]; exact a3) (.int _)) (evd_var (v := .int (M : Int)) (by rw [List.getElem?_set_ne (by decide)]; exact a3) (.int _)) (.inl ⟨by omega, by omega⟩) fun _ => by rw [Int.natCast_mul]; exact .int _) fun v H5 e5 hv => by obtain rfl := of_dp_int hv; exact hQ H5 e5)
      (by rw [List.getElem?_set_ne (by decide)]; exact a2) (by rw [List.length_set]; exact a1) pF' hFp b1 (by omega) (by omega) (by decide) (by decide) (fun k H5 hk => ?_) fun Dl H5 as n2 c1 c2 c3 c4 c5 c6 => ?_
    · have u1 : ((wipe (σ.set 4 (some (V.str (sg hc)))) [8]).set 8 (some (V.int (k : Int))))[1]? = some (some (.int (M : Int))) := by simp [wipe, a3]
      have u8 : ((wipe (σ.set 4 (some (V.str (sg hc)))) [8]).set 8 (some (V.int (k : Int))))[8]? = some (some (.int (k : Int))) := by simp [wipe, a1]
      refine evd_tup (evds_cons (evd_I (C := CDiv) (evd_var (v := .int (k : Int)) u8 (.int _)) (evd_var (v := .int (M : Int)) u1 (.int _)) ⟨by omega, by omega⟩ fun _ => ?_) (evds_cons (evd_I (C := fun _ j => 0 < j) (evd_var (v := .int (k : Int)) u8 (.int _)) (evd_var (v := .int (M : Int)) u1 (.int _)) (by omega) fun _ => ?_) evds_nil))
      · rw [← Int.natCast_ediv]; exact .int _
      · rw [← Int.natCast_emod]; exact .int _
    · have p5 : Prv F' H5 := c1.prv pF' (fp c2)
      have e5 : Ex (del H' F') (del H5 F') := c1.del hFp
      obtain ⟨ps, hps⟩ : ∃ ps : List (Nat × Nat), ps = as.map fun k => (k / M, k % M) := ⟨_, rfl⟩
      have hpl : Dp K (del H5 F') (.ref Dl) (.list (ps.map prD)) := by rw [hps, List.map_map]; exact c6
      have t2 : ((σ.set 4 (some (V.str (sg hc)))).set 5 (some (V.ref Dl)))[2]? = some (some v2) := by rw [List.getElem?_set_ne (by decide), List.getElem?_set_ne (by decide)]; exact b3
      have t4 : ((σ.set 4 (some (V.str (sg hc)))).set 5 (some (V.ref Dl)))[4]? = some (some (.str (sg hc))) := by rw [List.getElem?_set_ne (by decide)]; exact List.getElem?_set_self (by omega)
      have t5 : ((σ.set 4 (some (V.str (sg hc)))).set 5 (some (V.ref Dl)))[5]? = some (some (.ref Dl)) := List.getElem?_set_self (by rw [List.length_set]; omega)
      have hsl : ss.length ≤ 2 := by
        have := b5.length_le
        rw [List.length_map, List.length_take] at this
        simp at this; omega
      have cmp := evd_neD (K := K) (σ := (σ.set 4 (some (V.str (sg hc)))).set 5 (some (V.ref Dl))) (H := del H5 F') (ta := tVar 5) (tb := tLst tNil) (evd_var t5 hpl) (evd_lst evds_nil) (shp_lst fun d hd => by obtain ⟨x, _, rfl⟩ := List.mem_map.mp hd; exact can_pr x) rfl
      have hfe : PyData.eqv (.list (ps.map prD)) (.list []) = ps.isEmpty := by rw [PyData.eqv, eqv_nil, isE]
      rw [hfe] at cmp
      refine evd_catL (evd_var t2 (e5.dp b4)) (evd_rep1 (n := if (!ps.isEmpty) then 1 else 0) (evd_tup (evds_cons (evd_var t4 (.str _)) (evds_cons (evd_tupL (evd_var t5 hpl)) evds_nil))) (evd_int1 cmp) (by split <;> omega)) (by rw [List.length_map, List.length_replicate]; split <;> omega) F' H5 p5 (Ex.refl _) _ fun v H6 e6 hv => ?_
      have hss : ss.map stD ++ List.replicate (if (!ps.isEmpty) then 1 else 0) (PyData.tuple [.str (sg hc), .tuple (ps.map prD)]) = (ss ++ one' hc ps).map stD := by
        unfold one'
        rw [List.map_append]
        cases ps.isEmpty <;> rfl
      rw [hss] at hv
      refine ⟨F', ⟨rfl, by rw [List.length_set, List.length_set, List.length_set]; exact a1, ?_, ?_, (a4.trans c1).trans (.of e6), ⟨v3, ?_, (e5.trans (del_ex e6)).dp a6⟩, n2, v, ss ++ one' hc ps, c2.ex e6, by omega, List.getElem?_set_self (by rw [List.length_set, List.length_set]; omega), hv, ?_, fun s hs => ?_⟩, p5.mono e6, eF.trans (e5.trans (del_ex e6))⟩
      · rw [List.getElem?_set_ne (by decide), List.getElem?_set_ne (by decide), List.getElem?_set_ne (by decide)]; exact a2
      · rw [List.getElem?_set_ne (by decide), List.getElem?_set_ne (by decide), List.getElem?_set_ne (by decide)]; exact a3
      · rw [List.getElem?_set_ne (by decide), List.getElem?_set_ne (by decide), List.getElem?_set_ne (by decide)]; exact a5
      · rw [List.map_append, List.take_succ, hhc]
        refine b5.append ?_
        unfold one'
        cases ps.isEmpty
        · exact List.Sublist.refl _
        · exact List.nil_sublist _
      · rcases List.mem_append.mp hs with hs | hs
        · exact b6 s hs
        · rw [one_mem hs]
          refine ⟨by rw [hps, List.length_map]; omega, fun x hx => ?_⟩
          rw [hps] at hx
          obtain ⟨k, hk, rfl⟩ := List.mem_map.mp hx
          have := c4 k hk
          exact ⟨Nat.div_lt_of_lt_mul this, Nat.mod_lt _ hM1⟩
  · rintro σ H' F' ⟨rfl, a1, a2, a3, a4, ⟨v3, a5, a6⟩, n', v2, ss, b1, b2, b3, b4, b5, b6⟩ pF' eF
    have b2' : n' ≤ n + 33 := b2
    have p3 : Prv F' H' := pF'
    dsimp only [tSeq]
    refine for_d (F := F') (ei_tup (evd_tup (evds_cons evd_str (evds_cons evd_str (evds_cons evd_str evds_nil))))) p3 (Ex.refl (del H' F')) fun H3 e3 => ⟨fun i F2 σ H4 => F2 = F' ∧ σ.length = 9 ∧ σ[0]? = some (some (.ref p)) ∧ σ[1]? = some (some (.int (M : Int))) ∧ Kb p H H4 ∧ (∃ v2, σ[2]? = some (some v2) ∧ Dp K (del H4 F2) v2 (.list (ss.map stD))) ∧
      ∃ (n' : Nat) (v3 : V) (ls : List (Nat × List Nat)), Fd K F2 H4 p n' ∧ n' ≤ n + 33 + 4 * i ∧ σ[3]? = some (some v3) ∧ Dp K (del H4 F2) v3 (.list (ls.map ltD)) ∧ (ls.map (·.1)).Sublist (([97, 98, 112] : List Nat).take i) ∧ ∀ s, s ∈ ls → s.2.length ≤ 4,
      ⟨rfl, a1, a2, a3, a4.trans (.of e3), ⟨v2, b3, (del_ex e3).dp b4⟩, n', v3, [], b1.ex e3, by omega, a5, (del_ex e3).dp a6, by simp, fun s h => nomatch h⟩, ?_, ?_, ?_⟩
    · rintro i F2 σ Ha Hb ex ⟨rfl, a1, a2, a3, a4, ⟨v2, a5, a6⟩, n', v3, ls, c1, c2, c3, c4, c5, c6⟩
      exact ⟨rfl, a1, a2, a3, a4.trans (.of ex), ⟨v2, a5, (del_ex ex).dp a6⟩, n', v3, ls, c1.ex ex, c2, c3, (del_ex ex).dp c4, c5, c6⟩
    · rintro i x σ H4 F2 d hd ⟨rfl, a1, a2, a3, a4, ⟨v2, a5, a6⟩, n', v3, ls, c1, c2, c3, c4, c5, c6⟩ pF2 eF2 hx
      obtain ⟨hc, hhc, rfl, hlt⟩ : ∃ hc : Nat, ([97, 98, 112] : List Nat)[i]? = some hc ∧ d = .str (sg hc) ∧ i < 3 := by
        have : i = 0 ∨ i = 1 ∨ i = 2 := by
          have := (List.getElem?_eq_some_iff.mp hd).1
          simp at this; omega
        rcases this with rfl | rfl | rfl <;> cases hd
        · exact ⟨97, rfl, by kernel_rfl, by decide⟩
        · exact ⟨98, rfl, by kernel_rfl, by decide⟩
        · exact ⟨112, rfl, by kernel_rfl, by decide⟩
      obtain rfl := of_dp_str hx
      dsimp only [tSeq, tAsg, gName]
      refine draw_comp (N := M) (n' := n') (m := 2) (h := inD) (fun Q hQ => ⟨_, by rw [List.getElem?_set_ne (by decide)]; exact a3, hQ _ (Ex.refl _)⟩)
        (by rw [List.getElem?_set_ne (by decide)]; exact a2) (by rw [List.length_set]; exact a1) pF2 hFp c1 (by omega) (by omega) (by decide) (by decide) (fun k H5 hk => ?_) fun Dl H5 as n2 d1 d2 d3 d4 d5 d6 => ?_
      · have u8 : ((wipe (σ.set 6 (some (V.str (sg hc)))) [8]).set 8 (some (V.int (k : Int))))[8]? = some (some (.int (k : Int))) := by simp [wipe, a1]
        exact evd_var u8 (.int _)
      · have p5 : Prv F2 H5 := d1.prv pF2 (fp d2)
        have e5 : Ex (del H4 F2) (del H5 F2) := d1.del hFp
        have t2 : ((σ.set 6 (some (V.str (sg hc)))).set 7 (some (V.ref Dl)))[3]? = some (some v3) := by rw [List.getElem?_set_ne (by decide), List.getElem?_set_ne (by decide)]; exact c3
        have t4 : ((σ.set 6 (some (V.str (sg hc)))).set 7 (some (V.ref Dl)))[6]? = some (some (.str (sg hc))) := by rw [List.getElem?_set_ne (by decide)]; exact List.getElem?_set_self (by omega)
        have t5 : ((σ.set 6 (some (V.str (sg hc)))).set 7 (some (V.ref Dl)))[7]? = some (some (.ref Dl)) := List.getElem?_set_self (by rw [List.length_set]; omega)
        have hsl : ls.length ≤ 3 := by
          have := c5.length_le
          rw [List.length_map, List.length_take] at this
          simp at this; omega
        have cmp := evd_neD (K := K) (σ := (σ.set 6 (some (V.str (sg hc)))).set 7 (some (V.ref Dl))) (H := del H5 F2) (ta := tVar 7) (tb := tLst tNil) (evd_var t5 d6) (evd_lst evds_nil) (shp_lst fun d hd => by obtain ⟨x, _, rfl⟩ := List.mem_map.mp hd; exact can_int _) rfl
        have hfe : PyData.eqv (.list (as.map inD)) (.list []) = as.isEmpty := by rw [PyData.eqv, eqv_nil, isE]
        rw [hfe] at cmp
        refine evd_catL (evd_var t2 (e5.dp c4)) (evd_rep1 (n := if (!as.isEmpty) then 1 else 0) (evd_tup (evds_cons (evd_var t4 (.str _)) (evds_cons (evd_tupL (evd_var t5 d6)) evds_nil))) (evd_int1 cmp) (by split <;> omega)) (by rw [List.length_map, List.length_replicate]; split <;> omega) F2 H5 p5 (Ex.refl _) _ fun v H6 e6 hv => ?_
        have hss : ls.map ltD ++ List.replicate (if (!as.isEmpty) then 1 else 0) (PyData.tuple [.str (sg hc), .tuple (as.map inD)]) = (ls ++ one' hc as).map ltD := by
          unfold one'
          rw [List.map_append]
          cases as.isEmpty <;> rfl
        rw [hss] at hv
        refine ⟨F2, ⟨rfl, by rw [List.length_set, List.length_set, List.length_set]; exact a1, ?_, ?_, (a4.trans d1).trans (.of e6), ⟨v2, ?_, (e5.trans (del_ex e6)).dp a6⟩, n2, v, ls ++ one' hc as, d2.ex e6, by omega, List.getElem?_set_self (by rw [List.length_set, List.length_set]; omega), hv, ?_, fun s hs => ?_⟩, p5.mono e6, eF2.trans (e5.trans (del_ex e6))⟩
        · rw [List.getElem?_set_ne (by decide), List.getElem?_set_ne (by decide), List.getElem?_set_ne (by decide)]; exact a2
        · rw [List.getElem?_set_ne (by decide), List.getElem?_set_ne (by decide), List.getElem?_set_ne (by decide)]; exact a3
        · rw [List.getElem?_set_ne (by decide), List.getElem?_set_ne (by decide), List.getElem?_set_ne (by decide)]; exact a5
        · rw [List.map_append, List.take_succ, hhc]
          refine c5.append ?_
          unfold one'
          cases as.isEmpty
          · exact List.Sublist.refl _
          · exact List.nil_sublist _
        · rcases List.mem_append.mp hs with hs | hs
          · exact c6 s hs
          · rw [one_mem hs]
            show as.length ≤ 4
            omega
    · rintro σ H4 F2 ⟨rfl, a1, a2, a3, a4, ⟨v2, a5, a6⟩, n', v3, ls, c1, c2, c3, c4, c5, c6⟩ pF2 eF2
      obtain ⟨s1, xs1, rfl, hs1, hxs1⟩ := of_dp_lst a6
      obtain ⟨s2, xs2, rfl, hs2, hxs2⟩ := of_dp_lst c4
      refine ⟨_, a3, _, a5, s1, xs1, rfl, ex_l del_le hs1, fun t1 o1 ht1 ho1 => ?_⟩
      have ea : Ex H4 (upd H4 t1 (.frz o1 (.tup xs1))) := Ex.new ht1
      refine ⟨_, c3, s2, xs2, rfl, ex_l ea (ex_l del_le hs2), fun t2 o2 ht2 ho2 => ?_⟩
      have eb : Ex (upd H4 t1 (.frz o1 (.tup xs1))) (upd (upd H4 t1 (.frz o1 (.tup xs1))) t2 (.frz o2 (.tup xs2))) := Ex.new ht2
      refine ⟨by show 3 ≤ sizeLine; decide, fun ta hta => ?_⟩
      have ec := Ex.new (o := .tup [.int (M : Int), .ref t1, .ref t2]) hta
      have eall := ea.trans (eb.trans ec)
      have ht2' := fresh_back ea ht2
      have hta' := fresh_back (ea.trans eb) hta
      have hs14 : ss.length ≤ 2 := by
        have := b5.length_le
        rw [List.length_map, List.length_take] at this
        simp at this; omega
      have hl14 : ls.length ≤ 3 := by
        have := c5.length_le
        rw [List.length_map, List.length_take] at this
        simp at this; omega
      refine q ⟨M, ss, ls⟩ n' _ _ (a4.trans (.of eall)) (c1.ex eall) (by simp at c2; omega) ⟨by show M ≤ 100; omega, ?_, ?_, by show ss.length ≤ 100; omega, by show ls.length ≤ 100; omega, fun s hs => by have := (b6 s hs).1; omega, fun s hs => by have := c6 s hs; omega, fun s hs x hx => (b6 s hs).2 x hx⟩ hM1 hM4 ⟨ta, t1, t2, o1, o2, xs1, xs2, rfl, ?_, ?_, ho1, ?_, ?_, ho2, ?_⟩
      · exact (b5.trans (List.take_sublist _ _)).nodup (by decide)
      · exact (c5.trans (List.take_sublist _ _)).nodup (by decide)
      · exact st_of (del_at (pF2.no hta') upd_same)
      · exact del_at (pF2.no ht1) ((eb.trans ec) _ _ upd_same)
      · exact (del_ex eall).dps hxs1
      · exact del_at (pF2.no ht2') (ec _ _ upd_same)
      · exact (del_ex eall).dps hxs2
end
end Kx
/-! ## KX_Items -/
set_option Elab.async false
set_option linter.all false
set_option maxRecDepth 100000
set_option maxHeartbeats 1000000
/-! The items of a dict of the module. -/
namespace Kx
open PySem PySem.Spec PyProof.Rows L2 Evl
/-- a dict of the module, entry by entry -/
structure Ent (K : Fg) (w : World) (d : Addr) (es : Array DictEntry) (n : Nat) (kvs : List (Str × V)) : Prop where
  at_ : K.lookup d = some ⟨.type "dict", none, .dict es n, #[]⟩
  lit : PySem.W.KeysLit w.params es.toList
  low : (d == sysModules) = false
  ent : Fa (fun (kv : Str × V) (e : DictEntry) => (∃ t, e.key = .str kv.1 t) ∧ RelV kv.2 e.val) kvs es.toList
  nod : (kvs.map (·.1)).Nodup
theorem Ent.at {K : Fg} {w : World} {d : Addr} {es : Array DictEntry} {n : Nat} {kvs : List (Str × V)} (E : Ent K w d es n kvs) {prog : Program} {h : Heap} (X : K.In h) :
    ∃ vs : List (Str × Value), h.DictAt (strKind prog w) d vs n ∧ vs.length = kvs.length ∧ ∀ (i : Nat) (k : Str) (v : V), kvs[i]? = some (k, v) → ∃ u : Value, vs[i]? = some (k, u) ∧ RelV v u := by
  have ho := X _ _ E.at_
  have gen : ∀ {l : List (Str × V)} {m : List DictEntry}, Fa (fun (kv : Str × V) (e : DictEntry) => (∃ t, e.key = .str kv.1 t) ∧ RelV kv.2 e.val) l m →
      ∃ vs : List (Str × Value), Pairs (strKind prog w) m vs ∧ vs.map (·.1) = l.map (·.1) ∧ ∀ (i : Nat) (k : Str) (v : V), l[i]? = some (k, v) → ∃ u : Value, vs[i]? = some (k, u) ∧ RelV v u := by
    intro l m q
    induction q with
    | nil => exact ⟨[], .nil, rfl, fun i k v h => by simp at h⟩
    | @cons a b l m q t ih =>
      obtain ⟨vs, h1, h2, h3⟩ := ih
      obtain ⟨⟨tk, e1⟩, e2⟩ := q
      refine ⟨(a.1, b.val) :: vs, .cons (by rw [e1]; exact strKind_is prog w _ tk) rfl h1, by rw [List.map_cons, List.map_cons, h2], fun i k v h => ?_⟩
      cases i with
      | zero => cases h; exact ⟨_, rfl, e2⟩
      | succ i => exact h3 i k v h
  obtain ⟨vs, h1, h2, h3⟩ := gen E.ent
  refine ⟨vs, ⟨_, es, ho, ⟨rfl, rfl, rfl⟩, rfl, ?_, h1, by rw [h2]; exact E.nod⟩, ?_, h3⟩
  · intro e he
    obtain ⟨x, t, e1, e2⟩ := E.lit.all e (Array.mem_toList_iff.mpr he)
    exact ⟨x, by rw [e1]; exact strKind_is prog w x t, e2⟩
  · have := congrArg List.length h2
    simpa using this
/-- its items, each a new pair -/
def Itm (kvs : List (Str × V)) : It :=
  ⟨fun i _ => i < kvs.length, fun i H x H' => ∃ T k v, kvs[i]? = some (k, v) ∧ x = .ref T ∧ H T = none ∧ H' = upd H T (.tup [.str k, v]), fun i _ => kvs.length ≤ i⟩
theorem turn_itemsK {P : Program} {w : World} {K : Fg} {d : Addr} {es : Array DictEntry} {n : Nat} {kvs : List (Str × V)} (D : Ent K w d es n kvs) {elts : List Expr} {kk : Nat} {tpos : Pos} (it : Addr) :
    Turn P w K (.Tuple elts kk tpos) (Itm kvs) [it] it (fun i h => ∃ ok ov, IsItemIter h it d i kvs.length n ok ov) where
  mem := by simp
  obj := fun i h st b hb => by
    have e : b = it := by simpa using hb
    subst e
    obtain ⟨ok, ov, e⟩ := st
    exact ⟨_, e, fun v z => nomatch z⟩
  keep := fun i h h' st k => let ⟨ok, ov, e⟩ := st; ⟨ok, ov, k it (by simp) _ e⟩
  item := by
    intro X hP hw hK hc i pins s σ H E I hf st hg
    subst hP hw hK
    obtain ⟨vs, hm, hl, hg2⟩ := D.at (prog := X.prog) I.kIn
    obtain ⟨⟨k, v⟩, hkv⟩ : ∃ p, kvs[i]? = some p := ⟨kvs[i]'hg, List.getElem?_eq_getElem hg⟩
    obtain ⟨u, hu, ru⟩ := hg2 i k v hkv
    obtain ⟨ok, ov, he⟩ := st
    rw [← hl] at he
    have hlt : it < s.heap.objs.size := Heap.lt_size he
    refine wpAny_pyNext_items_item he hm hu fun key h' hkey ho hT hz hk => ?_
    refine ⟨_, rfl, wpAny_letOwnedTupleGo_items (s := { s with heap := h' }) ho fun h'' he' sb => ?_⟩
    have hT2 : h''.get? s.heap.objs.size = some { cls := .type "tuple", data := .seq #[key, u] } := (sb.2 _ (Nat.ne_of_gt hlt)).trans hT
    have rk : RelV (.str k) key := by
      have hkey' : Value.isStrOf k key = true := hkey
      cases key with
      | str z t =>
        have : k = z := by have h0 : z = k := by simpa [Value.isStrOf] using hkey'
                           exact h0.symm
        subst this
        exact ⟨t, rfl⟩
      | _ => simp [Value.isStrOf] at hkey'
    have new : ObjOk X.prog X.w (upd H s.heap.objs.size (.tup [.str k, v])) h'' s.heap.objs.size (.tup [.str k, v]) :=
      ⟨by show 2 ≤ sizeLine; decide, [key, u], .cons rk (.cons ru .nil), ⟨_, hT2, rfl, _, rfl⟩⟩
    have I1 : Inv X pins σ (upd H s.heap.objs.size (.tup [.str k, v])) { s with heap := h'' } :=
      I.turnedNew (t' := s.toks) (ch := [it]) (fun b ob hb e => (sb.2 b (by simpa using hb)).trans (hk b ob (by simpa using hb) e)) hf (Nat.le_refl _) new
    refine ⟨.ref s.heap.objs.size, _, I1, rfl, ⟨_, k, v, hkv, rfl, I.hok.fresh (Nat.le_refl _), rfl⟩, ⟨key, u, ?_⟩, fun b hb => ?_⟩
    · rw [← hl]; exact he'
    · have e : b = it := by simpa using hb
      rw [e, upd_ne (Nat.ne_of_lt hlt)]
      exact (hf it (by simp)).1
  done := by
    intro X hP hw hK hc i pins s σ H E I hf st hg
    subst hP hw hK
    obtain ⟨f0, f1, f2, f3, f4, f5⟩ := hf it (by simp)
    obtain ⟨vs, hm, hl, hg2⟩ := D.at (prog := X.prog) I.kIn
    obtain ⟨ok, ov, he⟩ := st
    rw [← hl] at he
    have hg' : kvs.length ≤ i := hg
    exact wpAny_pyNext_items_end (I.ok.hd hc) he hm (List.getElem?_eq_none (by omega)) fun h' eb => ⟨rfl, I.turned (t' := s.toks) (fun b ob hb e => eb b ob hb e) f0 f1 f3 f4 f5⟩
  self := fun A i s Q E st h => let ⟨_, _, e⟩ := st; PySem.W.kcp_self e h
def iItemsK (d : Addr) (kvs : List (Str × V)) : TI := fun _ H R => R (Itm kvs) H
theorem pi_itemsK {X : Cx} {d : Addr} {es : Array DictEntry} {n : Nat} {kvs : List (Str × V)} (D : Ent X.K X.w d es n kvs) {e : Expr} {elts : List Expr} {kk : Nat} {tpos apos cpos : Pos} (he : PE X e (tC (.ref d))) (hbase : attributeBase e "items" X.env (eval e X.env) = eval e X.env := by rfl) (hline : (apos.endLine == cpos.line) = true := by rfl) :
    PI X (.Tuple elts kk tpos) (.Call (.Attribute e "items" apos) [] [] cpos) (iItemsK d kvs) := by
  refine ⟨fun pins s σ H R I h => ?_⟩
  refine wpAny_Call_method (T := "dict") (id := "dict.items") hbase rfl hline F.plainAttrs_dict F.slot_dict_items F.type_dict_items (thn (he.run pins s σ H (fun x H1 => x = .ref d ∧ H1 = H) I ⟨rfl, rfl⟩) fun u s1 ⟨x, H1, I1, rx, ex, eH⟩ => ?_)
  subst ex eH
  obtain rfl : u = Value.ref d := rx
  obtain ⟨vs, hm, hl, hg2⟩ := D.at (prog := X.prog) I1.kIn
  refine ⟨hm.dictOf.typeIs, hm.dictOf.mapOf.noDict, ?_⟩
  have I2 : Inv X pins σ H1 { s1 with heap := s1.heap.push { cls := .type "dict_items", data := .fields #[.ref d] } } := I1.kept (t' := s1.toks) fun b ob q => Heap.get?_push_of_some _ q
  have fin : wpAny (model X.prog X.w) X.A (pyIter (.ref s1.heap.objs.size)) (PIE X pins σ (.Tuple elts kk tpos) R) X.xe { s1 with heap := s1.heap.push { cls := .type "dict_items", data := .fields #[.ref d] } } := by
    refine wpAny_pyIter_items (d := d) (knd := strKind X.prog X.w) ⟨_, Heap.get?_push_size _ rfl, rfl, rfl⟩ (hm.push _) (pi_one (tk := s1.toks) I2 _ (turn_itemsK D _) ⟨.none, .none, ?_⟩ h)
    rw [← hl]
    exact Heap.get?_push_size _ rfl
  show wpAny _ _ (callWith cpos (.builtin "dict.items") [.ref d] [] []) _ X.xe s1
  exact method_meetsIn F.slot_dict_items F.entry_dict_items rfl (PySem.evalArgs_none ⟨rfl, hm.dictOf.typeIs, F.args_dict_items_1 _, _, meets_dict_items (strKind X.prog X.w) d D.low, ⟨vs, hm.dictOf⟩, fin⟩)
end Kx
/-! ## KY_Read -/
set_option Elab.async false
set_option linter.all false
set_option maxRecDepth 100000
set_option maxHeartbeats 2000000
/-! The reader of texts: its parts. -/
namespace Kx
open PySem PySem.Spec PyProof.Rows L2 Evl
open SX (S S_len S_cat)
theorem slice_mid {a : List Nat} {i j : Nat} (h : i ≤ j) (h2 : j ≤ a.length) : Txt.slice (S a) (some (i : Int)) (some (j : Int)) = S ((a.drop i).take (j - i)) := by
  have e := beq_iff_eq.mp (PyProof.Rows.slice_closes (x := S a) (i := (i : Int)) (j := (j : Int)) ⟨by omega, by omega, by simpa using h2⟩)
  rw [e]
  simp
theorem slice_one {a : List Nat} {i : Nat} : Txt.slice (S a) (some (i : Int)) (some ((i : Int) + 1)) = S ((a.drop i).take 1) := by
  by_cases h : i + 1 ≤ a.length
  · have := slice_mid (a := a) (i := i) (j := i + 1) (by omega) h
    rw [show ((i : Int) + 1) = ((i + 1 : Nat) : Int) by omega, this]
    congr 1
    rw [Nat.add_sub_cancel_left]
  · have hd : a.drop i = [] ∨ i < a.length := by
      by_cases h2 : i < a.length
      · exact .inr h2
      · exact .inl (List.drop_eq_nil_of_le (by omega))
    have h3 : ¬ i < a.length := by omega
    have hd : a.drop i = [] := List.drop_eq_nil_of_le (by omega)
    rw [hd]
    have e : Txt.slice (S a) (some (i : Int)) (some ((i : Int) + 1)) = Txt.slice (S a) (some (a.length : Int)) (some (a.length : Int)) := by
      have h0 : ¬ ((i : Int) < 0) := by omega
      have h1 : ¬ ((i : Int) + 1 < 0) := by omega
      have h2 : ¬ ((a.length : Int) < 0) := by omega
      have h4 : (1 : Int) > 0 := by decide
      have m1 : min (i : Int) (a.length : Int) = (a.length : Int) := Int.min_eq_right (by omega)
      have m2 : min ((i : Int) + 1) (a.length : Int) = (a.length : Int) := Int.min_eq_right (by omega)
      unfold Txt.slice
      simp only [S_len, Builtin.Str.strSliceIndices, h0, h1, h2, h4, if_false, if_true, m1, m2, Int.min_self]
    rw [e, slice_mid (Nat.le_refl _) (Nat.le_refl _)]
    simp
def NL (l : List Nat) : Prop := ∀ c r, l = c :: r → lowc c = false
/-- the reader at its spot -/
def Rs (C : Addr) (H : Hp) (a dx : Addr) (l : List Nat) (i : Nat) : Prop := H a = some (.ins C dx [("text", .str (S l)), ("spot", .int (i : Int))])
def spRd (K : Fg) (C : Addr) (R : List Nat → List PyData → Nat → PyData → Prop) : Sp := fun vs H Q _ => ∃ (F : Addr → Bool) (a dx : Addr) (l : List Nat) (i k : Nat) (args : List V) (ds : List PyData) (d : PyData), vs = .ref a :: args ∧ Prv F H ∧ F a = true ∧ Rs C H a dx l i ∧ l.length ≤ 2000000 ∧
  DpAll K (del H F) args ds ∧ R (l.drop i) ds k d ∧ ∀ v H2, Kb a H H2 → Rs C H2 a dx l (i + k) → Dp K (del H2 F) v d → Q v H2
structure Cr (K : Fg) (C : Addr) : Prop where
  cls : Cls K C
  n1 : NoAttr K C "text"
  n2 : NoAttr K C "spot"
abbrev R_ahead (rem : List Nat) (ds : List PyData) (k : Nat) (d : PyData) : Prop := ds = [] ∧ k = 0 ∧ d = .str (S (rem.take 1))
abbrev R_take (rem : List Nat) (ds : List PyData) (k : Nat) (d : PyData) : Prop := ds = [.str (S (rem.take 1))] ∧ k = 1 ∧ d = .none
abbrev R_letters (rem : List Nat) (ds : List PyData) (k : Nat) (d : PyData) : Prop := ∃ c rest, ds = [] ∧ rem = c :: rest ∧ lowc c = true ∧ NL rest ∧ k = 1 ∧ d = .str (S [c])
section
variable {K : Fg} {C : Addr} {σ : L2.St} {H : Hp} {Q : VK} {F : Addr → Bool} {a dx : Addr} {l : List Nat} {i : Nat} {R : List Nat → List PyData → Nat → PyData → Prop} {m : Str}
theorem rd0 (hm : ([("text", V.str (S l)), ("spot", V.int (i : Int))] : List (Str × V)).lookup m = none) (s0 : σ[0]? = some (some (.ref a))) (pF : Prv F H) (fa : F a = true) (rs : Rs C H a dx l i) (hl : l.length ≤ 2000000) {k : Nat} {d : PyData} (r : R (l.drop i) [] k d)
    (h : ∀ v H2, Kb a H H2 → Rs C H2 a dx l (i + k) → Dp K (del H2 F) v d → Q v H2) : tMeth C m (spRd K C R) [] E0 (tVar 0) tNil σ H Q :=
  ⟨_, s0, a, dx, _, rfl, rs, hm, F, a, dx, l, i, k, [], [], d, rfl, pF, fa, rs, hl, .nil, r, h⟩
theorem rd1 {te : TE} {d1 : PyData} (hm : ([("text", V.str (S l)), ("spot", V.int (i : Int))] : List (Str × V)).lookup m = none) (s0 : σ[0]? = some (some (.ref a))) (pF : Prv F H) (fa : F a = true) (rs : Rs C H a dx l i) (hl : l.length ≤ 2000000) (hd : EvD K te σ (del H F) d1) {k : Nat} {d : PyData} (r : R (l.drop i) [d1] k d)
    (h : ∀ v H2, Kb a H H2 → Rs C H2 a dx l (i + k) → Dp K (del H2 F) v d → Q v H2) : tMeth C m (spRd K C R) [] E0 (tVar 0) (tCons te tNil) σ H Q :=
  ⟨_, s0, a, dx, _, rfl, rs, hm, hd F H pF (Ex.refl _) _ fun v H2 e hv => ⟨F, a, dx, l, i, k, [v], [d1], d, rfl, pF.mono e, fa, e _ _ rs, hl, .cons hv .nil, r, fun w H3 kb => h w H3 ((Kb.of e).trans kb)⟩⟩
theorem rd_text (c : Cr K C) (s0 : σ[0]? = some (some (.ref a))) (rs : Rs C H a dx l i) (h : Q (.str (S l)) H) : tFld K (tVar 0) "text" σ H Q := ⟨_, s0, a, C, dx, _, _, rfl, rs, c.cls, c.n1, rfl, h⟩
theorem rd_spot (c : Cr K C) (s0 : σ[0]? = some (some (.ref a))) (rs : Rs C H a dx l i) (h : Q (.int (i : Int)) H) : tFld K (tVar 0) "spot" σ H Q := ⟨_, s0, a, C, dx, _, _, rfl, rs, c.cls, c.n2, by kernel_rfl, h⟩
end
section
variable {P : Program} {w : World} {K : Fg} {mg : Str → Option Value} {base : Heap} {C : Addr}
theorem rdlen {R : List Nat → List PyData → Nat → PyData → Prop} {n : Nat} (hR : ∀ rem ds k d, R rem ds k d → ds.length = n) : ∀ vs H Q E, spRd K C R vs H Q E → vs.length = n + 1 := fun vs H Q E h => by
  obtain ⟨F, a, dx, l, i, k, args, ds, d, rfl, _, _, _, _, hd, hr, _⟩ := h
  rw [List.length_cons, dpa_len hd, hR _ _ _ _ hr]
theorem put_spot {x y : V} {z : Str} : putF "spot" x ([("text", .str z), ("spot", y)] : List (Str × V)) = ([("text", .str z), ("spot", x)] : List (Str × V)) := by
  have h1 : ¬ ((Str.ofString "text") = (Str.ofString "spot")) := by decide
  unfold putF
  rw [if_neg h1]
  unfold putF
  rw [if_pos rfl]
theorem sr_ahead_ok (c : Cr K C) (D : Mtd K C "ahead" "SignReader.ahead" s_sr_ahead) : Met P w K mg base 1 C "ahead" (spRd K C R_ahead) := by
  refine met_of c.cls D sc_sr_ahead (fun _ _ _ _ _ _ us hl => match us, hl with | [_], _ => rfl) (rdlen (n := 0) fun rem ds k d h => by rw [h.1]; rfl) fun f cdv A outer s H vs Q E hr h => ?_
  refine ⟨_, (pss_one (ps_ret (pe_slice C8.sl_txt (pe_fld (pv 0) rfl) (po_some (pe_fld (pv 0) rfl)) (po_some (pe_op op_add (pe_fld (pv 0) rfl) pe_int))))), ?_⟩
  obtain ⟨F, a, dx, l, i, k, args, ds, d, rfl, pF, fa, rs, hl, hd, ⟨rfl, rfl, rfl⟩, q⟩ := h
  cases hd
  dsimp only [tRet, tSl, tPart, tOp]
  refine rd_text (σ := [some (.ref a)]) c rfl rs ?_
  refine rd_spot (σ := [some (.ref a)]) c rfl rs ⟨_, rfl, ?_⟩
  refine rd_spot (σ := [some (.ref a)]) c rfl rs ?_
  refine ⟨_, _, rfl, rfl, _, rfl, ?_⟩
  refine ⟨_, rfl, by rw [S_len]; exact Nat.le_trans hl (by decide), ?_⟩
  rw [slice_one]
  exact q _ H (fun b o _ h => h) rs (.str _)
theorem sr_take_ok (c : Cr K C) (D : Mtd K C "take" "SignReader.take" s_sr_take) (m_sr_ahead : Met P w K mg base 1 C "ahead" (spRd K C R_ahead)) : Met P w K mg base 2 C "take" (spRd K C R_take) := by
  refine met_of (k := 1) c.cls D sc_sr_take (fun _ _ _ _ _ _ us hl => match us, hl with | [_, _], _ => rfl) (rdlen (n := 1) fun rem ds k d h => by rw [h.1]; rfl) fun f cdv A outer s H vs Q E hr h => ?_
  refine ⟨_, (pss_cons (ps_if (pt_cmpR op_ne (pm0_ m_sr_ahead hr (by omega) (pv 0)) (pv 1) (nomark _)) (pss_one ps_never) pss_nil)
        (pss_one (ps_fldaug (pv 0) pe_int in_add))), ?_⟩
  obtain ⟨F, a, dx, l, i, k, args, ds, d, rfl, pF, fa, rs, hl, hd, ⟨rfl, rfl, rfl⟩, q⟩ := h
  obtain ⟨z, rfl, hz⟩ := of_one hd
  obtain rfl := of_dp_str hz
  refine rd0 (by kernel_rfl) rfl pF fa rs hl ⟨rfl, rfl, rfl⟩ fun v H2 kb rs2 hv => ?_
  obtain rfl := of_dp_str hv
  refine ⟨_, rfl, rfl, _, rfl, ?_⟩
  rw [decide_eq_true rfl]
  show (if (!true) = true then _ else _)
  rw [if_neg (by decide)]
  refine ⟨_, rfl, a, C, dx, _, .int ((i + 0 : Nat) : Int), rfl, rs2, c.cls, c.n2, by kernel_rfl, _, _, rfl, rfl, dx, _, rs2, by simp, ?_⟩
  refine q _ _ (kb.trans .upd) ?_ .non
  unfold Rs
  rw [upd_same]
  rw [put_spot]
  rfl
abbrev R_isw (ds : List PyData) (d : PyData) : Prop := ∃ c, ds = [.str (S [c])] ∧ lowc c = true ∧ d = .bool true
theorem is_word_ok (T : Tx K w mg) (D : Dfn K mg "is_word" s_is_word) : Cal P w K mg base 1 "is_word" (spR K R_isw) := by
  refine cal_of D sc_is_word (fun _ _ _ _ _ _ us hl => match us, hl with | [_], _ => rfl) (spR_len fun ds d h => by obtain ⟨_, rfl, _⟩ := h; rfl) fun f cdv A outer s H vs Q E hr h => ?_
  obtain ⟨tL, gLETTERS⟩ := T.letters
  obtain ⟨tG, gLONGEST⟩ := T.longest
  refine ⟨_, (pss_cons (ps_if (PW.pt (pw_or (pt_not (pt_val (pe_callB call_isi rfl T.isinstance_ (by decide +kernel) (pa_cons (pv 0) (pa_cons (pe_bltn (v := .ty "str") rfl T.str_ (by decide +kernel) rfl) pa_nil))))) (pw_or1 (pt_not (pt_chain op_le op_le pe_int (pe_callB call_len_str rfl T.len_ PySem.boot_len (pa_cons (pv 0) pa_nil)) (pe_glob (v := .int 8) rfl gLONGEST ⟨_, rfl⟩)))))) (pss_one (ps_ret pe_bl)) pss_nil)
        (pss_one (ps_ret (pe_callB (cr_all rfl) rfl T.all_ (by decide +kernel) (pa_cons (pe_lc (own := [("sign", 1)]) (g := gName 1) (tt := tYes) rfl sc_is_word.nd (pi_str (pv 0)) (blkOk_by (N := n_is_word) (sc := defScope s_is_word) (own := [("sign", 1)]) (by decide +kernel)) (fun _ _ _ _ _ => (pg_name (i := 1) sc_is_word.nd rfl (Or.inl rfl))) (fun _ _ _ _ _ => pts_nil) (fun _ _ _ _ _ => (pe_cmpR op_in_sign (pv 1) (pe_glob (v := .str "abcdefghijklmnopqrstuvwxyz") rfl gLETTERS ⟨_, rfl⟩) (by rfl)))) pa_nil))))), ?_⟩
  refine ret_of h fun ds d H hd hR => ?_
  obtain ⟨c, rfl, hc, rfl⟩ := hR
  obtain ⟨x, rfl, hx⟩ := of_one hd
  obtain rfl := of_dp_str hx
  have hin : c ∈ (("abcdefghijklmnopqrstuvwxyz" : Str)).cps.toList := by
    rw [Bool.and_eq_true, decide_eq_true_eq, decide_eq_true_eq] at hc
    have e : (("abcdefghijklmnopqrstuvwxyz" : Str)).cps.toList = (List.range 26).map (· + 97) := by kernel_rfl
    rw [e]
    exact List.mem_map.mpr ⟨c - 97, List.mem_range.mpr (by omega), by omega⟩
  have isS : EvB (tB (tCB (rIsi K) (tCons (tVar 0) (tCons (tC (.ty "str")) tNil)))) [some (V.str (S [c])), none] H true := fun F H1 p e Q k =>
    ⟨_, rfl, V.str (S [c]), .ty "str", .type "str", .type "str", true, rfl, ClsV.ty "str", .base (.str _), kit_ty (by decide +kernel), true, rfl, k H1 (Ex.refl _)⟩
  have hch : EvB (tNot (tB (tCB (rIsi K) (tCons (tVar 0) (tCons (tC (.ty "str")) tNil))))) [some (V.str (S [c])), none] H false := eb_not isS
  refine rd_F (eb_is (eb_or hch fun _ => eb_not (b := true) (fun F H1 p e Q k => ?_)) rfl) (rd_ret ?_)
  · refine ⟨_, rfl, S [c], rfl, by rw [S_len]; exact sz_of (n := 1) (by decide), _, _, rfl, rfl, true, by simp [S_len], ?_⟩
    rw [if_pos rfl]
    exact ⟨_, _, rfl, rfl, true, by simp [S_len], k H1 (Ex.refl _)⟩
  · refine evd_is (evd_all (bs := [true]) (evd_lcA (as := [c]) (en := fun c => .str ⟨#[c]⟩) (fun _ => .bool true) (ei_str (evd_var rfl hx)) (by simp) (fun _ => rfl) fun u hu z H3 e hz => ?_)) rfl
    obtain rfl := List.mem_singleton.mp hu
    obtain rfl := of_dp_str hz
    intro F H1 p e Q k
    refine ⟨_, rfl, u, _, rfl, rfl, ?_⟩
    rw [decide_eq_true hin]
    exact k _ H1 (Ex.refl _) (.bl _)
/-- the reader made anew -/
def spSR (C : Addr) : Sp := fun vs H Q _ => ∃ a dx l, vs = [.ref a, .str (S l)] ∧ H a = some (.ins C dx []) ∧ ∀ H2, (∀ b o, b ≠ a → H b = some o → H2 b = some o) → Rs C H2 a dx l 0 → Q .non H2
theorem sr_init_ok (c : Cr K C) (hm : mg "SignReader" = some (.ref C)) (D : Ini K C "SignReader.__init__" s_sr_init) : Mak P w K mg base 1 C "SignReader" (spSR C) := by
  refine mak_of hm D sc_sr_init (fun _ _ _ _ _ _ us hl => match us, hl with | [_, _], _ => rfl) (fun vs H Q E h => by obtain ⟨_, _, _, rfl, _⟩ := h; rfl) fun f cdv A outer s H vs Q E hr h => ?_
  refine ⟨_, (pss_cons (ps_fld (pv 0) (pv 1) rfl)
        (pss_one (ps_fld (pv 0) pe_int rfl))), ?_⟩
  obtain ⟨a, dx, l, rfl, ha, q⟩ := h
  refine ⟨_, rfl, _, rfl, a, C, dx, [], rfl, ha, c.cls, c.n1, by decide, ?_⟩
  refine ⟨_, rfl, a, C, dx, _, rfl, upd_same, c.cls, c.n2, by simp [putF], ?_⟩
  refine q _ (fun b o hb h => ?_) ?_
  · rw [upd_ne hb, upd_ne hb]; exact h
  · unfold Rs
    rw [upd_same]
    rfl
theorem notlow {c : Nat} (h : lowc c = false) : c ∉ (("abcdefghijklmnopqrstuvwxyz" : Str)).cps.toList := fun hc => by
  have e : (("abcdefghijklmnopqrstuvwxyz" : Str)).cps.toList = (List.range 26).map (· + 97) := by kernel_rfl
  rw [e] at hc
  obtain ⟨x, hx, rfl⟩ := List.mem_map.mp hc
  have := List.mem_range.mp hx
  have h2 : lowc (x + 97) = true := by
    unfold lowc
    rw [Bool.and_eq_true, decide_eq_true_eq, decide_eq_true_eq]
    omega
  rw [h2] at h
  cases h
theorem islow {c : Nat} (hc : lowc c = true) : c ∈ (("abcdefghijklmnopqrstuvwxyz" : Str)).cps.toList := by
  rw [lowc, Bool.and_eq_true, decide_eq_true_eq, decide_eq_true_eq] at hc
  have e : (("abcdefghijklmnopqrstuvwxyz" : Str)).cps.toList = (List.range 26).map (· + 97) := by kernel_rfl
  rw [e]
  exact List.mem_map.mpr ⟨c - 97, List.mem_range.mpr (by omega), by omega⟩
theorem drop_app {l : List Nat} {i : Nat} {x rest : List Nat} (h : l.drop i = x ++ rest) : l.drop (i + x.length) = rest := by
  rw [← List.drop_drop, h, List.drop_left]
def hdlow : List Nat → Bool
  | [] => false
  | c :: _ => lowc c
theorem Rs.prv {F : Addr → Bool} {H H2 : Hp} {a dx : Addr} {l : List Nat} {i : Nat} (kb : Kb a H H2) (rs : Rs C H2 a dx l i) (p : Prv F H) : Prv F H2 := kb.prv p (by rw [rs]; exact fun z => nomatch z)
theorem ltest {σ : L2.St} {H : Hp} {F : Addr → Bool} {a dx : Addr} {l : List Nat} {i : Nat} {Q : Bool → Hp → Prop} (s0 : σ[0]? = some (some (.ref a))) (pF : Prv F H) (fa : F a = true) (rs : Rs C H a dx l i) (hl : l.length ≤ 2000000)
    (h : ∀ H2, Kb a H H2 → Rs C H2 a dx l i → Q (hdlow (l.drop i)) H2) :
    tAnd (tTest (tOp rNe (tMeth C "ahead" (spRd K C R_ahead) [] E0 (tVar 0) tNil) (tC (.str "")))) (tTest (tOp (fun x y H Q => ∃ (c : Nat) (z : Str), x = .str ⟨#[c]⟩ ∧ y = .str z ∧ Q (.bl (decide (c ∈ z.cps.toList))) H) (tMeth C "ahead" (spRd K C R_ahead) [] E0 (tVar 0) tNil) (tC (.str "abcdefghijklmnopqrstuvwxyz")))) σ H Q := by
  refine rd0 (by kernel_rfl) s0 pF fa rs hl ⟨rfl, rfl, rfl⟩ fun v H2 kb2 rs2 hv => ?_
  obtain rfl := of_dp_str hv
  cases hrem : l.drop i with
  | nil =>
    rw [hrem] at h
    refine ⟨rfl, _, rfl, ?_⟩
    show (if (!decide (S (List.take 1 []) = "")) = true then _ else _)
    rw [if_neg (by decide +kernel)]
    exact h H2 kb2 rs2
  | cons c r =>
    rw [hrem] at h
    refine ⟨rfl, _, rfl, ?_⟩
    show (if (!decide (S [c] = "")) = true then _ else _)
    have hne : ¬ S [c] = "" := fun e => by
      have := congrArg Str.length e
      rw [S_len] at this
      have e0 : ("" : Str).length = 0 := by decide +kernel
      rw [e0] at this
      exact absurd this (by simp)
    rw [decide_eq_false hne, if_pos (by decide)]
    have pF2 := rs2.prv kb2 pF
    refine rd0 (by kernel_rfl) s0 pF2 fa rs2 hl ⟨rfl, rfl, rfl⟩ fun v H3 kb3 rs3 hv3 => ?_
    obtain rfl := of_dp_str hv3
    refine ⟨c, _, ?_, rfl, _, rfl, ?_⟩
    · rw [show i + 0 = i by omega, hrem]; rfl
    · have e : decide (c ∈ (("abcdefghijklmnopqrstuvwxyz" : Str)).cps.toList) = hdlow (c :: r) := by
        show _ = lowc c
        cases hc : lowc c with
        | true => exact decide_eq_true (islow hc)
        | false => exact decide_eq_false (notlow hc)
      rw [e]
      exact h H3 (kb2.trans kb3) rs3
theorem sr_letters_ok (T : Tx K w mg) (c : Cr K C) (D : Mtd K C "letters_here" "SignReader.letters_here" s_sr_letters_here) (m_sr_ahead : Met P w K mg base 1 C "ahead" (spRd K C R_ahead))
    (c_is_word : Cal P w K mg base 1 "is_word" (spR K R_isw)) : Met P w K mg base 3 C "letters_here" (spRd K C R_letters) := by
  refine met_of (k := 2) c.cls D sc_sr_letters_here (fun _ _ _ _ _ _ us hl => match us, hl with | [_], _ => rfl) (rdlen (n := 0) fun rem ds k d h => by obtain ⟨_, _, h, _⟩ := h; rw [h]; rfl) fun f cdv A outer s H vs Q E hr h => ?_
  obtain ⟨tL, gLETTERS⟩ := T.letters
  refine ⟨_, (pss_cons (ps_set (i := 1) sc_sr_letters_here.nd rfl (Or.inl rfl) (pe_fld (pv 0) rfl))
        (pss_cons (ps_while PassesOwn.never (PW.pt (pw_and (pt_cmpR op_ne (pm0_ m_sr_ahead hr (by omega) (pv 0)) pe_str (nomark _)) (pw_and1 (pt_cmpR op_in_sign (pm0_ m_sr_ahead hr (by omega) (pv 0)) (pe_glob (v := .str "abcdefghijklmnopqrstuvwxyz") rfl gLETTERS ⟨_, rfl⟩) (by rfl))))) (pss_one (ps_fldaug (pv 0) pe_int in_add)))
        (pss_cons (ps_set (i := 2) sc_sr_letters_here.nd rfl (Or.inl rfl) (pe_slice C8.sl_txt (pe_fld (pv 0) rfl) (po_some (pv 1)) (po_some (pe_fld (pv 0) rfl))))
        (pss_cons (ps_if (pt_not (pt_val (pc_ c_is_word hr (by omega) (pa_cons (pv 2) pa_nil)))) (pss_one ps_never) pss_nil)
        (pss_one (ps_ret (pv 2))))))), ?_⟩
  obtain ⟨F, a, dx, l, i, k, args, ds, d, rfl, pF, fa, rs, hl, hd, ⟨c0, rest, rfl, hrem, hlow, hNL, rfl, rfl⟩, q⟩ := h
  cases hd
  have hrem2 : l.drop (i + 1) = rest := drop_app (x := [c0]) (by simpa using hrem)
  refine rd_spot (σ := [some (.ref a), none, none]) c rfl rs ?_
  refine ⟨fun m σ H' => σ = [some (.ref a), some (.int (i : Int)), none] ∧ ∃ j, Kb a H H' ∧ Prv F H' ∧ Rs C H' a dx l (i + j) ∧ j ≤ 1 ∧ m = 1 - j, ⟨1, rfl, 0, fun b o _ h => h, pF, rs, by omega, by omega⟩, ?_⟩
  rintro m σ H' ⟨rfl, j, kb, pF1, rs1, hj, rfl⟩
  have hcase : j = 0 ∨ j = 1 := by omega
  rcases hcase with rfl | rfl
  · refine ltest (i := i) rfl pF1 fa rs1 hl fun H2 kb2 rs2 => ?_
    have e : hdlow (l.drop i) = true := by rw [hrem]; exact hlow
    rw [e, if_pos rfl]
    refine ⟨fun σ' H' => σ' = [some (.ref a), some (.int (i : Int)), none] ∧ Kb a H H' ∧ Prv F H' ∧ Rs C H' a dx l (i + 1), fun σ' H' ⟨h1, h2, h3, h4⟩ => ⟨0, by omega, h1, 1, h2, h3, h4, by omega, rfl⟩, ?_⟩
    refine ⟨_, rfl, a, C, dx, _, .int (i : Int), rfl, rs2, c.cls, c.n2, by kernel_rfl, _, _, rfl, rfl, dx, _, rs2, by simp, ?_⟩
    have rs3 : Rs C (upd H2 a (.ins C dx (putF "spot" (.int ((i : Int) + 1)) [("text", .str (S l)), ("spot", .int (i : Int))]))) a dx l (i + 1) := by
      unfold Rs
      rw [upd_same, put_spot]
      rfl
    have kb3 := kb.trans (kb2.trans (Kb.upd (H := H2) (l := a) (o := .ins C dx (putF "spot" (.int ((i : Int) + 1)) [("text", .str (S l)), ("spot", .int (i : Int))]))))
    exact ⟨rfl, kb3, rs3.prv kb3 pF, rs3⟩
  · refine ltest rfl pF1 fa rs1 hl fun H2 kb2 rs2 => ?_
    have e : hdlow (l.drop (i + 1)) = false := by
      rw [hrem2]
      cases rest with
      | nil => rfl
      | cons c r => exact hNL c r rfl
    rw [e, if_neg (by decide)]
    have kb3 := kb.trans kb2
    have pF2 := rs2.prv kb3 pF
    dsimp only [tSeq, tAsg, tSl, tPart, tOp]
    refine rd_text (i := i + 1) c rfl rs2 ⟨_, rfl, ⟨_, rfl, ?_⟩⟩
    refine rd_spot (i := i + 1) c rfl rs2 ⟨_, rfl, ⟨_, rfl, by rw [S_len]; exact Nat.le_trans hl (by decide), ?_⟩⟩
    have e2 : Txt.slice (S l) (some (i : Int)) (some ((i + 1 : Nat) : Int)) = S [c0] := by
      rw [show ((i + 1 : Nat) : Int) = (i : Int) + 1 by omega, slice_one, hrem]
      rfl
    rw [e2]
    show tIfS _ _ _ _ _ _
    refine (eb_not (et_dB (evd_call (R := R_isw) (E := E0) (evds_cons (evd_var rfl (.str (S [c0]))) evds_nil) ⟨c0, rfl, hlow, rfl⟩)) : EvB _ _ (del H2 F) false) F H2 pF2 (Ex.refl _) _ fun H3 ex => ?_
    show (if false = true then _ else _)
    rw [if_neg (by decide)]
    exact ⟨_, rfl, q _ H3 (kb3.trans (Kb.of ex)) (ex _ _ rs2) (.str _)⟩
end
end Kx
/-! ## KZ_Read -/
set_option Elab.async false
set_option linter.all false
set_option maxRecDepth 100000
set_option maxHeartbeats 2000000
/-! The reader of texts: sayings. -/
namespace Kx
open PySem PySem.Spec PyProof.Rows L2 Evl
open SX (S S_len S_cat)
/-- the reader's place, since H0 -/
structure Pl (C : Addr) (F : Addr → Bool) (a dx : Addr) (l : List Nat) (H0 H : Hp) (i : Nat) : Prop where
  kb : Kb a H0 H
  pr : Prv F H
  rs : Rs C H a dx l i
section
variable {K : Fg} {C : Addr} {F : Addr → Bool} {a dx : Addr} {l : List Nat} {H0 H : Hp} {i : Nat} {σ : L2.St} {Q : VK} {m : Str} {R : List Nat → List PyData → Nat → PyData → Prop} {k : Nat} {d d1 : PyData} {te : TE}
theorem Pl.ex {H2 : Hp} (st : Pl C F a dx l H0 H i) (e : Ex H H2) : Pl C F a dx l H0 H2 i := ⟨st.kb.trans (.of e), st.pr.mono e, e _ _ st.rs⟩
theorem Pl.to {j : Nat} (st : Pl C F a dx l H0 H i) (e : i = j) : Pl C F a dx l H0 H j := e ▸ st
theorem m0 (hm : ([("text", V.str (S l)), ("spot", V.int (i : Int))] : List (Str × V)).lookup m = none) (s0 : σ[0]? = some (some (.ref a))) (fa : F a = true) (hl : l.length ≤ 2000000) (st : Pl C F a dx l H0 H i) (r : R (l.drop i) [] k d)
    (h : ∀ v H2, Pl C F a dx l H0 H2 (i + k) → Ex (del H F) (del H2 F) → Dp K (del H2 F) v d → Q v H2) : tMeth C m (spRd K C R) [] E0 (tVar 0) tNil σ H Q :=
  rd0 hm s0 st.pr fa st.rs hl r fun v H2 kb rs hv => h v H2 ⟨st.kb.trans kb, rs.prv kb st.pr, rs⟩ (kb.del fa) hv
theorem m1 (hm : ([("text", V.str (S l)), ("spot", V.int (i : Int))] : List (Str × V)).lookup m = none) (s0 : σ[0]? = some (some (.ref a))) (fa : F a = true) (hl : l.length ≤ 2000000) (st : Pl C F a dx l H0 H i) (hd : EvD K te σ (del H F) d1) (r : R (l.drop i) [d1] k d)
    (h : ∀ v H2, Pl C F a dx l H0 H2 (i + k) → Ex (del H F) (del H2 F) → Dp K (del H2 F) v d → Q v H2) : tMeth C m (spRd K C R) [] E0 (tVar 0) (tCons te tNil) σ H Q :=
  rd1 hm s0 st.pr fa st.rs hl hd r fun v H2 kb rs hv => h v H2 ⟨st.kb.trans kb, rs.prv kb st.pr, rs⟩ (kb.del fa) hv
end
abbrev Rr_say (n : Nat) (rem : List Nat) (ds : List PyData) (k : Nat) (d : PyData) : Prop := ∃ s rest, ds = [] ∧ rem = tx s ++ rest ∧ NL rest ∧ fit n s = true ∧ gd s = true ∧ k = (tx s).length ∧ d = enc s
abbrev Rr_told (n : Nat) (rem : List Nat) (ds : List PyData) (k : Nat) (d : PyData) : Prop := ∃ s t rest, ds = [] ∧ rem = tx (.td s t) ++ rest ∧ NL rest ∧ fit n s = true ∧ fit n t = true ∧ gd s = true ∧ gd t = true ∧ k = (tx (.td s t)).length ∧ d = enc (.td s t)
theorem nl_cons {c : Nat} {r : List Nat} (h : lowc c = false) : NL (c :: r) := fun c' r' e => by cases e; exact h
section
variable {P : Program} {w : World} {K : Fg} {mg : Str → Option Value} {base : Heap} {C : Addr}
theorem sr_told_ok (c : Cr K C) (D : Mtd K C "told_here" "SignReader.told_here" s_sr_told_here) {n j : Nat} (hj : 2 ≤ j) (m_sr_take : Met P w K mg base 2 C "take" (spRd K C R_take)) (m_sr_saying_here : Met P w K mg base j C "saying_here" (spRd K C (Rr_say n))) :
    Met P w K mg base (j + 1) C "told_here" (spRd K C (Rr_told n)) := by
  refine met_of (k := j) c.cls D sc_sr_told_here (fun _ _ _ _ _ _ us hl => match us, hl with | [_], _ => rfl) (rdlen (n := 0) fun rem ds k d h => by obtain ⟨_, _, _, h, _⟩ := h; rw [h]; rfl) fun f cdv A outer s H vs Q E hr h => ?_
  refine ⟨_, (pss_cons (ps_expr (pm_ m_sr_take hr (by omega) (pv 0) (pa_cons pe_str pa_nil)))
        (pss_cons (ps_set (i := 1) sc_sr_told_here.nd rfl (Or.inl rfl) (pm0_ m_sr_saying_here hr (by omega) (pv 0)))
        (pss_cons (ps_expr (pm_ m_sr_take hr (by omega) (pv 0) (pa_cons pe_str pa_nil)))
        (pss_one (ps_ret (pe_tup (pa_cons pe_str (pa_cons (pv 1) (pa_cons (pm0_ m_sr_saying_here hr (by omega) (pv 0)) pa_nil))))))))), ?_⟩
  obtain ⟨F, a, dx, l, i, k, args, ds, d, rfl, pF, fa, rs, hl, hd, ⟨s, t, rest, rfl, hrem, hNL, hf1, hf2, hg1, hg2, rfl, rfl⟩, q⟩ := h
  cases hd
  have st : Pl C F a dx l H H i := ⟨fun b o _ h => h, pF, rs⟩
  rw [tx] at hrem
  have r1 : l.drop (i + 1) = tx s ++ (125 :: (tx t ++ rest)) := drop_app (x := [123]) (by simpa using hrem)
  have r2 : l.drop (i + 1 + (tx s).length) = 125 :: (tx t ++ rest) := drop_app r1
  have r3 : l.drop (i + 1 + (tx s).length + 1) = tx t ++ rest := drop_app (x := [125]) r2
  have q0 : ("{" : Str) = S [123] := by kernel_rfl
  have q1 : ("}" : Str) = S [125] := by kernel_rfl
  refine m1 (by kernel_rfl) rfl fa hl st (evd_cS q0) ⟨by rw [hrem]; rfl, rfl, rfl⟩ fun v0 H1 st1 e1 _ => ?_
  refine m0 (by kernel_rfl) rfl fa hl st1 ⟨s, _, rfl, r1, nl_cons rfl, hf1, hg1, rfl, rfl⟩ fun v1 H2 st2 e2 h1 => ?_
  refine m1 (by kernel_rfl) rfl fa hl st2 (evd_cS q1) ⟨by rw [r2]; rfl, rfl, rfl⟩ fun v0 H3 st3 e3 _ => ?_
  refine ⟨_, rfl, ?_⟩
  refine m0 (by kernel_rfl) rfl fa hl st3 ⟨t, _, rfl, r3, hNL, hf2, hg2, rfl, rfl⟩ fun v2 H4 st4 e4 h2 => ?_
  refine ⟨sz_of (by simp), fun p hp => ?_⟩
  have st5 := st4.ex (Ex.new (o := .tup [.str "told", v1, v2]) hp)
  refine q _ _ st5.kb (st5.to (by simp [tx]; omega)).rs (new_tup st4.pr hp (.cons (.str _) (.cons ((e3.trans e4).dp h1) (.cons h2 .nil))))
/-- the reader's dicts -/
structure Tr (K : Fg) (w : World) (mg : Str → Option Value) : Prop where
  VOID : ∃ a es n, mg "VOID" = some (.ref a) ∧ Ent K w a es n [("and", .str (S [84])), ("or", .str (S [70]))]
  AROUND : ∃ a es n, mg "AROUND" = some (.ref a) ∧ KDct K w a "must" (.str (S [91, 93])) ∧ KDct K w a "may" (.str (S [60, 62])) ∧ Ent K w a es n [("must", .str (S [91, 93])), ("may", .str (S [60, 62]))]
  BETWEEN : ∃ a es n, mg "BETWEEN" = some (.ref a) ∧ KDict K w a es n ∧ KDct K w a (S [38]) (.str "and") ∧ KDct K w a (S [124]) (.str "or") ∧ HasK K a (S [38]) true ∧ HasK K a (S [124]) true ∧ HasK K a (S [62]) true
abbrev Rr_hand (n : Nat) (rem : List Nat) (ds : List PyData) (k : Nat) (d : PyData) : Prop := ∃ b h s rest, ds = [.str (hdw (.md b h s))] ∧ rem = tx (.md b h s) ++ rest ∧ NL rest ∧ fit n s = true ∧ lowc h = true ∧ gd s = true ∧ k = (tx (.md b h s)).length ∧ d = enc (.md b h s)
theorem sr_hand_ok (Z : Tr K w mg) (c : Cr K C) (D : Mtd K C "handed_here" "SignReader.handed_here" s_sr_handed_here) {n j : Nat} (hj : 3 ≤ j) (m_sr_take : Met P w K mg base 2 C "take" (spRd K C R_take)) (m_sr_letters_here : Met P w K mg base 3 C "letters_here" (spRd K C R_letters)) (m_sr_saying_here : Met P w K mg base j C "saying_here" (spRd K C (Rr_say n))) :
    Met P w K mg base (j + 1) C "handed_here" (spRd K C (Rr_hand n)) := by
  refine met_of (k := j) c.cls D sc_sr_handed_here (fun _ _ _ _ _ _ us hl => match us, hl with | [_, _], _ => rfl) (rdlen (n := 1) fun rem ds k d h => by obtain ⟨_, _, _, _, h, _⟩ := h; rw [h]; rfl) fun f cdv A outer s H vs Q E hr h => ?_
  obtain ⟨aAROUND, es, m, gAROUND, ka1, ka2, _⟩ := Z.AROUND
  refine ⟨_, (pss_cons (ps_asg (pe_ix ix_kdict (pe_glob (v := .ref aAROUND) rfl gAROUND rfl) (pv 1) (fun _ _ => rfl)) (pg_two rfl (pgs_cons (pg_name (i := 2) sc_sr_handed_here.nd rfl (Or.inl rfl)) (pgs_cons (pg_name (i := 3) sc_sr_handed_here.nd rfl (Or.inl rfl)) pgs_nil))))
        (pss_cons (ps_expr (pm_ m_sr_take hr (by omega) (pv 0) (pa_cons (pv 2) pa_nil)))
        (pss_cons (ps_set (i := 4) sc_sr_handed_here.nd rfl (Or.inl rfl) (pm0_ m_sr_letters_here hr (by omega) (pv 0)))
        (pss_cons (ps_expr (pm_ m_sr_take hr (by omega) (pv 0) (pa_cons (pv 3) pa_nil)))
        (pss_one (ps_ret (pe_tup (pa_cons (pv 1) (pa_cons (pv 4) (pa_cons (pm0_ m_sr_saying_here hr (by omega) (pv 0)) pa_nil)))))))))), ?_⟩
  obtain ⟨F, a, dx, l, i, k, args, ds, d, rfl, pF, fa, rs, hl, hd, ⟨b, hh, s, rest, rfl, hrem, hNL, hf, hlo, hg, rfl, rfl⟩, q⟩ := h
  obtain ⟨x, rfl, hx⟩ := of_one hd
  have st : Pl C F a dx l H H i := ⟨fun b o _ h => h, pF, rs⟩
  obtain ⟨o1, o2, hk, ho, l1, l2, l3⟩ : ∃ o1 o2 : Nat, KDct K w aAROUND (hdw (.md b hh s)) (.str (S [o1, o2])) ∧ tx (.md b hh s) = o1 :: hh :: o2 :: tx s ∧ o1 < 128 ∧ o2 < 128 ∧ lowc o2 = false := by
    cases b
    · exact ⟨60, 62, ka2, by rw [tx], by decide, by decide, by decide⟩
    · exact ⟨91, 93, ka1, by rw [tx], by decide, by decide, by decide⟩
  rw [ho] at hrem q
  have r1 : l.drop (i + 1) = hh :: o2 :: (tx s ++ rest) := drop_app (x := [o1]) (by simpa using hrem)
  have r2 : l.drop (i + 1 + 1) = o2 :: (tx s ++ rest) := drop_app (x := [hh]) (by simpa using r1)
  have r3 : l.drop (i + 1 + 1 + 1) = tx s ++ rest := drop_app (x := [o2]) (by simpa using r2)
  refine evd_ixK hk (fun _ => .str _) (evd_var rfl hx) F H pF (Ex.refl _) _ fun v H1 e hv => ?_
  obtain rfl := of_dp_str hv
  refine ⟨o1, o2, rfl, l1, l2, _, _, rfl, _, _, rfl, rfl, ?_⟩
  have st0 := st.ex e
  refine m1 (by kernel_rfl) rfl fa hl st0 (evd_var rfl (.str (S [o1]))) ⟨by rw [hrem]; rfl, rfl, rfl⟩ fun v0 H2 st1 e1 _ => ?_
  refine m0 (by kernel_rfl) rfl fa hl st1 ⟨hh, _, rfl, r1, hlo, nl_cons l3, rfl, rfl⟩ fun v1 H3 st2 e2 h1 => ?_
  refine m1 (by kernel_rfl) rfl fa hl st2 (evd_var rfl (.str (S [o2]))) ⟨by rw [r2]; rfl, rfl, rfl⟩ fun v0 H4 st3 e3 _ => ?_
  refine ⟨_, rfl, _, rfl, ?_⟩
  refine m0 (by kernel_rfl) rfl fa hl st3 ⟨s, _, rfl, r3, hNL, hf, hg, rfl, rfl⟩ fun v2 H5 st4 e4 h2 => ?_
  refine ⟨sz_of (by simp), fun p hp => ?_⟩
  have st5 := st4.ex (Ex.new (o := .tup [x, v1, v2]) hp)
  have ex5 : Ex (del H F) (del H5 F) := (del_ex e).trans (e1.trans (e2.trans (e3.trans e4)))
  refine q _ _ st5.kb (st5.to (by simp; omega)).rs ?_
  rw [enc_eq]
  exact new_tup st4.pr hp (.cons (ex5.dp hx) (.cons ((e3.trans e4).dp h1) (.cons h2 .nil)))
abbrev Rr_more (n : Nat) (x : Sy) (rem : List Nat) (k : Nat) (d : PyData) : Prop :=
  (∃ t rest, rem = 62 :: (tx t ++ 41 :: rest) ∧ fit n t = true ∧ gd t = true ∧ k = 1 + (tx t).length ∧ d = enc (.so x t)) ∨
  ∃ b c r rest, rem = txR b (c :: r) ++ 41 :: rest ∧ r.length ≤ 100 ∧ (∀ u, u ∈ c :: r → fit n u = true ∧ gd u = true) ∧ k = (txR b (c :: r)).length ∧ d = enc (.jn b (x :: c :: r))
def spMo (K : Fg) (C : Addr) (n : Nat) : Sp := fun vs H Q _ => ∃ (F : Addr → Bool) (a dx p : Addr) (l : List Nat) (i k : Nat) (v : V) (x : Sy) (d : PyData), vs = [.ref a, .ref p] ∧ Prv F H ∧ F a = true ∧ F p = true ∧ p ≠ a ∧ Rs C H a dx l i ∧ l.length ≤ 2000000 ∧
  H p = some (.lst [v]) ∧ Dp K (del H F) v (enc x) ∧ Rr_more n x (l.drop i) k d ∧ ∀ v H2, Kc a p H H2 → Rs C H2 a dx l (i + k) → Dp K (del H2 F) v d → Q v H2
theorem S_one {c x : Nat} : decide (S [c] = S [x]) = decide (c = x) := by
  by_cases h : c = x
  · subst h; rw [decide_eq_true rfl, decide_eq_true rfl]
  · rw [decide_eq_false h, decide_eq_false]
    intro e
    have e2 : #[c] = #[x] := congrArg Str.cps e
    have e3 : [c] = [x] := congrArg Array.toList e2
    cases e3
    exact h rfl
theorem S_nil {c : Nat} {r : List Nat} : decide (S (c :: r) = ("" : Str)) = false := decide_eq_false fun e => by
  have := congrArg Str.length e
  rw [S_len] at this
  have e0 : ("" : Str).length = 0 := by decide +kernel
  rw [e0] at this
  exact absurd this (by simp)
section
variable {t : TT} {tu tv : TS} {D : Ends} {σ : L2.St} {H : Hp} {ta : TE}
theorem ifT (h : EvB t σ H true) (k : ∀ H2, Ex H H2 → tu D σ H2) : tIfS t tu tv D σ H := eb0 h fun H2 e => by rw [if_pos rfl]; exact k H2 e
theorem ifF (h : EvB t σ H false) (k : ∀ H2, Ex H H2 → tv D σ H2) : tIfS t tu tv D σ H := eb0 h fun H2 e => by rw [if_neg (by decide)]; exact k H2 e
theorem notInK {a : Addr} {z : Str} {b : Bool} (h : EvD K ta σ H (.str z)) (q : HasK K a z b) : EvB (tTest (tOp (rNotInK K a) ta (tC (.ref a)))) σ H (!b) := by
  obtain ⟨r, hr, rfl⟩ := q
  exact et_d (K := K) fun F H1 p e _ k => h F H1 p e _ fun v H2 c hv => by
    obtain rfl := of_dp_str hv
    exact ⟨z, r, rfl, rfl, hr, k _ H2 c (.bl _)⟩
end
theorem txR_snoc {b : Bool} {u : Sy} : ∀ {l : List Sy}, txR b (l ++ [u]) = txR b l ++ (sn b :: tx u)
  | [] => by simp [txR]
  | a :: r => by rw [List.cons_append, txR, txR_snoc, txR]; simp
theorem encL_snoc {u : Sy} {l : List Sy} : encL (l ++ [u]) = encL l ++ [enc u] := by rw [encL_map, encL_map, List.map_append]; rfl
/-- the loop of more_here -/
def Mw (K : Fg) (C : Addr) (F : Addr → Bool) (a dx p : Addr) (l : List Nat) (i : Nat) (H : Hp) (b : Bool) (x : Sy) (cr : List Sy) (rest : List Nat) (m : Nat) (σ : L2.St) (H' : Hp) : Prop :=
  σ = [some (.ref a), some (.ref p), some (.str (S [sn b]))] ∧ ∃ dn rm vs, dn ++ rm = cr ∧ m = rm.length ∧ Kc a p H H' ∧ Prv F H' ∧ Rs C H' a dx l (i + (txR b dn).length) ∧ H' p = some (.lst vs) ∧ DpAll K (del H' F) vs (encL (x :: dn)) ∧
    l.drop (i + (txR b dn).length) = txR b rm ++ 41 :: rest
theorem sr_more_ok (T : Tx K w mg) (Z : Tr K w mg) (c : Cr K C) (D : Mtd K C "more_here" "SignReader.more_here" s_sr_more_here) {n j : Nat} (hj : 2 ≤ j) (m_sr_ahead : Met P w K mg base 1 C "ahead" (spRd K C R_ahead)) (m_sr_take : Met P w K mg base 2 C "take" (spRd K C R_take)) (m_sr_saying_here : Met P w K mg base j C "saying_here" (spRd K C (Rr_say n))) :
    Met P w K mg base (j + 1) C "more_here" (spMo K C n) := by
  refine met_of (k := j) c.cls D sc_sr_more_here (fun _ _ _ _ _ _ us hl => match us, hl with | [_, _], _ => rfl) (fun vs H Q E h => by obtain ⟨_, _, _, _, _, _, _, _, _, _, rfl, _⟩ := h; rfl) fun f cdv A outer s H vs Q E hr h => ?_
  obtain ⟨aBETWEEN, es, m, gBETWEEN, kBETWEEN, kb1, kb2, hk1, hk2, hk3⟩ := Z.BETWEEN
  refine ⟨_, (pss_cons (ps_set (i := 2) sc_sr_more_here.nd rfl (Or.inl rfl) (pm0_ m_sr_ahead hr (by omega) (pv 0)))
        (pss_cons (ps_if (PW.pt (pw_or (pt_cmpR op_eq (pv 2) pe_str (nomark _)) (pw_or1 (pt_cmpR (op_notIn_kd kBETWEEN) (pv 2) (pe_glob (v := .ref aBETWEEN) rfl gBETWEEN rfl) (by rfl))))) (pss_one ps_never) pss_nil)
        (pss_cons (ps_if (pt_cmpR op_eq (pv 2) pe_str (nomark _)) (pss_cons (ps_expr (pm_ m_sr_take hr (by omega) (pv 0) (pa_cons (pv 2) pa_nil)))
        (pss_one (ps_ret (pe_tup (pa_cons pe_str (pa_cons (pe_ix (show IxR _ (rIxL K) from ix_list) (pv 1) pe_int (fun _ _ => rfl)) (pa_cons (pm0_ m_sr_saying_here hr (by omega) (pv 0)) pa_nil))))))) pss_nil)
        (pss_cons (ps_while PassesOwn.never (pt_cmpR op_eq (pm0_ m_sr_ahead hr (by omega) (pv 0)) (pv 2) (nomark _)) (pss_cons (ps_expr (pm_ m_sr_take hr (by omega) (pv 0) (pa_cons (pv 2) pa_nil)))
        (pss_one (ps_expr (pe_bm PySem.F.plainAttrs_list PySem.F.slot_list_append PySem.F.type_list_append mt_append (pv 1) (pa_cons (pm0_ m_sr_saying_here hr (by omega) (pv 0)) pa_nil))))))
        (pss_one (ps_ret (pe_tup (pa_cons (pe_ix ix_kdict (pe_glob (v := .ref aBETWEEN) rfl gBETWEEN rfl) (pv 2) (fun _ _ => rfl)) (pa_cons (pe_callTy call_tuple_of rfl T.tuple_ (by decide +kernel) (pa_cons (pv 1) pa_nil)) pa_nil))))))))), ?_⟩
  obtain ⟨F, a, dx, p, l, i, k, v, x, d, rfl, pF, fa, fp, hpa, rs, hl, hp, hv, hR, q⟩ := h
  have st : Pl C F a dx l H H i := ⟨fun b o _ h => h, pF, rs⟩
  refine m0 (k := 0) (d := .str (S ((l.drop i).take 1))) (by kernel_rfl) rfl fa hl st ⟨rfl, rfl, rfl⟩ fun v0 H1 st1 e1 h0 => ?_
  obtain rfl := of_dp_str h0
  have p1 : H1 p = some (.lst [v]) := st1.kb p _ hpa hp
  rcases hR with ⟨t, rest, hrem, hf, hg, rfl, rfl⟩ | ⟨b, c0, r, rest, hrem, hr100, hall, rfl, rfl⟩
  · rw [hrem]
    dsimp only [gName, tSeq]
    refine ifF (eb_is (eb_or (eqT (K := K) (evd_var (v := .str (S [62])) rfl (.str _)) evd_str S_nil) fun _ => notInK (evd_var rfl (.str _)) hk3) rfl) fun H2 e2 => ?_
    refine ifT (eqT (K := K) (evd_var (v := .str (S [62])) rfl (.str _)) (s' := ">") evd_str (by kernel_rfl)) fun H3 e3 => ?_
    have st3 := (st1.ex e2).ex e3
    have r1 : l.drop (i + 0 + 1) = tx t ++ (41 :: rest) := drop_app (x := [62]) (by simpa using hrem)
    refine m1 (by kernel_rfl) rfl fa hl st3 (evd_var (v := .str (S [62])) rfl (.str _)) ⟨by rw [show i + 0 = i by omega, hrem]; rfl, rfl, rfl⟩ fun v0 H4 st4 e4 _ => ?_
    have p4 : H4 p = some (.lst [v]) := st4.kb p _ hpa hp
    refine ⟨_, rfl, p, _, 0, _, rfl, rfl, .inl (.inl p4), rfl, ?_⟩
    refine m0 (by kernel_rfl) rfl fa hl st4 ⟨t, _, rfl, r1, nl_cons rfl, hf, hg, rfl, rfl⟩ fun v2 H5 st5 e5 h2 => ?_
    refine ⟨sz_of (by simp), fun pp hpp => ?_⟩
    have st6 := st5.ex (Ex.new (o := .tup [.str "so", v, v2]) hpp)
    have ex5 : Ex (del H F) (del H5 F) := e1.trans ((del_ex (e2.trans e3)).trans (e4.trans e5))
    refine q _ _ (.kb1 st6.kb) (st6.to (by omega)).rs ?_
    rw [enc_eq]
    exact new_tup st5.pr hpp (.cons (.str _) (.cons (ex5.dp hv) (.cons h2 .nil)))
  · have hrem0 := hrem
    rw [txR] at hrem
    rw [hrem]
    dsimp only [gName, tSeq]
    have hkb : HasK K aBETWEEN (S [sn b]) true := by cases b; exact hk2; exact hk1
    have hd62 : decide (S [sn b] = (">" : Str)) = false := by cases b <;> kernel_rfl
    have hkd : KDct K w aBETWEEN (S [sn b]) (.str (hdw (.jn b (x :: c0 :: r)))) := by cases b; exact kb2; exact kb1
    refine ifF (eb_is (eb_or (eqT (K := K) (evd_var (v := .str (S [sn b])) rfl (.str _)) evd_str S_nil) fun _ => notInK (evd_var rfl (.str _)) hkb) rfl) fun H2 e2 => ?_
    refine ifF (eqT (K := K) (evd_var (v := .str (S [sn b])) rfl (.str _)) (s' := ">") evd_str hd62) fun H3 e3 => ?_
    have st3 := (st1.ex e2).ex e3
    have ex3 : Ex (del H F) (del H3 F) := e1.trans (del_ex (e2.trans e3))
    have p3 : H3 p = some (.lst [v]) := st3.kb p _ hpa hp
    refine ⟨Mw K C F a dx p l i H b x (c0 :: r) rest, ⟨_, rfl, [], c0 :: r, [v], rfl, rfl, .kb1 st3.kb, st3.pr, st3.rs, p3, .cons (ex3.dp hv) .nil, by simpa [txR] using hrem0⟩, ?_⟩
    rintro m σ H' ⟨rfl, dn, rm, vs, hcat, rfl, kc, pF1, rs1, hp1, hvs, hrm⟩
    have stl : Pl C F a dx l H' H' (i + (txR b dn).length) := ⟨fun b o _ h => h, pF1, rs1⟩
    have lvs : vs.length = dn.length + 1 := by rw [dpa_len hvs, encL_map]; simp
    have ldn : dn.length ≤ 101 := by have := congrArg List.length hcat; simp at this; omega
    refine m0 (k := 0) (d := .str (S ((l.drop (i + (txR b dn).length)).take 1))) (by kernel_rfl) rfl fa hl stl ⟨rfl, rfl, rfl⟩ fun v0 H4 st4 e4 h0 => ?_
    obtain rfl := of_dp_str h0
    rw [hrm]
    have p4 : H4 p = some (.lst vs) := st4.kb p _ hpa hp1
    have kc4 : Kc a p H H4 := kc.trans (.kb1 st4.kb)
    cases rm with
    | nil =>
      have ht : decide (V.str (S (List.take 1 (txR b [] ++ 41 :: rest))) = V.str (S [sn b])) = false := by
        rw [decide_eq_false]
        intro e
        have e2 : S [41] = S [sn b] := V.str.inj e
        have := S_one (c := 41) (x := sn b)
        rw [e2, decide_eq_true rfl] at this
        cases b
        · exact absurd (of_decide_eq_true this.symm) (by decide)
        · exact absurd (of_decide_eq_true this.symm) (by decide)
      refine ⟨_, rfl, rfl, _, rfl, ?_⟩
      rw [ht]
      show (if false = true then _ else _)
      rw [if_neg (by decide)]
      have hcat2 : dn = c0 :: r := by simpa using hcat
      subst hcat2
      dsimp only [tRet]
      refine evd_ixK hkd (fun _ => .str _) (evd_var (v := .str (S [sn b])) rfl (.str _)) F H4 st4.pr (Ex.refl _) _ fun v5 H5 e5 h5 => ?_
      refine ⟨_, rfl, p, vs, rfl, .inl ⟨.inl (.inl (e5 _ _ p4)), fun t ht => ?_⟩⟩
      have p5 := st4.pr.mono e5
      have p6 := p5.mono (Ex.new (o := .tup vs) ht)
      refine ⟨sz_of (by simp), fun pp hpp => ?_⟩
      have et := Ex.new (o := .tup vs) ht
      have ep := Ex.new (o := .tup [v5, .ref t]) hpp
      refine q _ _ (kc4.trans (.of (e5.trans (et.trans ep)))) (ep _ _ (et _ _ (e5 _ _ st4.rs))) ?_
      rw [enc_eq]
      refine new_tup p6 hpp (.cons ((del_ex et).dp h5) (.cons (new_tup p5 ht ((del_ex e5).dps (e4.dps hvs))) .nil))
    | cons u rm' =>
      have hrm2 := hrm
      rw [txR] at hrm2
      obtain ⟨hfu, hgu⟩ := hall u (by rw [← hcat]; simp)
      have ht : decide (V.str (S (List.take 1 (txR b (u :: rm') ++ 41 :: rest))) = V.str (S [sn b])) = true := by rw [txR]; exact decide_eq_true rfl
      refine ⟨_, rfl, rfl, _, rfl, ?_⟩
      rw [ht]
      show (if true = true then _ else _)
      rw [if_pos rfl]
      refine ⟨Mw K C F a dx p l i H b x (c0 :: r) rest rm'.length, fun σ' H' h => ⟨_, by simp, h⟩, ?_⟩
      have nl : NL (txR b rm' ++ 41 :: rest) := by
        cases rm' with
        | nil => exact nl_cons rfl
        | cons z zs => rw [txR]; cases b; exact nl_cons rfl; exact nl_cons rfl
      have r1 : l.drop (i + (txR b dn).length + 0 + 1) = tx u ++ (txR b rm' ++ 41 :: rest) := drop_app (x := [sn b]) (by simpa using hrm2)
      have r2 := drop_app r1
      refine m1 (by kernel_rfl) rfl fa hl st4 (evd_var (v := .str (S [sn b])) rfl (.str _)) ⟨by rw [show i + (txR b dn).length + 0 = i + (txR b dn).length by omega, hrm2]; rfl, rfl, rfl⟩ fun v0 H5 st5 e5 _ => ?_
      have p5 : H5 p = some (.lst vs) := st5.kb p _ hpa hp1
      refine ⟨_, rfl, .inl ⟨rfl, vs, .inl (.inl p5)⟩, ?_⟩
      refine m0 (by kernel_rfl) rfl fa hl st5 ⟨u, _, rfl, r1, nl, hfu, hgu, rfl, rfl⟩ fun v6 H6 st6 e6 h6 => ?_
      have p6 : H6 p = some (.lst vs) := st6.kb p _ hpa hp1
      refine ⟨p, vs, v6, rfl, rfl, p6, by rw [lvs]; exact Nat.lt_of_lt_of_le (show dn.length + 1 < 1000 by omega) (by decide), ?_⟩
      have sp : i + (txR b dn).length + 0 + 1 + (tx u).length = i + (txR b (dn ++ [u])).length := by rw [txR_snoc]; simp; omega
      refine ⟨rfl, dn ++ [u], rm', vs ++ [v6], by simpa using hcat, rfl, kc.trans ((Kc.kb1 st6.kb).trans (.kb2 Kb.upd)), prv_upd st6.pr, ?_, upd_same, ?_, ?_⟩
      · rw [← sp]
        unfold Rs
        rw [upd_ne (Ne.symm hpa)]
        exact st6.rs
      · rw [del_upd fp]
        have : encL (x :: (dn ++ [u])) = encL (x :: dn) ++ [enc u] := by rw [← List.cons_append, encL_snoc]
        rw [this]
        exact dpa_app ((e4.trans (e5.trans e6)).dps hvs) (.cons h6 .nil)
      · rw [← sp]; exact r2
end
end Kx
/-! ## LA_Read -/
set_option Elab.async false
set_option linter.all false
set_option maxRecDepth 100000
set_option maxHeartbeats 2000000
/-! The reader of texts: room_here. -/
namespace Kx
open PySem PySem.Spec PyProof.Rows L2 Evl
open SX (S S_len S_cat)
theorem gdL_mem : ∀ {l : List Sy} {u : Sy}, gdL l = true → u ∈ l → gd u = true
  | a :: r, u, h, hu => by
    rw [gdL, Bool.and_eq_true] at h
    rcases List.mem_cons.mp hu with rfl | hu
    · exact h.1
    · exact gdL_mem h.2 hu
theorem gd_inn {s u : Sy} (h : gd s = true) (hu : u ∈ inn s) : gd u = true := by
  cases s with
  | lt c => cases hu
  | nt a => simp only [inn, List.mem_singleton] at hu; subst hu; rw [gd] at h; exact h
  | jn b l => rw [gd, Bool.and_eq_true] at h; exact gdL_mem h.2 hu
  | so a b => rw [gd, Bool.and_eq_true] at h; simp only [inn, List.mem_cons, List.not_mem_nil, or_false] at hu; rcases hu with rfl | rfl; exact h.1; exact h.2
  | md b c a => rw [gd, Bool.and_eq_true] at h; simp only [inn, List.mem_singleton] at hu; subst hu; exact h.2
  | td a b => rw [gd, Bool.and_eq_true] at h; simp only [inn, List.mem_cons, List.not_mem_nil, or_false] at hu; rcases hu with rfl | rfl; exact h.1; exact h.2
theorem tx_hd {s : Sy} (h : gd s = true) : ∃ c r, tx s = c :: r ∧ (c = 84 ∨ c = 70 ∨ c = 126 ∨ c = 40 ∨ c = 91 ∨ c = 60 ∨ c = 123 ∨ lowc c = true) := by
  cases s with
  | lt c => rw [gd] at h; exact ⟨c, [], by rw [tx], by simp [h]⟩
  | nt a => exact ⟨126, tx a, by rw [tx], by simp⟩
  | jn b l =>
    cases l with
    | nil => cases b; exact ⟨70, [], by rw [tx]; rfl, by simp⟩; exact ⟨84, [], by rw [tx]; rfl, by simp⟩
    | cons a r =>
      cases r with
      | nil => exact ⟨40, _, by rw [tx], by simp⟩
      | cons c r => exact ⟨40, _, by rw [tx], by simp⟩
  | so a b => exact ⟨40, _, by rw [tx], by simp⟩
  | md b c a => cases b; exact ⟨60, _, by rw [tx], by simp⟩; exact ⟨91, _, by rw [tx], by simp⟩
  | td a b => exact ⟨123, _, by rw [tx], by simp⟩
def roomy : Sy → Bool
  | .jn _ (_ :: _) => true
  | .so _ _ => true
  | _ => false
abbrev Rr_room (n : Nat) (rem : List Nat) (ds : List PyData) (k : Nat) (d : PyData) : Prop := ∃ s rest, ds = [] ∧ rem = tx s ++ rest ∧ roomy s = true ∧ fit (n + 1) s = true ∧ gd s = true ∧ k = (tx s).length ∧ d = enc s
section
variable {P : Program} {w : World} {K : Fg} {mg : Str → Option Value} {base : Heap} {C : Addr}
theorem sr_room_ok (Z : Tr K w mg) (c : Cr K C) (D : Mtd K C "room_here" "SignReader.room_here" s_sr_room_here) {n j : Nat} (hj : 2 ≤ j) (m_sr_ahead : Met P w K mg base 1 C "ahead" (spRd K C R_ahead)) (m_sr_take : Met P w K mg base 2 C "take" (spRd K C R_take)) (m_sr_saying_here : Met P w K mg base j C "saying_here" (spRd K C (Rr_say n)))
    (m_sr_more_here : Met P w K mg base (j + 1) C "more_here" (spMo K C n)) : Met P w K mg base (j + 2) C "room_here" (spRd K C (Rr_room n)) := by
  refine met_of (k := j + 1) c.cls D sc_sr_room_here (fun _ _ _ _ _ _ us hl => match us, hl with | [_], _ => rfl) (rdlen (n := 0) fun rem ds k d h => by obtain ⟨_, _, h, _⟩ := h; rw [h]; rfl) fun f cdv A outer s H vs Q E hr h => ?_
  obtain ⟨aBETWEEN, es, m, gBETWEEN, kBETWEEN, kb1, kb2, hk1, hk2, hk3⟩ := Z.BETWEEN
  refine ⟨_, (pss_cons (ps_expr (pm_ m_sr_take hr (by omega) (pv 0) (pa_cons pe_str pa_nil)))
        (pss_cons (ps_set (i := 1) sc_sr_room_here.nd rfl (Or.inl rfl) (pm0_ m_sr_ahead hr (by omega) (pv 0)))
        (pss_cons (ps_if (PW.pt (pw_and (pt_cmpR op_ne (pv 1) pe_str (nomark _)) (pw_and1 (pt_cmpR op_in_sign (pv 1) pe_str (by rfl))))) (pss_cons (ps_expr (pm_ m_sr_take hr (by omega) (pv 0) (pa_cons (pv 1) pa_nil)))
        (pss_one (ps_set (i := 2) sc_sr_room_here.nd rfl (Or.inl rfl) (pe_tup (pa_cons (pe_ix ix_kdict (pe_glob (v := .ref aBETWEEN) rfl gBETWEEN rfl) (pv 1) (fun _ _ => rfl)) (pa_cons (pe_tup (pa_cons (pm0_ m_sr_saying_here hr (by omega) (pv 0)) pa_nil)) pa_nil)))))) (pss_one (ps_set (i := 2) sc_sr_room_here.nd rfl (Or.inl rfl) (pm_ m_sr_more_here hr (by omega) (pv 0) (pa_cons (pe_lst (pa_cons (pm0_ m_sr_saying_here hr (by omega) (pv 0)) pa_nil)) pa_nil)))))
        (pss_cons (ps_expr (pm_ m_sr_take hr (by omega) (pv 0) (pa_cons pe_str pa_nil)))
        (pss_one (ps_ret (pv 2))))))), ?_⟩
  obtain ⟨F, a, dx, l, i, k, args, ds, d, rfl, pF, fa, rs, hl, hd, ⟨s, rest, rfl, hrem, hrm, hf, hg, rfl, rfl⟩, q⟩ := h
  cases hd
  have st : Pl C F a dx l H H i := ⟨fun b o _ h => h, pF, rs⟩
  obtain ⟨hw, hin⟩ := fit_inn hf
  have q0 : ("(" : Str) = S [40] := by kernel_rfl
  have q1 : (")" : Str) = S [41] := by kernel_rfl
  have h40 : ∃ tl, tx s = 40 :: tl := by
    cases s with
    | jn b l => cases l with
      | nil => cases hrm
      | cons a r => cases r with
        | nil => exact ⟨_, by rw [tx]⟩
        | cons c r => exact ⟨_, by rw [tx]⟩
    | so a b => exact ⟨_, by rw [tx]⟩
    | _ => cases hrm
  obtain ⟨tl, htl⟩ := h40
  refine m1 (by kernel_rfl) rfl fa hl st (evd_cS q0) ⟨by rw [hrem, htl]; rfl, rfl, rfl⟩ fun v0 H1 st1 e1 _ => ?_
  refine m0 (k := 0) (d := .str (S ((l.drop (i + 1)).take 1))) (by kernel_rfl) rfl fa hl st1 ⟨rfl, rfl, rfl⟩ fun v0 H2 st2 e2 h0 => ?_
  obtain rfl := of_dp_str h0
  dsimp only [gName, tSeq]
  have more : (∃ x k rem2, x ∈ inn s ∧ l.drop (i + 1) = tx x ++ rem2 ∧ NL rem2 ∧ Rr_more n x rem2 k (enc s) ∧ rem2.drop k = 41 :: rest ∧ (tx s).length = 1 + (tx x).length + k + 1) ∨ ∃ b x, s = .jn b [x] := by
    cases s with
    | jn b l' => cases l' with
      | nil => cases hrm
      | cons a r => cases r with
        | nil => exact .inr ⟨b, a, rfl⟩
        | cons c r =>
          refine .inl ⟨a, (txR b (c :: r)).length, txR b (c :: r) ++ 41 :: rest, by simp [inn], ?_, ?_, ?_, ?_, ?_⟩
          · rw [tx] at hrem
            exact drop_app (x := [40]) (by rw [hrem]; simp [txR])
          · rw [txR]; cases b; exact nl_cons rfl; exact nl_cons rfl
          · refine .inr ⟨b, c, r, rest, rfl, ?_, fun u hu => ⟨hin u (by simp only [inn]; exact List.mem_cons_of_mem _ hu), gd_inn hg (by simp only [inn]; exact List.mem_cons_of_mem _ hu)⟩, rfl, rfl⟩
            simp [inn] at hw; omega
          · rw [List.drop_left]
          · rw [tx, txR]; simp; omega
    | so a b =>
      refine .inl ⟨a, 1 + (tx b).length, 62 :: (tx b ++ 41 :: rest), by simp [inn], ?_, nl_cons rfl, .inl ⟨b, rest, rfl, hin b (by simp [inn]), gd_inn hg (by simp [inn]), rfl, rfl⟩, ?_, ?_⟩
      · rw [tx] at hrem
        exact drop_app (x := [40]) (by rw [hrem]; simp)
      · rw [Nat.add_comm, List.drop_succ_cons, List.drop_left]
      · rw [tx]; simp; omega
    | _ => cases hrm
  rcases more with ⟨x, k, rem2, hx, r1, nl2, hmo, r2, hlen⟩ | ⟨b, x, rfl⟩
  · have hgx := gd_inn hg hx
    obtain ⟨c1, rr, hc1, hc2⟩ := tx_hd hgx
    have hs : (l.drop (i + 1)).take 1 = [c1] := by rw [r1, hc1]; rfl
    rw [hs]
    have hn : EvB (tTest (tOp (fun x y H Q => ∃ (c : Nat) (z : Str), x = .str ⟨#[c]⟩ ∧ y = .str z ∧ Q (.bl (decide (c ∈ z.cps.toList))) H) (tVar 1) (tC (.str "&|")))) [some (.ref a), some (.str (S [c1])), none] H2 false := fun F H1 p e Q k => ⟨_, rfl, c1, _, rfl, rfl, _, rfl, by
      have e2 : decide (c1 ∈ (("&|" : Str)).cps.toList) = false := by
        have e3 : (("&|" : Str)).cps.toList = [38, 124] := by kernel_rfl
        rw [e3, decide_eq_false]
        intro h
        rcases hc2 with rfl | rfl | rfl | rfl | rfl | rfl | rfl | hc2
        · simp at h
        · simp at h
        · simp at h
        · simp at h
        · simp at h
        · simp at h
        · simp at h
        · simp at h
          rcases h with rfl | rfl
          · cases hc2
          · cases hc2
      rw [e2]
      exact k H1 (Ex.refl _)⟩
    refine ifF (eb_is (eb_and (neT (K := K) (b := true) (evd_var (v := .str (S [c1])) rfl (.str _)) evd_str (by rw [S_nil]; rfl)) fun _ => hn) rfl) fun H3 e3 => ?_
    have st3 := st2.ex e3
    refine ⟨_, rfl, a, dx, _, rfl, st3.rs, by kernel_rfl, ?_⟩
    refine m0 (by kernel_rfl) rfl fa hl st3 ⟨x, _, rfl, r1, nl2, hin x hx, hgx, rfl, rfl⟩ fun v1 H4 st4 e4 h1 => ?_
    refine ⟨sz_of (by simp), fun p hp => ?_⟩
    have r3 : l.drop (i + 1 + 0 + (tx x).length) = rem2 := drop_app r1
    have hpa : p ≠ a := fun z => by subst z; rw [st4.rs] at hp; cases hp
    have enew := Ex.new (o := .lst [v1]) hp
    have fp : add F p a = true := by unfold add; rw [fa]; rfl
    refine ⟨add F p, a, dx, p, l, i + 1 + 0 + (tx x).length, k, v1, x, enc s, rfl, (st4.pr.mono enew).add (some_ne upd_same), fp, add_self, hpa, enew _ _ st4.rs, hl, upd_same, (ex_add hp (Ex.refl _) enew).dp h1, by rw [r3]; exact hmo, fun v2 H5 kc rs5 h2 => ?_⟩
    have kb5 : Kb a H4 H5 := fun b o hb h => kc b o hb (ne_of_none h hp) (enew b o h)
    have st5 : Pl C F a dx l H H5 (i + 1 + 0 + (tx x).length + k) := ⟨st4.kb.trans kb5, rs5.prv kb5 st4.pr, rs5⟩
    have r4 : l.drop (i + 1 + 0 + (tx x).length + k) = 41 :: rest := by rw [← List.drop_drop, r3, r2]
    refine m1 (by kernel_rfl) rfl fa hl st5 (evd_cS q1) ⟨by rw [r4]; rfl, rfl, rfl⟩ fun v3 H6 st6 e6 _ => ?_
    refine ⟨_, rfl, q _ _ st6.kb (st6.to (by omega)).rs (e6.dp (del_add_le.dp h2))⟩
  · rw [tx] at hrem
    have r1 : l.drop (i + 1) = sn b :: (tx x ++ 41 :: rest) := drop_app (x := [40]) (by rw [hrem]; simp)
    have r2 : l.drop (i + 1 + 1) = tx x ++ 41 :: rest := drop_app (x := [sn b]) (by rw [r1]; rfl)
    have r3 := drop_app r2
    have hs : (l.drop (i + 1)).take 1 = [sn b] := by rw [r1]; rfl
    rw [hs]
    have hn : EvB (tTest (tOp (fun x y H Q => ∃ (c : Nat) (z : Str), x = .str ⟨#[c]⟩ ∧ y = .str z ∧ Q (.bl (decide (c ∈ z.cps.toList))) H) (tVar 1) (tC (.str "&|")))) [some (.ref a), some (.str (S [sn b])), none] H2 true := fun F H1 p e Q k => ⟨_, rfl, sn b, _, rfl, rfl, _, rfl, by
      have e2 : decide (sn b ∈ (("&|" : Str)).cps.toList) = true := by cases b <;> kernel_rfl
      rw [e2]
      exact k H1 (Ex.refl _)⟩
    refine ifT (eb_is (eb_and (neT (K := K) (b := true) (evd_var (v := .str (S [sn b])) rfl (.str _)) evd_str (by rw [S_nil]; rfl)) fun _ => hn) rfl) fun H3 e3 => ?_
    have st3 := st2.ex e3
    have hkd : KDct K w aBETWEEN (S [sn b]) (.str (hdw (.jn b [x]))) := by cases b; exact kb2; exact kb1
    refine m1 (by kernel_rfl) rfl fa hl st3 (evd_var (v := .str (S [sn b])) rfl (.str _)) ⟨by rw [show i + 1 + 0 = i + 1 by omega, r1]; rfl, rfl, rfl⟩ fun v0 H4 st4 e4 _ => ?_
    dsimp only [tAsg]
    refine evd_ixK hkd (fun _ => .str _) (evd_var (v := .str (S [sn b])) rfl (.str _)) F H4 st4.pr (Ex.refl _) _ fun v5 H5 e5 h5 => ?_
    have st5 := st4.ex e5
    refine m0 (by kernel_rfl) rfl fa hl st5 ⟨x, _, rfl, r2, nl_cons rfl, hin x (by simp [inn]), gd_inn hg (by simp [inn]), rfl, rfl⟩ fun v6 H6 st6 e6 h6 => ?_
    refine ⟨sz_of (by simp), fun t ht => ?_⟩
    refine ⟨sz_of (by simp), fun p hp => ?_⟩
    have et := Ex.new (o := .tup [v6]) ht
    have ep := Ex.new (o := .tup [v5, .ref t]) hp
    have hd : Dp K (del (upd (upd H6 t (.tup [v6])) p (.tup [v5, .ref t])) F) (.ref p) (enc (.jn b [x])) := by
      rw [enc_eq]
      exact new_tup (st6.pr.mono et) hp (.cons ((e6.trans (del_ex et)).dp h5) (.cons (new_tup st6.pr ht (.cons h6 .nil)) .nil))
    have st7 := (st6.ex et).ex ep
    refine m1 (by kernel_rfl) rfl fa hl st7 (evd_cS q1) ⟨by rw [show i + 1 + 0 + 1 + (tx x).length = i + 1 + 1 + (tx x).length by omega, r3]; rfl, rfl, rfl⟩ fun v3 H8 st8 e8 _ => ?_
    refine ⟨_, rfl, q _ _ st8.kb (st8.to (by rw [tx]; simp; omega)).rs (e8.dp hd)⟩
end
end Kx
/-! ## LB_Read -/
set_option Elab.async false
set_option linter.all false
set_option maxRecDepth 100000
set_option maxHeartbeats 2000000
/-! The reader of texts: saying_here, saying_read. -/
namespace Kx
open PySem PySem.Spec PyProof.Rows L2 Evl
open SX (S S_len S_cat)
section
variable {K : Fg} {σ : L2.St} {H : Hp} {D : Ends} {tu : TS} {ta tb : TE} {t : TT} {Q : VK} {a : Addr} {c0 : Nat}
theorem ifET (h : EvB t σ H true) (k : ∀ H2, Ex H H2 → ta σ H2 Q) : tIf t ta tb σ H Q := eb0 h fun H2 e => by rw [if_pos rfl]; exact k H2 e
theorem ifEF (h : EvB t σ H false) (k : ∀ H2, Ex H H2 → tb σ H2 Q) : tIf t ta tb σ H Q := eb0 h fun H2 e => by rw [if_neg (by decide)]; exact k H2 e
theorem V_one {c x : Nat} : decide (V.str (S [c]) = V.str (S [x])) = decide (c = x) := by
  rw [← S_one (c := c) (x := x)]
  by_cases h : S [c] = S [x]
  · rw [h, decide_eq_true rfl, decide_eq_true rfl]
  · rw [decide_eq_false h, decide_eq_false]
    intro e
    exact h (V.str.inj e)
theorem for2 {av : Addr} {k0 k1 : Str} {v0 v1 : V} {g : TG} {tb : TS} (P1 P2 : L2.St → Hp → Prop) (t0 : ∀ T, H T = none → g (.ref T) σ (upd H T (.tup [.str k0, v0])) fun σ2 H2 => tb { D with nx := P1, ct := P1, bk := D.nx } σ2 H2)
    (t1 : ∀ σ' H', P1 σ' H' → ∀ T, H' T = none → g (.ref T) σ' (upd H' T (.tup [.str k1, v1])) fun σ2 H2 => tb { D with nx := P2, ct := P2, bk := D.nx } σ2 H2) (dn : ∀ σ' H', P2 σ' H' → D.nx σ' H') : tFor (iItemsK av [(k0, v0), (k1, v1)]) g tb D σ H := by
  refine ⟨fun i m σ' H' => m = 2 - i ∧ ((i = 0 ∧ σ' = σ ∧ H' = H) ∨ (i = 1 ∧ P1 σ' H') ∨ (i = 2 ∧ P2 σ' H')), ⟨2, rfl, .inl ⟨rfl, rfl, rfl⟩⟩, ?_⟩
  rintro i m σ' H' ⟨rfl, ⟨rfl, rfl, rfl⟩ | ⟨rfl, h⟩ | ⟨rfl, h⟩⟩
  · refine .inr ⟨by simp [Itm], P1, fun σ2 H2 h => ⟨1, by omega, rfl, .inr (.inl ⟨rfl, h⟩)⟩, ?_⟩
    rintro x H2 ⟨T, k, v, e, rfl, hT, rfl⟩
    cases e
    exact t0 T hT
  · refine .inr ⟨by simp [Itm], P2, fun σ2 H2 h => ⟨0, by omega, rfl, .inr (.inr ⟨rfl, h⟩)⟩, ?_⟩
    rintro x H2 ⟨T, k, v, e, rfl, hT, rfl⟩
    cases e
    exact t1 _ _ h T hT
  · exact .inl ⟨by simp [Itm], dn _ _ h⟩
theorem void_loop {av : Addr} (k1 : c0 = 84 → ∀ D' : Ends, D'.rt = D.rt → ∀ H', Ex H H' → tu D' [some (.ref a), some (.str (S [c0])), some (.str "and"), some (.str (S [84])), none] H')
    (k2 : c0 = 70 → ∀ D' : Ends, D'.rt = D.rt → ∀ H', Ex H H' → tu D' [some (.ref a), some (.str (S [c0])), some (.str "or"), some (.str (S [70])), none] H')
    (k3 : c0 ≠ 84 → c0 ≠ 70 → ∀ H', Ex H H' → D.nx [some (.ref a), some (.str (S [c0])), some (.str "or"), some (.str (S [70])), none] H') :
    tFor (iItemsK av [("and", .str (S [84])), ("or", .str (S [70]))]) (gTup K 2 (gCons (gName 2) (gCons (gName 3) gNil))) (tIfS (tTest (tOp rEq (tVar 1) (tVar 3))) tu tNext) D [some (.ref a), some (.str (S [c0])), none, none, none] H := by
  refine for2 (fun σ' H' => c0 ≠ 84 ∧ σ' = [some (.ref a), some (.str (S [c0])), some (.str "and"), some (.str (S [84])), none] ∧ Ex H H') (fun σ' H' => c0 ≠ 84 ∧ c0 ≠ 70 ∧ σ' = [some (.ref a), some (.str (S [c0])), some (.str "or"), some (.str (S [70])), none] ∧ Ex H H') ?_ ?_ ?_
  · intro T hT
    refine ⟨T, _, rfl, .inl (.inl upd_same), rfl, _, _, rfl, _, _, rfl, rfl, ?_⟩
    by_cases hc : c0 = 84
    · refine ifT (eb_is (eqT (K := K) (evd_var (v := .str (S [c0])) rfl (.str _)) (evd_var (v := .str (S [84])) rfl (.str _)) S_one) (decide_eq_true hc)) fun H2 e2 => ?_
      refine k1 hc _ ?_ H2 ((Ex.new hT).trans e2)
      rfl
    · refine ifF (eb_is (eqT (K := K) (evd_var (v := .str (S [c0])) rfl (.str _)) (evd_var (v := .str (S [84])) rfl (.str _)) S_one) (decide_eq_false hc)) fun H2 e2 => ?_
      exact ⟨hc, rfl, (Ex.new hT).trans e2⟩
  · rintro σ' H' ⟨h84, rfl, e⟩ T hT
    refine ⟨T, _, rfl, .inl (.inl upd_same), rfl, _, _, rfl, _, _, rfl, rfl, ?_⟩
    by_cases hc : c0 = 70
    · refine ifT (eb_is (eqT (K := K) (evd_var (v := .str (S [c0])) rfl (.str _)) (evd_var (v := .str (S [70])) rfl (.str _)) S_one) (decide_eq_true hc)) fun H2 e2 => ?_
      refine k2 hc _ ?_ H2 (e.trans ((Ex.new hT).trans e2))
      rfl
    · refine ifF (eb_is (eqT (K := K) (evd_var (v := .str (S [c0])) rfl (.str _)) (evd_var (v := .str (S [70])) rfl (.str _)) S_one) (decide_eq_false hc)) fun H2 e2 => ?_
      exact ⟨h84, hc, rfl, e.trans ((Ex.new hT).trans e2)⟩
  · rintro σ' H' ⟨h1, h2, rfl, e⟩
    exact k3 h1 h2 H' e
abbrev rItS : R2 := fun x y H Q => ∃ (z : Str) (i : Int) (c : Nat), x = .str z ∧ y = .int i ∧ 0 ≤ i ∧ i < 2 ^ 63 ∧ i < z.length ∧ z.cps[i.toNat]? = some c ∧ Q (.str ⟨#[c]⟩) H
theorem evd_it0 {x y i : Nat} (h : σ[i]? = some (some (.str (S [x, y])))) : EvD K (tOp rItS (tVar i) (tC (.int 0))) σ H (.str (S [x])) := fun F H1 p e Q k =>
  ⟨_, h, S [x, y], 0, x, rfl, rfl, by decide, by decide, by rw [S_len]; simp, rfl, k _ H1 (Ex.refl _) (.str _)⟩
theorem around_loop {av : Addr} {w2 w3 : V} (k1 : c0 = 91 → ∀ D' : Ends, D'.rt = D.rt → ∀ H', Ex H H' → tu D' [some (.ref a), some (.str (S [c0])), some (.str "must"), some w3, some (.str (S [91, 93]))] H')
    (k2 : c0 = 60 → ∀ D' : Ends, D'.rt = D.rt → ∀ H', Ex H H' → tu D' [some (.ref a), some (.str (S [c0])), some (.str "may"), some w3, some (.str (S [60, 62]))] H')
    (k3 : c0 ≠ 91 → c0 ≠ 60 → ∀ H', Ex H H' → D.nx [some (.ref a), some (.str (S [c0])), some (.str "may"), some w3, some (.str (S [60, 62]))] H') :
    tFor (iItemsK av [("must", .str (S [91, 93])), ("may", .str (S [60, 62]))]) (gTup K 2 (gCons (gName 2) (gCons (gName 4) gNil))) (tIfS (tTest (tOp rEq (tVar 1) (tOp rItS (tVar 4) (tC (.int 0))))) tu tNext) D [some (.ref a), some (.str (S [c0])), some w2, some w3, none] H := by
  refine for2 (fun σ' H' => c0 ≠ 91 ∧ σ' = [some (.ref a), some (.str (S [c0])), some (.str "must"), some w3, some (.str (S [91, 93]))] ∧ Ex H H') (fun σ' H' => c0 ≠ 91 ∧ c0 ≠ 60 ∧ σ' = [some (.ref a), some (.str (S [c0])), some (.str "may"), some w3, some (.str (S [60, 62]))] ∧ Ex H H') ?_ ?_ ?_
  · intro T hT
    refine ⟨T, _, rfl, .inl (.inl upd_same), rfl, _, _, rfl, _, _, rfl, rfl, ?_⟩
    by_cases hc : c0 = 91
    · refine ifT (eb_is (eqT (K := K) (evd_var (v := .str (S [c0])) rfl (.str _)) (evd_it0 rfl) S_one) (decide_eq_true hc)) fun H2 e2 => ?_
      refine k1 hc _ ?_ H2 ((Ex.new hT).trans e2)
      rfl
    · refine ifF (eb_is (eqT (K := K) (evd_var (v := .str (S [c0])) rfl (.str _)) (evd_it0 rfl) S_one) (decide_eq_false hc)) fun H2 e2 => ?_
      exact ⟨hc, rfl, (Ex.new hT).trans e2⟩
  · rintro σ' H' ⟨h84, rfl, e⟩ T hT
    refine ⟨T, _, rfl, .inl (.inl upd_same), rfl, _, _, rfl, _, _, rfl, rfl, ?_⟩
    by_cases hc : c0 = 60
    · refine ifT (eb_is (eqT (K := K) (evd_var (v := .str (S [c0])) rfl (.str _)) (evd_it0 rfl) S_one) (decide_eq_true hc)) fun H2 e2 => ?_
      refine k2 hc _ ?_ H2 (e.trans ((Ex.new hT).trans e2))
      rfl
    · refine ifF (eb_is (eqT (K := K) (evd_var (v := .str (S [c0])) rfl (.str _)) (evd_it0 rfl) S_one) (decide_eq_false hc)) fun H2 e2 => ?_
      exact ⟨h84, hc, rfl, e.trans ((Ex.new hT).trans e2)⟩
  · rintro σ' H' ⟨h1, h2, rfl, e⟩
    exact k3 h1 h2 H' e
end
theorem tx_84 {s : Sy} {tl : List Nat} (h : tx s = 84 :: tl) (g : gd s = true) : s = .jn true [] := by
  cases s with
  | lt c => rw [tx] at h; cases h; rw [gd] at g; cases g
  | nt a => simp [tx] at h
  | jn b l =>
    cases l with
    | nil => cases b; simp [tx] at h; rfl
    | cons a r => cases r <;> simp [tx] at h
  | so a b => simp [tx] at h
  | md b c a => cases b <;> simp [tx] at h
  | td a b => simp [tx] at h
theorem tx_70 {s : Sy} {tl : List Nat} (h : tx s = 70 :: tl) (g : gd s = true) : s = .jn false [] := by
  cases s with
  | lt c => rw [tx] at h; cases h; rw [gd] at g; cases g
  | nt a => simp [tx] at h
  | jn b l =>
    cases l with
    | nil => cases b; rfl; simp [tx] at h
    | cons a r => cases r <;> simp [tx] at h
  | so a b => simp [tx] at h
  | md b c a => cases b <;> simp [tx] at h
  | td a b => simp [tx] at h
theorem tx_91 {s : Sy} {tl : List Nat} (h : tx s = 91 :: tl) (g : gd s = true) : ∃ c u, s = .md true c u := by
  cases s with
  | lt c => rw [tx] at h; cases h; rw [gd] at g; cases g
  | nt a => simp [tx] at h
  | jn b l =>
    cases l with
    | nil => cases b <;> simp [tx] at h
    | cons a r => cases r <;> simp [tx] at h
  | so a b => simp [tx] at h
  | md b c a => cases b; simp [tx] at h; exact ⟨_, _, rfl⟩
  | td a b => simp [tx] at h
theorem tx_60 {s : Sy} {tl : List Nat} (h : tx s = 60 :: tl) (g : gd s = true) : ∃ c u, s = .md false c u := by
  cases s with
  | lt c => rw [tx] at h; cases h; rw [gd] at g; cases g
  | nt a => simp [tx] at h
  | jn b l =>
    cases l with
    | nil => cases b <;> simp [tx] at h
    | cons a r => cases r <;> simp [tx] at h
  | so a b => simp [tx] at h
  | md b c a => cases b; exact ⟨_, _, rfl⟩; simp [tx] at h
  | td a b => simp [tx] at h
section
variable {P : Program} {w : World} {K : Fg} {mg : Str → Option Value} {base : Heap} {C : Addr}
theorem sr_saying_ok (T : Tx K w mg) (Z : Tr K w mg) (c : Cr K C) (D : Mtd K C "saying_here" "SignReader.saying_here" s_sr_saying_here) (Dr : Mtd K C "room_here" "SignReader.room_here" s_sr_room_here) (Dm : Mtd K C "more_here" "SignReader.more_here" s_sr_more_here)
    (Dh : Mtd K C "handed_here" "SignReader.handed_here" s_sr_handed_here) (Dt : Mtd K C "told_here" "SignReader.told_here" s_sr_told_here)
    (m_sr_ahead : Met P w K mg base 1 C "ahead" (spRd K C R_ahead)) (m_sr_take : Met P w K mg base 2 C "take" (spRd K C R_take)) (m_sr_letters_here : Met P w K mg base 3 C "letters_here" (spRd K C R_letters)) : ∀ n, Met P w K mg base (3 * n + 3) C "saying_here" (spRd K C (Rr_say n))
  | 0 => met_no (ps := p_sr_saying_here) c.cls D (fun _ _ _ _ _ _ us hl => match us, hl with | [_], _ => rfl) fun vs H Q E h => by
    obtain ⟨_, _, _, _, _, _, _, _, _, _, _, _, _, _, _, ⟨s, _, _, _, _, hf, _⟩, _⟩ := h
    exact fit_zero hf
  | n + 1 => by
    have m_sr_saying_here := sr_saying_ok T Z c D Dr Dm Dh Dt m_sr_ahead m_sr_take m_sr_letters_here n
    have m_sr_more_here := sr_more_ok T Z c Dm (j := 3 * n + 3) (by omega) m_sr_ahead m_sr_take m_sr_saying_here
    have m_sr_room_here := sr_room_ok Z c Dr (j := 3 * n + 3) (by omega) m_sr_ahead m_sr_take m_sr_saying_here m_sr_more_here
    have m_sr_handed_here := sr_hand_ok Z c Dh (j := 3 * n + 3) (by omega) m_sr_take m_sr_letters_here m_sr_saying_here
    have m_sr_told_here := sr_told_ok c Dt (j := 3 * n + 3) (by omega) m_sr_take m_sr_saying_here
    refine met_of (k := 3 * n + 5) c.cls D sc_sr_saying_here (fun _ _ _ _ _ _ us hl => match us, hl with | [_], _ => rfl) (rdlen (n := 0) fun rem ds k d h => by obtain ⟨_, _, h, _⟩ := h; rw [h]; rfl) fun f cdv A outer s H vs Q E hr h => ?_
    obtain ⟨aVOID, es, mm, gVOID, eVOID⟩ := Z.VOID
    obtain ⟨aAROUND, es2, mm2, gAROUND, _, _, eAROUND⟩ := Z.AROUND
    refine ⟨_, (pss_cons (ps_set (i := 1) sc_sr_saying_here.nd rfl (Or.inl rfl) (pm0_ m_sr_ahead hr (by omega) (pv 0)))
        (pss_cons (ps_for PassesOwn.never rfl (pi_itemsK eVOID (pe_glob (v := .ref aVOID) rfl gVOID rfl)) (pg_tup rfl (pgs_cons (pg_name (i := 2) sc_sr_saying_here.nd rfl (Or.inl rfl)) (pgs_cons (pg_name (i := 3) sc_sr_saying_here.nd rfl (Or.inl rfl)) pgs_nil))) (pss_one (ps_if (pt_cmpR op_eq (pv 1) (pv 3) (nomark _)) (pss_cons (ps_expr (pm_ m_sr_take hr (by omega) (pv 0) (pa_cons (pv 1) pa_nil)))
        (pss_one (ps_ret (pe_tup (pa_cons (pv 2) (pa_cons (pe_tup pa_nil) pa_nil)))))) pss_nil)))
        (pss_cons (ps_for PassesOwn.never rfl (pi_itemsK eAROUND (pe_glob (v := .ref aAROUND) rfl gAROUND rfl)) (pg_tup rfl (pgs_cons (pg_name (i := 2) sc_sr_saying_here.nd rfl (Or.inl rfl)) (pgs_cons (pg_name (i := 4) sc_sr_saying_here.nd rfl (Or.inl rfl)) pgs_nil))) (pss_one (ps_if (pt_cmpR op_eq (pv 1) (pe_item_str (pv 4) pe_int (fun _ _ => rfl)) (nomark _)) (pss_one (ps_ret (pm_ m_sr_handed_here hr (by omega) (pv 0) (pa_cons (pv 2) pa_nil)))) pss_nil)))
        (pss_cons (ps_if (pt_cmpR op_eq (pv 1) pe_str (nomark _)) (pss_cons (ps_expr (pm_ m_sr_take hr (by omega) (pv 0) (pa_cons (pv 1) pa_nil)))
        (pss_one (ps_ret (pe_tup (pa_cons pe_str (pa_cons (pm0_ m_sr_saying_here hr (by omega) (pv 0)) pa_nil)))))) pss_nil)
        (pss_cons (ps_if (pt_cmpR op_eq (pv 1) pe_str (nomark _)) (pss_one (ps_ret (pm0_ m_sr_told_here hr (by omega) (pv 0)))) pss_nil)
        (pss_one (ps_ret (pe_ifExp (pt_cmpR op_eq (pv 1) pe_str (nomark _)) (pm0_ m_sr_room_here hr (by omega) (pv 0)) (pe_tup (pa_cons pe_str (pa_cons (pm0_ m_sr_letters_here hr (by omega) (pv 0)) pa_nil))))))))))), ?_⟩
    obtain ⟨F, a, dx, l, i, k, args, ds, d, rfl, pF, fa, rs, hl, hd, ⟨s, rest, rfl, hrem, hNL, hf, hg, rfl, rfl⟩, q⟩ := h
    cases hd
    have st : Pl C F a dx l H H i := ⟨fun b o _ h => h, pF, rs⟩
    obtain ⟨hw, hin⟩ := fit_inn hf
    have q0 : ("~" : Str) = S [126] := by kernel_rfl
    have q1 : ("{" : Str) = S [123] := by kernel_rfl
    have q2 : ("(" : Str) = S [40] := by kernel_rfl
    obtain ⟨c0, tl, htl, hc0⟩ := tx_hd hg
    refine m0 (k := 0) (d := .str (S [c0])) (by kernel_rfl) rfl fa hl st ⟨rfl, rfl, by rw [hrem, htl]; rfl⟩ fun v0 H1 st1 e1 h0 => ?_
    obtain rfl := of_dp_str h0
    have tk1 : (l.drop i).take 1 = [c0] := by rw [hrem, htl]; rfl
    have r1 : l.drop (i + 1) = tl ++ rest := drop_app (x := [c0]) (by rw [hrem, htl]; rfl)
    dsimp only [gName, tSeq]
    have void : ∀ {H2 : Hp} {w3 w4 : Option V} {b : Bool}, s = .jn b [] → c0 = (if b then 84 else 70) → Ex H1 H2 → ∀ D' : Ends, D'.rt = Q →
        (fun D => tDrop (tMeth C "take" (spRd K C R_take) [] E0 (tVar 0) (tCons (tVar 1) tNil)) { D with nx := tRet (tTup (tCons (tVar 2) (tCons (tTup tNil) tNil))) D }) D' [some (.ref a), some (.str (S [c0])), some (.str (hdw s)), w3, w4] H2 := by
      intro H2 w3 w4 b hs hc e D' hD
      subst hs
      refine m1 (by kernel_rfl) rfl fa hl (st1.ex e) (evd_var (v := .str (S [c0])) rfl (.str _)) ⟨by rw [show i + 0 = i by omega, tk1], rfl, rfl⟩ fun v H3 st3 e3 _ => ?_
      refine ⟨_, rfl, sz_of (by simp), fun t ht => ⟨sz_of (by simp), fun p hp => ?_⟩⟩
      show D'.rt _ _
      rw [hD]
      have et := Ex.new (o := .tup []) ht
      have st5 := (st3.ex et).ex (Ex.new (o := .tup [.str (hdw (.jn b [])), .ref t]) hp)
      refine q _ _ st5.kb (st5.to (by cases b <;> simp [tx])).rs ?_
      rw [enc_eq]
      exact new_tup (st3.pr.mono et) hp (.cons (.str _) (.cons (new_tup st3.pr ht .nil) .nil))
    refine void_loop (fun hc D' hD H2 e => ?_) (fun hc D' hD H2 e => ?_) (fun n84 n70 H2 e => ?_)
    · obtain rfl := tx_84 (hc ▸ htl) hg
      exact void (b := true) rfl hc e D' hD
    · obtain rfl := tx_70 (hc ▸ htl) hg
      exact void (b := false) rfl hc e D' hD
    have st2 := st1.ex e
    dsimp only [tSeq]
    refine around_loop (fun hc D' hD H3 e3 => ?_) (fun hc D' hD H3 e3 => ?_) (fun n91 n60 H3 e3 => ?_)
    · obtain ⟨ch, u, rfl⟩ := tx_91 (hc ▸ htl) hg
      have hg2 := hg
      rw [gd, Bool.and_eq_true] at hg2
      dsimp only [tRet]
      rw [hD]
      exact m1 (by kernel_rfl) rfl fa hl (st2.ex e3) (evd_var (v := .str "must") rfl (.str _)) ⟨true, ch, u, rest, rfl, hrem, hNL, hin u (by simp [inn]), hg2.1, hg2.2, rfl, rfl⟩ fun v H4 st4 e4 h4 => q _ _ st4.kb (st4.to (by omega)).rs h4
    · obtain ⟨ch, u, rfl⟩ := tx_60 (hc ▸ htl) hg
      have hg2 := hg
      rw [gd, Bool.and_eq_true] at hg2
      dsimp only [tRet]
      rw [hD]
      exact m1 (by kernel_rfl) rfl fa hl (st2.ex e3) (evd_var (v := .str "may") rfl (.str _)) ⟨false, ch, u, rest, rfl, hrem, hNL, hin u (by simp [inn]), hg2.1, hg2.2, rfl, rfl⟩ fun v H4 st4 e4 h4 => q _ _ st4.kb (st4.to (by omega)).rs h4
    have st3 := st2.ex e3
    have t1 : ∀ {σ : L2.St} {H : Hp}, σ[1]? = some (some (.str (S [c0]))) → EvB (tTest (tOp rEq (tVar 1) (tC (.str "~")))) σ H (decide (c0 = 126)) := fun h => eqT (K := K) (evd_var h (.str _)) (evd_cS q0) S_one
    have t2 : ∀ {σ : L2.St} {H : Hp}, σ[1]? = some (some (.str (S [c0]))) → EvB (tTest (tOp rEq (tVar 1) (tC (.str "{")))) σ H (decide (c0 = 123)) := fun h => eqT (K := K) (evd_var h (.str _)) (evd_cS q1) S_one
    have t3 : ∀ {σ : L2.St} {H : Hp}, σ[1]? = some (some (.str (S [c0]))) → EvB (tTest (tOp rEq (tVar 1) (tC (.str "(")))) σ H (decide (c0 = 40)) := fun h => eqT (K := K) (evd_var h (.str _)) (evd_cS q2) S_one
    dsimp only [tSeq]
    have hcase : (∃ ch, s = .lt ch) ∨ (∃ u, s = .nt u ∧ c0 = 126) ∨ (roomy s = true ∧ c0 = 40) ∨ ∃ u v, s = .td u v ∧ c0 = 123 := by
      cases s with
      | lt ch => exact .inl ⟨_, rfl⟩
      | nt u => rw [tx] at htl; cases htl; exact .inr (.inl ⟨_, rfl, rfl⟩)
      | jn b l =>
        cases l with
        | nil => cases b <;> (rw [tx] at htl; cases htl) <;> contradiction
        | cons x r => cases r <;> (rw [tx] at htl; cases htl; exact .inr (.inr (.inl ⟨rfl, rfl⟩)))
      | so u v => rw [tx] at htl; cases htl; exact .inr (.inr (.inl ⟨rfl, rfl⟩))
      | md b ch u => cases b <;> (rw [tx] at htl; cases htl) <;> contradiction
      | td u v => rw [tx] at htl; cases htl; exact .inr (.inr (.inr ⟨_, _, rfl, rfl⟩))
    rcases hcase with ⟨ch, rfl⟩ | ⟨u, rfl, rfl⟩ | ⟨hro, rfl⟩ | ⟨u, v, rfl, rfl⟩
    · rw [tx] at htl
      cases htl
      have hlow : lowc c0 = true := by rw [gd] at hg; exact hg
      have hlow2 := hlow
      rw [lowc, Bool.and_eq_true, decide_eq_true_eq, decide_eq_true_eq] at hlow2
      refine ifF (eb_is (t1 rfl) (decide_eq_false (by omega))) fun H4 e4 => ?_
      refine ifF (eb_is (t2 rfl) (decide_eq_false (by omega))) fun H5 e5 => ?_
      dsimp only [tRet]
      refine ifEF (eb_is (t3 rfl) (decide_eq_false (by omega))) fun H6 e6 => ?_
      refine m0 (by kernel_rfl) rfl fa hl (((st3.ex e4).ex e5).ex e6) ⟨c0, rest, rfl, by rw [show i + 0 = i by omega, hrem, tx]; rfl, hlow, hNL, rfl, rfl⟩ fun v7 H7 st7 e7 h7 => ?_
      refine ⟨sz_of (by simp), fun p hp => ?_⟩
      have st8 := st7.ex (Ex.new (o := .tup [.str "letter", v7]) hp)
      refine q _ _ st8.kb (st8.to (by simp [tx])).rs ?_
      rw [enc_eq]
      exact new_tup st7.pr hp (.cons (.str _) (.cons h7 .nil))
    · rw [tx] at htl
      cases htl
      refine ifT (eb_is (t1 rfl) rfl) fun H4 e4 => ?_
      refine m1 (by kernel_rfl) rfl fa hl (st3.ex e4) (evd_var (v := .str (S [126])) rfl (.str _)) ⟨by rw [show i + 0 = i by omega, tk1], rfl, rfl⟩ fun v H5 st5 e5 _ => ?_
      refine m0 (by kernel_rfl) rfl fa hl st5 ⟨u, rest, rfl, by rw [show i + 0 + 1 = i + 1 by omega]; exact r1, hNL, hin u (by simp [inn]), gd_inn hg (by simp [inn]), rfl, rfl⟩ fun v7 H7 st7 e7 h7 => ?_
      refine ⟨sz_of (by simp), fun p hp => ?_⟩
      have st8 := st7.ex (Ex.new (o := .tup [.str "not", v7]) hp)
      refine q _ _ st8.kb (st8.to (by simp [tx]; omega)).rs ?_
      rw [enc_eq]
      exact new_tup st7.pr hp (.cons (.str _) (.cons h7 .nil))
    · refine ifF (eb_is (t1 rfl) rfl) fun H4 e4 => ?_
      refine ifF (eb_is (t2 rfl) rfl) fun H5 e5 => ?_
      dsimp only [tRet]
      refine ifET (eb_is (t3 rfl) rfl) fun H6 e6 => ?_
      exact m0 (by kernel_rfl) rfl fa hl (((st3.ex e4).ex e5).ex e6) ⟨s, rest, rfl, hrem, hro, hf, hg, rfl, rfl⟩ fun v7 H7 st7 e7 h7 => q _ _ st7.kb (st7.to (by omega)).rs h7
    · refine ifF (eb_is (t1 rfl) rfl) fun H4 e4 => ?_
      refine ifT (eb_is (t2 rfl) rfl) fun H5 e5 => ?_
      exact m0 (by kernel_rfl) rfl fa hl ((st3.ex e4).ex e5) ⟨u, v, rest, rfl, hrem, hNL, hin u (by simp [inn]), hin v (by simp [inn]), gd_inn hg (by simp [inn]), gd_inn hg (by simp [inn]), rfl, rfl⟩ fun v7 H7 st7 e7 h7 => q _ _ st7.kb (st7.to (by omega)).rs h7
abbrev R_read (n : Nat) (ds : List PyData) (d : PyData) : Prop := ∃ s, ds = [.str (S (tx s))] ∧ (tx s).length ≤ 1000000 ∧ fit n s = true ∧ gd s = true ∧ d = enc s
theorem saying_read_ok (D : Dfn K mg "saying_read" s_saying_read) {n j : Nat} (hj : 2 ≤ j) (k_sr : Mak P w K mg base 1 C "SignReader" (spSR C)) (m_sr_take : Met P w K mg base 2 C "take" (spRd K C R_take)) (m_sr_saying_here : Met P w K mg base j C "saying_here" (spRd K C (Rr_say n))) :
    Cal P w K mg base (j + 1) "saying_read" (spR K (R_read n)) := by
  refine cal_of D sc_saying_read (fun _ _ _ _ _ _ us hl => match us, hl with | [_], _ => rfl) (spR_len fun ds d h => by obtain ⟨s, rfl, _⟩ := h; rfl) fun f cdv A outer s H vs Q E hr h => ?_
  refine ⟨_, (pss_cons (ps_set (i := 1) sc_saying_read.nd rfl (Or.inl rfl) (pk_ k_sr hr (by omega) (pa_cons (pv 0) pa_nil)))
        (pss_cons (ps_set (i := 2) sc_saying_read.nd rfl (Or.inl rfl) (pm0_ m_sr_saying_here hr (by omega) (pv 1)))
        (pss_cons (ps_expr (pm_ m_sr_take hr (by omega) (pv 1) (pa_cons pe_str pa_nil)))
        (pss_one (ps_ret (pv 2)))))), ?_⟩
  obtain ⟨F, ds, d, pF, hd, ⟨s, rfl, hlen, hf, hg, rfl⟩, q⟩ := h
  obtain ⟨x, rfl, hx⟩ := of_one hd
  obtain rfl := of_dp_str hx
  refine ⟨_, rfl, fun a dx na ndx hne => ?_⟩
  have e1 : Ex H (upd (upd H dx (.own a)) a (.ins C dx [])) := (Ex.new ndx).trans (Ex.new (by rw [upd_ne (Ne.symm hne)]; exact na))
  refine ⟨a, dx, tx s, rfl, upd_same, fun H2 hk rs => ⟨rfl, ?_⟩⟩
  have fa : add F a a = true := add_self
  have q0 : ("" : Str) = S [] := by kernel_rfl
  have nl0 : NL [] := fun c r e => by cases e
  have hl : (tx s).length ≤ 2000000 := by omega
  have p2 : Prv (add F a) H2 := rs.prv (a := a) hk ((pF.mono e1).add (some_ne upd_same))
  refine ⟨_, rfl, a, dx, _, rfl, rs, by kernel_rfl, add F a, a, dx, tx s, 0, _, [], [], _, rfl, p2, fa, rs, hl, .nil, ⟨s, [], rfl, by simp, nl0, hf, hg, rfl, rfl⟩, fun v H3 kb rs3 hv => ?_⟩
  have p3 : Prv (add F a) H3 := rs3.prv kb p2
  refine ⟨_, rfl, a, dx, _, rfl, rs3, by kernel_rfl, add F a, a, dx, tx s, 0 + (tx s).length, 1, [.str ""], [.str (S [])], .none, rfl, p3, fa, rs3, hl, .cons (q0 ▸ .str _) .nil, ⟨by simp, rfl, rfl⟩, fun v0 H4 kb4 rs4 _ => ?_⟩
  refine ⟨_, rfl, q v H4 (fun b o h => ?_) (del_add_le.dp ((kb4.del fa).dp hv))⟩
  have hba : b ≠ a := ne_of_none h na
  exact kb4 b o hba (kb b o hba (hk b o hba (e1 b o h)))
end
end Kx
/-! ## LC_Right -/
set_option Elab.async false
set_option linter.all false
set_option maxRecDepth 100000
set_option maxHeartbeats 2000000
/-! The law's own test. -/
namespace Kx
open PySem PySem.Spec PyProof.Rows L2 Evl
open SX (S S_len S_cat)
section
variable {K : Fg} {σ : L2.St} {H : Hp} {te ta tb : TE} {D : Ends} {F : Addr → Bool} {t : TT} {tu tv : TS}
theorem evd_lrg {n : Nat} (h : EvD K te σ H (inD n)) (hn : n ≤ 1000) : EvD K (tLstRg (tRg1 te)) σ H (.list ((List.range n).map inD)) := fun F H1 p a _ k => h F H1 p a _ fun v H2 b hv => by
  obtain rfl := of_dp_int hv
  refine ⟨_, rfl, RgOk.of_le (by omega) (by omega) (by omega) (by omega), fun q hq => k _ _ (b.trans (Ex.new hq)) (new_lst (p.mono b) hq ?_)⟩
  have e : rgV 0 (n : Int) = ((List.range n).map fun i : Nat => (i : Int)).map V.int := by
    unfold rgV
    rw [List.map_map]
    have : ((n : Int) - 0).toNat = n := by omega
    rw [this]
    exact List.map_congr_left fun i _ => congrArg V.int (by show 0 + (i : Int) = i; omega)
  rw [e, inDs]
  exact dpa_ints _
theorem shp_ns {xs : List Nat} : ∀ d, d ∈ xs.map inD → d.canLay0 = true ∧ d.depth ≤ 10 := fun d hd => by
  obtain ⟨x, _, rfl⟩ := List.mem_map.mp hd
  exact can_int _
theorem neDt {xs ys : List Nat} (h : EvD K ta σ H (.tuple (xs.map inD))) (h2 : EvD K tb σ H (.tuple (ys.map inD))) (e : xs = ys) : EvB (tTest (tOp (rNeD K) ta tb)) σ H false :=
  eb_is (et_d (evd_neD h h2 (shp_tup shp_ns) (shp_tup shp_ns))) (by rw [PyData.eqv, eqv_ints, decide_eq_true e]; rfl)
theorem neDl {xs ys : List Nat} (h : EvD K ta σ H (.list (xs.map inD))) (h2 : EvD K tb σ H (.list (ys.map inD))) (e : xs = ys) : EvB (tTest (tOp (rNeD K) ta tb)) σ H false :=
  eb_is (et_d (evd_neD h h2 (shp_lst shp_ns) (shp_lst shp_ns))) (by rw [PyData.eqv, eqv_ints, decide_eq_true e]; rfl)
theorem ifFd (h : EvB t σ (del H F) false) (p : Prv F H) (k : ∀ H2, Ex H H2 → tv D σ H2) : tIfS t tu tv D σ H := h F H p (Ex.refl _) _ fun H2 e => by rw [if_neg (by decide)]; exact k H2 e
theorem rd_par {tr : TA} {tz : TS} {d d1 d2 : PyData} {i j : Nat} (h : EvDs K tr σ H [d1, d2]) (k : ∀ v1 v2 H', Ex H H' → Dp K H' v1 d1 → Dp K H' v2 d2 → RetD K tz ((σ.set i (some v1)).set j (some v2)) H' d) : RetD K (tSeq (tPar i j tr) tz) σ H d := fun F H1 p a D q =>
  h F H1 p a _ fun vs H2 b hv => by
    obtain ⟨y, z, rfl, h1, h2⟩ := of_two hv
    exact ⟨y, z, rfl, k _ _ _ (a.trans (del_ex b)) h1 h2 F _ (p.mono b) (Ex.refl _) D fun w H3 c hw => q w H3 (b.trans c) hw⟩
end
abbrev wh (W : Web) (s : Sy) : List Nat := (List.range W.many).filter (satW W s)
abbrev nN : Nat := 192
abbrev nM : Nat := 171
abbrev R_right (K : Fg) (H : Hp) (vs : List V) (P : Hp → V → Prop) : Prop := ∃ (v : V) (W : Web) (x1 x2 : V) (s : Sy) (es : List Sy), vs = [v, x1, x2] ∧ WbF K H v W ∧ Dp K H x1 (enc s) ∧ Dp K H x2 (.list (encL es)) ∧ WOk W ∧ 1 ≤ W.many ∧ W.many ≤ 4 ∧ es.length ≤ 20 ∧
  (∀ u, u ∈ s :: es → dp u ≤ nN ∧ ld u ≤ nM ∧ wide u = true) ∧ (∀ u, u ∈ es → ∀ x, x < W.many → satW W u x = satW W s x) ∧ P = fun H u => Dp K H u (.bool true)
section
variable {P : Program} {w : World} {K : Fg} {mg : Str → Option Value} {base : Heap}
theorem law_is_right_ok (T : Tx K w mg) (D : Dfn K mg "_law_is_right" s_law_is_right) (c_law_where : Cal P w K mg base 195 "_law_where" (spV (R_lw K (nN + 1)))) (c_worlds_where : Cal P w K mg base 200 "worlds_where" (spR K (R_where (nM + 1))))
    (c_holds_at : Cal P w K mg base 200 "holds_at" (spR K (R_hold (nM + 1)))) : Cal P w K mg base 201 "_law_is_right" (spV (R_right K)) := by
  refine cal_of (k := 200) D sc_law_is_right (fun _ _ _ _ _ _ us hl => match us, hl with | [_, _, _], _ => rfl) (spV_len fun H vs P h => by obtain ⟨_, _, _, _, _, _, rfl, _⟩ := h; rfl) fun fa cdv A outer s H vs Q E hr h => ?_
  refine ⟨_, (pss_cons (ps_set (i := 3) sc_law_is_right.nd rfl (Or.inl rfl) (pe_listRg rfl rfl T.list_ (prg_1 rfl T.range_ (pe_ix (show IxR _ (rIxT K) from ix_tup) (pv 0) pe_int (fun _ _ => rfl)))))
        (pss_cons (ps_set (i := 4) sc_law_is_right.nd rfl (Or.inr rfl) (pc_ c_law_where hr (by omega) (pa_cons (pv 0) (pa_cons (pv 3) (pa_cons (pv 1) pa_nil)))))
        (pss_cons (ps_if (PW.pt (pw_or (pt_cmpR (op_neD hr.units) (pc_ c_worlds_where hr (by omega) (pa_cons (pv 0) (pa_cons (pv 1) pa_nil))) (pe_callTy call_tuple_of rfl T.tuple_ (by decide +kernel) (pa_cons (pv 4) pa_nil)) (nomark _)) (pw_or1 (pt_cmpR (op_neD hr.units) (pe_lc (own := [("_law_k", 8)]) (g := gName 8) rfl sc_law_is_right.nd (show PI _ _ _ (iList K _) from pi_list (pv 3)) (blkOk_by (N := n_law_is_right) (sc := defScope s_law_is_right) (own := [("_law_k", 8)]) (by decide +kernel)) (fun _ _ _ _ _ => (pg_name (i := 8) sc_law_is_right.nd rfl (Or.inl rfl))) (fun _ _ _ _ _ => (pts_one (pt_val (pc_ c_holds_at hr (by omega) (pa_cons (pv 0) (pa_cons (pv 8) (pa_cons (pv 1) pa_nil))))))) (fun _ _ _ _ _ => (pv 8))) (pv 4) (nomark _))))) (pss_one (ps_ret pe_bl)) pss_nil)
        (pss_cons (ps_par (i := 5) (j := 6) rfl sc_law_is_right.nd rfl rfl (by decide) rfl rfl (pa_cons (pe_callTy call_tuple_of rfl T.tuple_ (by decide +kernel) (pa_cons (pe_lc (own := [("_law_k", 8)]) (g := gName 8) rfl sc_law_is_right.nd (show PI _ _ _ (iList K _) from pi_list (pv 3)) (blkOk_by (N := n_law_is_right) (sc := defScope s_law_is_right) (own := [("_law_k", 8)]) (by decide +kernel)) (fun _ _ _ _ _ => (pg_name (i := 8) sc_law_is_right.nd rfl (Or.inl rfl))) (fun _ _ _ _ _ => (pts_one (pt_cmpR (show OpR _ _ (rIn K true) from op_notIn_seq) (pv 8) (pv 4) (by rfl)))) (fun _ _ _ _ _ => (pv 8))) pa_nil)) (pa_cons (pe_callTy call_tuple_of rfl T.tuple_ (by decide +kernel) (pa_cons (pc_ c_law_where hr (by omega) (pa_cons (pv 0) (pa_cons (pv 3) (pa_cons (pe_tup (pa_cons pe_str (pa_cons pe_str (pa_cons (pv 1) pa_nil)))) pa_nil)))) pa_nil)) pa_nil)) rfl)
        (pss_cons (ps_for PassesOwn.never rfl (show PI _ _ _ (iList K _) from pi_list (pv 2)) (pg_name (i := 7) sc_law_is_right.nd rfl (Or.inl rfl)) (pss_cons (ps_if (PW.pt (pw_or (pt_cmpR (op_neD hr.units) (pc_ c_law_where hr (by omega) (pa_cons (pv 0) (pa_cons (pv 3) (pa_cons (pv 7) pa_nil)))) (pv 4) (nomark _)) (pw_or1 (pt_cmpR (op_neD hr.units) (pc_ c_worlds_where hr (by omega) (pa_cons (pv 0) (pa_cons (pv 7) pa_nil))) (pe_callTy call_tuple_of rfl T.tuple_ (by decide +kernel) (pa_cons (pv 4) pa_nil)) (nomark _))))) (pss_one (ps_ret pe_bl)) pss_nil)
        (pss_cons (ps_if (pt_cmpR (op_neD hr.units) (pc_ c_worlds_where hr (by omega) (pa_cons (pv 0) (pa_cons (pe_tup (pa_cons pe_str (pa_cons (pv 7) pa_nil))) pa_nil))) (pv 5) (nomark _)) (pss_one (ps_ret pe_bl)) pss_nil)
        (pss_one (ps_if (pt_cmpR (op_neD hr.units) (pc_ c_worlds_where hr (by omega) (pa_cons (pv 0) (pa_cons (pe_tup (pa_cons pe_str (pa_cons pe_str (pa_cons (pv 7) pa_nil)))) pa_nil))) (pv 6) (nomark _)) (pss_one (ps_ret pe_bl)) pss_nil)))))
        (pss_one (ps_ret pe_bl))))))), ?_⟩
  refine retP_of h fun P H hR => ?_
  obtain ⟨v, W, x1, x2, s, es, rfl, h0, h1, h2, hW, hm1, hm4, hel, hall, heq, rfl⟩ := hR
  obtain ⟨hdp, hld, hwd⟩ := hall s List.mem_cons_self
  -- calls
  have ww : ∀ {σ : L2.St} {H : Hp} {te : TE} {u : Sy}, σ[0]? = some (some v) → WbF K H v W → EvD K te σ H (enc u) → ld u ≤ nM + 1 → wide u = true → EvD K (tCall (spR K (R_where (nM + 1))) [] E0 (tCons (tVar 0) (tCons te tNil))) σ H (.tuple ((wh W u).map inD)) :=
    fun hv hw ha hl hwd => evd_call (evds_cons (evd_var hv hw.dp) (evds_cons ha evds_nil)) ⟨W, _, rfl, hW, hl, hwd, rfl⟩
  have lw : ∀ {σ : L2.St} {H : Hp} {te : TE} {u : Sy} {x3 : V}, σ[0]? = some (some v) → WbF K H v W → σ[3]? = some (some x3) → Dp K H x3 (.list ((List.range W.many).map inD)) → EvD K te σ H (enc u) → dp u ≤ nN + 1 → wide u = true →
      EvD K (tCall (spV (R_lw K (nN + 1))) [] E0 (tCons (tVar 0) (tCons (tVar 3) (tCons te tNil)))) σ H (.list ((wh W u).map inD)) := fun {σ H te u x3} hv hw h3 hx3 ha hd hwd =>
    evd_of (evp_callV (P := fun H v => Dp K H v (.list ((wh W u).map inD))) hv (evds_cons (evd_var h3 hx3) (evds_cons ha evds_nil)) fun H' vs e hvs => by
      obtain ⟨y1, y2, rfl, k1, k2⟩ := of_two hvs
      exact ⟨_, W, y1, y2, List.range W.many, u, rfl, WbF.mono _ _ _ e hw, k1, k2, hW, by rw [List.length_range]; omega, fit_of _ _ hd hwd, rfl⟩)
  have mus : ∀ {σ : L2.St} {H : Hp} {te : TE} {u : Sy}, EvD K te σ H (enc u) → EvD K (tTup (tCons (tC (.str "must")) (tCons (tC (.str "h")) (tCons te tNil)))) σ H (enc (.md true 104 u)) := fun h =>
    evd_is (evd_tup (evds_cons evd_str (evds_cons evd_str (evds_cons h evds_nil)))) (by rw [enc]; rfl)
  have nts : ∀ {σ : L2.St} {H : Hp} {te : TE} {u : Sy}, EvD K te σ H (enc u) → EvD K (tTup (tCons (tC (.str "not")) (tCons te tNil))) σ H (enc (.nt u)) := fun h =>
    evd_is (evd_tup (evds_cons evd_str (evds_cons h evds_nil))) (by rw [enc])
  refine rd_of (rp_of ?_)
  refine rd_set (evd_lrg (n := W.many) (evd_ixT (i := 0) (evd_var rfl h0.dp) evd_int rfl) (by omega)) fun x3 H1 e1 h3 => ?_
  refine rd_set (lw (σ := [some v, some x1, some x2, some x3, none, none, none, none, none]) rfl (WbF.mono _ _ _ e1 h0) rfl h3 (evd_var rfl (e1.dp h1)) (Nat.le_succ_of_le hdp) hwd) fun x4 H2 e2 h4 => ?_
  have e12 := e1.trans e2
  have w2 := WbF.mono _ _ _ e12 h0
  have wnt : wh W (.nt s) = (List.range W.many).filter fun x => !decide (x ∈ wh W s) := List.filter_congr fun x hx => by
    rw [mem_flt hx]
    show sat _ _ _ _ _ = _
    rw [sat]
  refine rd_F (eb_is (eb_or (neDt (ww (σ := [some v, some x1, some x2, some x3, some x4, none, none, none, none]) rfl w2 (evd_var rfl (e12.dp h1)) (Nat.le_succ_of_le hld) hwd) (evd_tupL (evd_var rfl h4)) rfl) fun _ => neDl (xs := wh W s)
    (evd_lc1 (as := List.range W.many) (en := inD) (fun x => satW W s x) inD (ei_lst (evd_var rfl (e2.dp h3))) (by rw [List.length_range]; omega) (fun _ => rfl) fun x hx y H3 e3 hy => ⟨et_dB (evd_call (evds_cons (evd_var rfl (WbF.mono _ _ _ e3 w2).dp) (evds_cons (evd_var rfl hy) (evds_cons (evd_var rfl (e3.dp (e12.dp h1))) evds_nil))) ⟨W, x, s, rfl, hW, by omega, List.mem_range.mp hx, Nat.le_succ_of_le hld, hwd, rfl⟩), fun _ => evd_var rfl hy⟩)
    (evd_var rfl h4) rfl) rfl) ?_
  refine rd_par (d1 := .tuple ((wh W (.nt s)).map inD)) (d2 := .tuple ((wh W (.md true 104 s)).map inD)) (evds_cons (evd_tupL (evd_is (evd_lc1 (as := List.range W.many) (en := inD) (fun x => !decide (x ∈ wh W s)) inD (ei_lst (evd_var rfl (e2.dp h3))) (by rw [List.length_range]; omega) (fun _ => rfl) fun x hx y H3 e3 hy => ⟨et_d (evd_inN (neg := true) (evd_var rfl hy) (evd_var rfl (e3.dp h4))), fun _ => evd_var rfl hy⟩) (by rw [wnt])))
    (evds_cons (evd_tupL (lw rfl w2 rfl (e2.dp h3) (mus (evd_var rfl (e12.dp h1))) (by rw [dp]; omega) (by rw [wide]; exact hwd))) evds_nil)) fun x5 x6 H3 e3 h5 h6 => ?_
  intro F H4 p4 a4 DD qq
  refine for_d (F := F) (ei_lst (ds := encL es) (evd_var (v := x2) rfl ((e12.trans e3).dp h2))) p4 a4 fun H5 e5 => ⟨fun i F' σ' H' => F' = F ∧ Ex H4 H' ∧ Ex H3 (del H' F') ∧ ∃ o, σ' = [some v, some x1, some x2, some x3, some x4, some x5, some x6, o, none], ⟨rfl, e5, a4.trans (del_ex e5), none, rfl⟩, ?_, ?_, ?_⟩
  · rintro i F' σ' H' H'' ex ⟨rfl, b, a, o⟩
    exact ⟨rfl, b.trans ex, a.trans (del_ex ex), o⟩
  · rintro i x σ' H' F' d hd ⟨rfl, b, a, o, rfl⟩ pF eF hx
    rw [encL_map, List.getElem?_map] at hd
    obtain ⟨u, hu, rfl⟩ := Option.map_eq_some_iff.mp hd
    have hmem : u ∈ es := List.mem_of_getElem? hu
    obtain ⟨udp, uld, uwd⟩ := hall u (List.mem_cons_of_mem _ hmem)
    have hq := heq u hmem
    have q1 : wh W u = wh W s := List.filter_congr fun x hx => hq x (List.mem_range.mp hx)
    have q2 : wh W (.nt u) = wh W (.nt s) := List.filter_congr fun x hx => by
      show sat _ _ _ _ _ = sat _ _ _ _ _
      rw [sat, sat]
      exact congrArg (!·) (hq x (List.mem_range.mp hx))
    have q3 : wh W (.md true 104 u) = wh W (.md true 104 s) := List.filter_congr fun x hx => by
      show sat _ _ _ _ _ = sat _ _ _ _ _
      have q1' : (List.range W.many).filter (fun y => sat W.E W.L u (List.range W.many) y) = (List.range W.many).filter (fun y => sat W.E W.L s (List.range W.many) y) := q1
      rw [md_all, md_all, q1']
    have aa := (e12.trans e3).trans a
    have a3 := e3.trans a
    have w5 := WbF.mono _ _ _ aa h0
    have k3 := (e2.trans a3).dp h3
    refine ifFd (eb_is (eb_or (neDl (lw (σ := [some v, some x1, some x2, some x3, some x4, some x5, some x6, some x, none]) rfl w5 rfl k3 (evd_var rfl hx) (Nat.le_succ_of_le udp) uwd) (evd_var rfl (a3.dp h4)) q1)
      fun _ => neDt (ww rfl w5 (evd_var rfl hx) (Nat.le_succ_of_le uld) uwd) (evd_tupL (evd_var rfl (a3.dp h4))) q1) rfl) pF fun H6 e6 => ?_
    have a6 := a.trans (del_ex e6)
    have w6 := WbF.mono _ _ _ (del_ex e6) w5
    have hx6 := (del_ex e6).dp hx
    refine ifFd (neDt (ww (σ := [some v, some x1, some x2, some x3, some x4, some x5, some x6, some x, none]) rfl w6 (nts (evd_var rfl hx6)) (by rw [ld]; omega) (by rw [wide]; exact uwd)) (evd_var rfl (a6.dp h5)) q2) (pF.mono e6) fun H7 e7 => ?_
    have a7 := a6.trans (del_ex e7)
    refine ifFd (neDt (ww (σ := [some v, some x1, some x2, some x3, some x4, some x5, some x6, some x, none]) rfl (WbF.mono _ _ _ (del_ex e7) w6) (mus (evd_var rfl ((del_ex e7).dp hx6))) (by rw [ld]; omega) (by rw [wide]; exact uwd)) (evd_var rfl (a7.dp h6)) q3) ((pF.mono e6).mono e7) fun H8 e8 => ?_
    exact ⟨_, ⟨rfl, b.trans (e6.trans (e7.trans e8)), a7.trans (del_ex e8), some x, rfl⟩, ((pF.mono e6).mono e7).mono e8, eF.trans (del_ex (e6.trans (e7.trans e8)))⟩
  · rintro σ' H' F' ⟨rfl, b, a, o, rfl⟩ pF eF
    exact qq _ H' b (.bl _)
end
end Kx
/-! ## LD_Plain -/
set_option Elab.async false
set_option linter.all false
set_option maxRecDepth 100000
set_option maxHeartbeats 1000000
/-! What the law's sayings weigh. -/
namespace Kx
open PySem PySem.Spec PyProof.Rows L2 Evl
theorem gd_wide : ∀ s, gd s = true → wide s = true := by
  intro s
  induction s using Sy.ind with
  | h1 c => intro _; rfl
  | h2 s ih => intro h; rw [gd] at h; rw [wide]; exact ih h
  | h3 b l ih =>
    intro h
    rw [gd, Bool.and_eq_true, decide_eq_true_eq] at h
    exact wide_of (by omega) fun s hs => ih s hs (gdL_mem h.2 hs)
  | h4 s t ih1 ih2 => intro h; rw [gd, Bool.and_eq_true] at h; rw [wide, ih1 h.1, ih2 h.2]; rfl
  | h5 b c s ih => intro h; rw [gd, Bool.and_eq_true] at h; rw [wide]; exact ih h.2
  | h6 s t ih1 ih2 => intro h; rw [gd, Bool.and_eq_true] at h; rw [wide, ih1 h.1, ih2 h.2]; rfl
theorem tx_nd : ∀ s, gd s = true → (tx s).length ≤ 4 * nd s := by
  intro s
  induction s using Sy.ind with
  | h1 c => intro _; rw [tx, nd]; simp
  | h2 s ih => intro h; rw [gd] at h; have := ih h; rw [tx, nd]; simp; omega
  | h3 b l ih =>
    intro h
    rw [gd, Bool.and_eq_true, decide_eq_true_eq] at h
    have hm : ∀ u, u ∈ l → (tx u).length ≤ 4 * nd u := fun u hu => ih u hu (gdL_mem h.2 hu)
    match l, h, hm with
    | [], _, _ => rw [tx, nd, ndL]; simp
    | [a], _, hm =>
      have := hm a (by simp)
      rw [tx, nd, ndL, ndL]; simp; omega
    | [a, c], _, hm =>
      have h1 := hm a (by simp)
      have h2 := hm c (by simp)
      rw [tx, nd, ndL, ndL, ndL, txR]; simp; omega
    | [a, c, e], _, hm =>
      have h1 := hm a (by simp)
      have h2 := hm c (by simp)
      have h3 := hm e (by simp)
      rw [tx, nd, ndL, ndL, ndL, ndL, txR, txR]; simp; omega
    | a :: c :: e :: f :: r, h, _ => simp at h
  | h4 s t ih1 ih2 => intro h; rw [gd, Bool.and_eq_true] at h; have := ih1 h.1; have := ih2 h.2; rw [tx, nd]; simp; omega
  | h5 b c s ih => intro h; rw [gd, Bool.and_eq_true] at h; have := ih h.2; cases b <;> (rw [tx, nd]; simp; omega)
  | h6 s t ih1 ih2 => intro h; rw [gd, Bool.and_eq_true] at h; have := ih1 h.1; have := ih2 h.2; rw [tx, nd]; simp; omega
theorem tx_cm {s : Sy} {n : Nat} (h : gd s = true) (hc : cm s ≤ n) : (tx s).length ≤ 4 + 12 * n := by
  have h1 := tx_nd s h
  have h2 := nd_cm s h
  omega
mutual
/-- what a way down weighs more behind put_behind, in few words -/
def wl : Sy → Nat
  | .lt _ => 0
  | .nt s => wl s + 4
  | .jn true l => wlL l
  | .jn false [] => 0
  | .jn false (a :: r) => max (wl a) (wlL r) + 4
  | .so s t => max (wl s) (wl t)
  | .md true _ s => wl s + 4
  | .md false _ s => wl s + 6
  | .td s t => max (wl s) (wl t)
def wlL : List Sy → Nat
  | [] => 0
  | s :: r => max (wl s) (wlL r)
end
theorem wlL_le : ∀ {l : List Sy} {n : Nat}, wlL l ≤ n ↔ ∀ s, s ∈ l → wl s ≤ n
  | [], n => by simp [wlL]
  | a :: r, n => by
    rw [wlL, Nat.max_le, wlL_le (l := r)]
    simp
theorem wl_mem {l : List Sy} {s : Sy} (h : s ∈ l) : wl s ≤ wlL l := wlL_le.mp (Nat.le_refl _) s h
theorem wlLm {f : Sy → Sy} {l : List Sy} {n : Nat} (h : ∀ s, s ∈ l → wl (f s) ≤ n) : wlL (l.map f) ≤ n := wlL_le.mpr fun s hs => by
  obtain ⟨t, ht, rfl⟩ := List.mem_map.mp hs
  exact h t ht
theorem ld_pos : ∀ s, 1 ≤ ld s := fun s => by cases s <;> rw [ld] <;> omega
theorem lf_pb (f : Sy) : ∀ s, plain s = true → ld (fw (pb f s)) ≤ ld (fw s) + wl s + 3 + ld (fw f) := by
  intro s
  have pf := ld_pos (fw f)
  induction s using Sy.ind with
  | h1 c => intro _; simp only [pb, fw, ld, ldL, wl]; omega
  | h2 s ih => intro h; rw [plain] at h; have := ih h; simp only [pb, fw, ld, ldL, wl]; omega
  | h3 c l ih =>
    intro hp
    have hl := plain_jn hp
    cases c
    · cases l with
      | nil => simp only [pb, pbL, fw, fwN, ld, ldL, wl]; omega
      | cons a r =>
        have h : ldL (fwN (pbL f (a :: r))) ≤ ldL (fwN (a :: r)) + wlL (a :: r) + 3 + ld (fw f) := by
          rw [fwN_map, fwN_map, pbL_map, List.map_map, List.map_map, List.map_map]
          refine ldLm fun s hs => ?_
          have h1 := ih s hs (hl s hs)
          have h2 := wl_mem hs
          have h3 : ld (Sy.nt (fw s)) ≤ ldL ((a :: r).map (Sy.nt ∘ fw)) := ld_mem (List.mem_map.mpr ⟨s, hs, rfl⟩)
          simp only [Function.comp_apply, ld] at h3 ⊢
          omega
        rw [pb]
        simp only [fw, ld, ldL, wl] at h ⊢
        rw [wlL] at h
        omega
    · have h : ldL (fwL (pbL f l)) ≤ ldL (fwL l) + wlL l + 3 + ld (fw f) := by
        rw [fwL_map, fwL_map, pbL_map, List.map_map]
        refine ldLm fun s hs => ?_
        have h1 := ih s hs (hl s hs)
        have h2 := wl_mem hs
        have h3 : ld (fw s) ≤ ldL (l.map fw) := ld_mem (List.mem_map.mpr ⟨s, hs, rfl⟩)
        simp only [Function.comp_apply]
        omega
      simp only [pb, fw, ld, wl]
      omega
  | h4 s t ih1 ih2 =>
    intro hp
    rw [plain] at hp
    obtain ⟨p1, p2⟩ := and_of hp
    have := ih1 p1
    have := ih2 p2
    simp only [pb, fw, ld, ldL, wl]; omega
  | h5 c x s ih => intro h; rw [plain] at h; have := ih h; cases c <;> simp only [pb, fw, fwL, ld, ldL, wl] <;> omega
  | h6 s t ih1 ih2 => intro h; simp [plain] at h
theorem wl_pb (f : Sy) : ∀ s, plain s = true → wl (pb f s) ≤ wl s + wl f := by
  intro s
  induction s using Sy.ind with
  | h1 c => intro _; rw [pb]; simp only [wl]; omega
  | h2 s ih => intro h; rw [plain] at h; have := ih h; rw [pb]; simp only [wl]; omega
  | h3 c l ih =>
    intro hp
    have hl := plain_jn hp
    have h : wlL (pbL f l) ≤ wlL l + wl f := by
      rw [pbL_map]
      exact wlLm fun s hs => by have := ih s hs (hl s hs); have := wl_mem hs; omega
    cases c
    · cases l with
      | nil => rw [pb, pbL]; simp only [wl]; omega
      | cons a r => rw [pbL] at h; rw [pb, pbL]; simp only [wl, wlL] at h ⊢; omega
    · rw [pb]; simp only [wl]; omega
  | h4 s t ih1 ih2 =>
    intro hp
    rw [plain] at hp
    obtain ⟨p1, p2⟩ := and_of hp
    have := ih1 p1
    have := ih2 p2
    rw [pb]; simp only [wl]; omega
  | h5 c x s ih => intro h; rw [plain] at h; have := ih h; cases c <;> rw [pb] <;> simp only [wl, wlL] <;> omega
  | h6 s t ih1 ih2 => intro h; simp [plain] at h
def qd (n : Nat) : Nat := 3 + 3 * (n * (n + 1))
theorem qd_mono {a b : Nat} (h : a ≤ b) : qd a ≤ qd b := by
  have : a * (a + 1) ≤ b * (b + 1) := Nat.mul_le_mul h (by omega)
  unfold qd
  omega
theorem qd_succ (n : Nat) : qd n + 6 ≤ qd (n + 1) := by
  unfold qd
  have e : (n + 1) * (n + 1 + 1) = n * (n + 1) + 2 * n + 2 := by simp only [Nat.add_mul, Nat.mul_add]; omega
  omega
theorem qd_td (a b : Nat) : qd b + 6 * b + 3 + qd a ≤ qd (a + b + 1) := by
  unfold qd
  have e : (a + b + 1) * (a + b + 1 + 1) = a * a + 2 * (a * b) + b * b + 3 * a + 3 * b + 2 := by
    simp only [Nat.add_mul, Nat.mul_add, Nat.mul_comm b a]
    omega
  have e1 : b * (b + 1) = b * b + b := by simp only [Nat.mul_add]; omega
  have e2 : a * (a + 1) = a * a + a := by simp only [Nat.mul_add]; omega
  rw [e, e1, e2]
  omega
theorem lf_tt : ∀ s, ld (fw (tt s)) ≤ qd (cm s) ∧ wl (tt s) ≤ 6 * cm s := by
  intro s
  induction s using Sy.ind with
  | h1 c => exact ⟨by simp only [tt, fw, ld, cm]; decide, by simp [tt, wl]⟩
  | h2 s ih =>
    simp only [tt, fw, ld, wl, cm]
    have := qd_succ (cm s)
    omega
  | h3 c l ih =>
    rw [tt, ttL_map]
    cases l with
    | nil => cases c <;> exact ⟨by simp only [List.map_nil, fw, fwL, fwN, ld, ldL, cm]; decide, by simp [wl, wlL]⟩
    | cons a r =>
      have hc : ∀ s, s ∈ a :: r → cm s ≤ cm a + cmL r := fun s hs => by have := cm_jn (b := c) hs; rw [cm] at this; omega
      have h1 : ∀ s, s ∈ a :: r → ld (fw (tt s)) ≤ qd (cm a + cmL r) := fun s hs => Nat.le_trans (ih s hs).1 (qd_mono (hc s hs))
      have h2 : wlL ((a :: r).map tt) ≤ 6 * (cm a + cmL r) := wlLm fun s hs => by have := (ih s hs).2; have := hc s hs; omega
      have h3 := qd_succ (cm a + cmL r)
      cases c
      · have h4 : ldL (fwN ((a :: r).map tt)) ≤ qd (cm a + cmL r) + 1 := by
          rw [fwN_map, List.map_map, List.map_map]
          exact ldLm fun s hs => by have := h1 s hs; simp only [Function.comp_apply, ld]; omega
        rw [List.map_cons] at h2 h4 ⊢
        simp only [fw, ld, wl, wlL, cm] at h2 h4 ⊢
        omega
      · have h4 : ldL (fwL ((a :: r).map tt)) ≤ qd (cm a + cmL r) := by
          rw [fwL_map, List.map_map]
          exact ldLm fun s hs => h1 s hs
        rw [List.map_cons] at h2 h4 ⊢
        simp only [fw, ld, wl, wlL, cm] at h2 h4 ⊢
        omega
  | h4 s t ih1 ih2 =>
    simp only [tt, fw, ld, ldL, wl, cm]
    have h1 := qd_mono (show cm s ≤ cm s + cm t by omega)
    have h2 := qd_mono (show cm t ≤ cm s + cm t by omega)
    have h3 := qd_succ (cm s + cm t)
    omega
  | h5 c x s ih =>
    have := qd_succ (cm s)
    cases c <;> simp only [tt, fw, ld, wl, cm] <;> omega
  | h6 s t ih1 ih2 =>
    rw [tt]
    have h1 := lf_pb (tt s) (tt t) (plain_tt t)
    have h2 := wl_pb (tt s) (tt t) (plain_tt t)
    have h3 := qd_td (cm s) (cm t)
    simp only [cm]
    omega
theorem lf_le {s : Sy} (hc : cm s ≤ 7) : ld (fw (tt s)) ≤ 171 := Nat.le_trans (lf_tt s).1 (Nat.le_trans (qd_mono hc) (by decide))
/-- the sayings the law compares a drawn one with -/
def ins (s : Sy) : List Sy := [pu true s, fw s, co s, tt s, s] ++ [fw (pu true s), pu true (fw s), co (pu true s)]
theorem ins_ok {s : Sy} (hp : plain s = true) (hg : gd s = true) (hc : cm s ≤ 9) : ∀ u, u ∈ s :: ins s → dp u ≤ nN ∧ ld u ≤ nM ∧ wide u = true := by
  have hw := gd_wide s hg
  have d0 := dp_cm s
  have key : ∀ u, dp u ≤ 33 → wide u = true → dp u ≤ nN ∧ ld u ≤ nM ∧ wide u = true := fun u h1 h2 => by
    have := ld_dp u
    exact ⟨Nat.le_trans h1 (by decide), Nat.le_trans this (Nat.le_trans (Nat.mul_le_mul_left 2 h1) (by decide)), h2⟩
  have d1 := dp_pu s true
  have d2 := dp_fw s
  have d3 := dp_co s
  have d4 := dp_fw (pu true s)
  have d5 := dp_pu (fw s) true
  have d6 := dp_co (pu true s)
  intro u hu
  unfold ins at hu
  rw [tt_plain s hp] at hu
  simp only [List.cons_append, List.nil_append, List.mem_cons, List.not_mem_nil, or_false] at hu
  rcases hu with rfl | rfl | rfl | rfl | rfl | rfl | rfl | rfl | rfl
  · exact key _ (by omega) hw
  · exact key _ (by omega) (wide_pu _ hw _)
  · exact key _ (by omega) (wide_fw _ hw)
  · exact key _ (by omega) (wide_co _ hw)
  · exact key _ (by omega) hw
  · exact key _ (by omega) hw
  · exact key _ (by omega) (wide_fw _ (wide_pu _ hw _))
  · exact key _ (by omega) (wide_pu _ (wide_fw _ hw) _)
  · exact key _ (by omega) (wide_co _ (wide_pu _ hw _))
theorem ins_sat {W : Web} {s : Sy} (hp : plain s = true) : ∀ u, u ∈ ins s → ∀ x, x < W.many → satW W u x = satW W s x := by
  have e1 : ∀ t x, plain t = true → sat W.E W.L (pu true t) (List.range W.many) x = sat W.E W.L t (List.range W.many) x := fun t x h => by rw [sat_pu _ _ t h, if_pos rfl]
  intro u hu x hx
  unfold ins at hu
  rw [tt_plain s hp] at hu
  simp only [List.cons_append, List.nil_append, List.mem_cons, List.not_mem_nil, or_false] at hu
  show sat _ _ _ _ _ = sat _ _ _ _ _
  rcases hu with rfl | rfl | rfl | rfl | rfl | rfl | rfl | rfl
  · exact e1 s x hp
  · exact sat_fw _ _ s hp _ _
  · exact sat_co _ _ s hp _ _
  · rfl
  · rfl
  · rw [sat_fw _ _ _ (plain_pu s hp true), e1 s x hp]
  · rw [e1 _ _ (plain_fw s hp), sat_fw _ _ s hp]
  · rw [sat_co _ _ _ (plain_pu s hp true), e1 s x hp]
def outs (s : Sy) : List Sy := [tt s, pu true (tt s), fw (tt s), s]
theorem dp_tt {s : Sy} (hc : cm s ≤ 7) : dp (tt s) ≤ 64 := by
  have h1 := (tt_size s).1
  have h2 : (cm s + 1) * (cm s + 1) ≤ 8 * 8 := Nat.mul_le_mul (by omega) (by omega)
  omega
theorem outs_ok {s : Sy} (hg : gd s = true) (hc : cm s ≤ 7) : ∀ u, u ∈ s :: outs s → dp u ≤ nN ∧ ld u ≤ nM ∧ wide u = true := by
  have hw := gd_wide s hg
  have d0 := dp_cm s
  have dt := dp_tt hc
  have d1 := dp_pu (tt s) true
  have d2 := dp_fw (tt s)
  have l0 := ld_dp s
  have l1 := ld_dp (tt s)
  have l2 := ld_dp (pu true (tt s))
  have l3 := lf_le hc
  have wt := wide_tt s hw
  intro u hu
  simp only [outs, List.mem_cons, List.not_mem_nil, or_false] at hu
  rcases hu with rfl | rfl | rfl | rfl | rfl
  · exact ⟨Nat.le_trans (m := 8) (by omega) (by decide), Nat.le_trans (m := 16) (by omega) (by decide), hw⟩
  · exact ⟨Nat.le_trans (m := 64) (by omega) (by decide), Nat.le_trans (m := 128) (by omega) (by decide), wt⟩
  · exact ⟨Nat.le_trans (m := 65) (by omega) (by decide), Nat.le_trans (m := 130) (by omega) (by decide), wide_pu _ wt _⟩
  · exact ⟨Nat.le_trans (m := 192) (by omega) (by decide), Nat.le_trans l3 (by decide), wide_fw _ wt⟩
  · exact ⟨Nat.le_trans (m := 8) (by omega) (by decide), Nat.le_trans (m := 16) (by omega) (by decide), hw⟩
theorem outs_sat {W : Web} {s : Sy} : ∀ u, u ∈ outs s → ∀ x, x < W.many → satW W u x = satW W s x := by
  intro u hu x hx
  have hp := plain_tt s
  simp only [outs, List.mem_cons, List.not_mem_nil, or_false] at hu
  show sat _ _ _ _ _ = sat _ _ _ _ _
  rcases hu with rfl | rfl | rfl | rfl
  · exact sat_tt _ _ s _ _
  · rw [sat_pu _ _ _ hp, if_pos rfl]; exact sat_tt _ _ s _ _
  · rw [sat_fw _ _ _ hp]; exact sat_tt _ _ s _ _
  · rfl
end Kx
/-! ## LE_Law -/
set_option Elab.async false
set_option linter.all false
set_option maxRecDepth 100000
set_option maxHeartbeats 2000000
/-! The law. -/
namespace Kx
open PySem PySem.Spec PyProof.Rows L2 Evl
open SX (S S_len S_cat)
/-- since H0: the private things of F stand, what F leaves out stands, the feed has given n draws -/
structure Lp (K : Fg) (F : Addr → Bool) (p : Addr) (H0 H : Hp) (n : Nat) : Prop where
  pr : Prv F H
  ex : Ex (del H0 F) (del H F)
  fd : Fd K F H p n
section
variable {K : Fg} {F : Addr → Bool} {p : Addr} {H0 H H2 : Hp} {n n2 : Nat} {σ : L2.St} {Q : VK} {te ta tb : TE} {D : Ends} {t : TT} {tu tv : TS}
theorem Lp.exx (st : Lp K F p H0 H n) (e : Ex H H2) : Lp K F p H0 H2 n := ⟨st.pr.mono e, st.ex.trans (del_ex e), st.fd.ex e⟩
theorem Fd.ne (h : Fd K F H p n) : H p ≠ none := by obtain ⟨_, _, _, _, h, _⟩ := h; rw [h]; exact fun z => nomatch z
theorem Lp.kb (st : Lp K F p H0 H n) (fp : F p = true) (k : Kb p H H2) (f : Fd K F H2 p n2) : Lp K F p H0 H2 n2 := ⟨k.prv st.pr f.ne, st.ex.trans (k.del fp), f⟩
theorem Lp.new (pr : Prv F H) (f : Fd K F H p n) : Lp K F p H H n := ⟨pr, Ex.refl _, f⟩
theorem Lp.tr {H1 : Hp} (a : Lp K F p H0 H1 n) (b : Lp K F p H1 H2 n2) : Lp K F p H0 H2 n2 := ⟨b.pr, a.ex.trans b.ex, b.fd⟩
theorem drw {m : Nat} (s1 : σ[1]? = some (some (.ref p))) (fp : F p = true) (st : Lp K F p H0 H n) (hn : n ≤ 100000) (hm : 0 < m) (hm2 : m ≤ 100) (k : ∀ (r : Nat) H2, Lp K F p H0 H2 (n + 1) → Kb p H H2 → r < m → Q (.int (r : Nat)) H2) :
    tCall (spDraw K) [] E0 (tCons (tVar 1) (tCons (tC (.int (m : Int))) tNil)) σ H Q := ⟨_, s1, F, p, n, m, rfl, st.pr, fp, st.fd, hn, hm, hm2, fun r H2 kb f hr => k r H2 (st.kb fp kb f) kb hr⟩
theorem sayc {m L : Nat} {told : Bool} (s1 : σ[1]? = some (some (.ref p))) (fp : F p = true) (st : Lp K F p H0 H n) (hL : L + 1 ≤ m) (hn : n + 8 * (L + 1) ≤ 100000)
    (k : ∀ (s : Sy) (n' : Nat) v H2, Lp K F p H H2 n' → gd s = true → (told = false → plain s = true) → cm s ≤ L - 1 → n' ≤ n + 2 + 6 * (L - 1) → Dp K (del H2 F) v (enc s) → Q v H2) :
    tCall (spSay K m) [] E0 (tCons (tVar 1) (tCons (tLst (tCons (tC (.int (L : Int))) tNil)) (tCons (tC (.bl told)) tNil))) σ H Q := by
  refine ⟨_, s1, sz_of (by simp), fun q hq => ?_⟩
  have e := Ex.new (o := .lst [.int (L : Int)]) hq
  have hpq : p ≠ q := fun z => by subst z; exact st.fd.ne hq
  have fq : ∀ b, H b ≠ none → b ≠ q := fun b h z => by subst z; exact h hq
  have hc : add F q p = true := by unfold add; rw [fp]; rfl
  have sub : ∀ {H' : Hp}, Ex (del H' (add F q)) (del H' F) := del_add_le
  obtain ⟨c, cs, n1, n3, f1, f2, f3, f4, f5⟩ := st.fd
  have fd1 : Fd K (add F q) (upd H q (.lst [.int (L : Int)])) p n := ⟨c, cs, n1, n3, e _ _ f1, (ex_add hq (Ex.refl _) e).dp f2, f3, f4, f5⟩
  refine ⟨add F q, p, q, n, (L : Int), told, rfl, (st.pr.mono e).add (some_ne upd_same), hc, add_self, hpq, fd1, upd_same, by rw [Int.toNat_natCast]; exact hL, by rw [Int.toNat_natCast]; exact hn, fun s L' n' v H2 kc f2' hq2 hg hpl hcm hn' hv => ?_⟩
  obtain ⟨c', cs', m1, m3, g1, g2, g3, g4, g5⟩ := f2'
  have fd2 : Fd K F H2 p n' := ⟨c', cs', m1, m3, g1, sub.dp g2, g3, g4, g5⟩
  have kb : Kb p H H2 := fun b o hb h => kc b o hb (fq b (some_ne h)) (e _ _ h)
  have hc1 : cm s ≤ L - 1 := by omega
  have hnd := nd_cm s hg
  exact k s n' v H2 ((Lp.new st.pr st.fd).kb fp kb fd2) hg hpl hc1 (by omega) (sub.dp hv)
theorem evn (h : EvD K te σ (del H F) d) (st : Lp K F p H0 H n) (k : ∀ v H2, Lp K F p H0 H2 n → Ex H H2 → Dp K (del H2 F) v d → Q v H2) : te σ H Q := h F H st.pr (Ex.refl _) _ fun v H2 e hv => k v H2 (st.exx e) e hv
theorem ifFn (h : EvB t σ (del H F) false) (st : Lp K F p H0 H n) (k : ∀ H2, Lp K F p H0 H2 n → Ex H H2 → tv D σ H2) : tIfS t tu tv D σ H := ifFd h st.pr fun H2 e => k H2 (st.exx e) e
end
section
variable {K : Fg} {F : Addr → Bool} {p : Addr} {H0 H H2 : Hp} {n n2 : Nat} {σ : L2.St} {Q : VK} {te ta tb : TE}
theorem cPu {u : Sy} (h : EvD K te σ H (enc u)) (hd : dp u ≤ 64) (hw : wide u = true) (hp : plain u = true) : EvD K (tCall (spR K (R_pushin 64)) [] E0 (tCons te tNil)) σ H (enc (pu true u)) := evd_call (evds_cons h evds_nil) ⟨u, rfl, fit_of _ _ hd hw, hp, rfl⟩
theorem cFw {u : Sy} (h : EvD K te σ H (enc u)) (hd : dp u ≤ 64) (hw : wide u = true) : EvD K (tCall (spR K (R_fw 64)) [] E0 (tCons te tNil)) σ H (enc (fw u)) := evd_call (evds_cons h evds_nil) ⟨u, rfl, fit_of _ _ hd hw, rfl⟩
theorem cCo {u : Sy} (h : EvD K te σ H (enc u)) (hd : dp u ≤ 64) (hw : wide u = true) : EvD K (tCall (spR K (R_core 64)) [] E0 (tCons te tNil)) σ H (enc (co u)) := evd_call (evds_cons h evds_nil) ⟨u, rfl, fit_of _ _ hd hw, rfl⟩
theorem cTt {u : Sy} (h : EvD K te σ H (enc u)) (hd : dp u ≤ 10) (hw : wide u = true) (hc : plain u = true ∨ cm u ≤ 7) : EvD K (tCall (spR K (R_tt 10)) [] E0 (tCons te tNil)) σ H (enc (tt u)) := evd_call (evds_cons h evds_nil) ⟨u, rfl, fit_of _ _ hd hw, hw, hc, rfl⟩
theorem cRd {u : Sy} (h : EvD K te σ H (enc u)) (hg : gd u = true) (hc : cm u ≤ 9) : EvD K (tCall (spR K (R_read 10)) [] E0 (tCons (tCall (spR K (R_text 10)) [] E0 (tCons te tNil)) tNil)) σ H (enc u) := by
  have hd : dp u ≤ 10 := by have := dp_cm u; omega
  have hf := fit_of 10 u hd (gd_wide u hg)
  have ht : (tx u).length ≤ 1000000 := Nat.le_trans (tx_cm hg hc) (by decide)
  exact evd_call (evds_cons (evd_call (evds_cons h evds_nil) ⟨u, rfl, hf, ht, rfl⟩) evds_nil) ⟨u, rfl, ht, hf, hg, rfl⟩
/-- the told saying of the later turns, or the drawn one -/
theorem pick_told {i c : Nat} {v7 v5 : V} {s : Sy} (s1 : σ[1]? = some (some (.ref p))) (s2 : σ[2]? = some (some (.int (i : Int)))) (s5 : σ[5]? = some (some v5)) (s7 : σ[7]? = some (some v7)) (fp : F p = true) (st : Lp K F p H0 H n) (hn : n ≤ 5000)
    (h7 : Dp K (del H F) v7 (enc (.lt c))) (hc : lowc c = true) (h5 : Dp K (del H F) v5 (enc s)) (hg : gd s = true) (hcm : cm s ≤ 4) (k : ∀ (s2 : Sy) n' v H2, Lp K F p H0 H2 n' → n' ≤ n + 14 → Ex (del H F) (del H2 F) → gd s2 = true → cm s2 ≤ 7 → Dp K (del H2 F) v (enc s2) → Q v H2) :
    tIf (tTest (tOp (rI0 fun i j => V.bl (decide (j < i))) (tVar 2) (tC (.int 1)))) (tTup (tCons (tC (.str "told")) (tCons (tOp (rIxL K) (tLst (tCons (tVar 7) (tCons (tCall (spSay K 20) [] E0 (tCons (tVar 1) (tCons (tLst (tCons (tC (.int 3)) tNil)) (tCons (tC (.bl true)) tNil)))) tNil))) (tOp (rI (fun x j => 0 < j) fun i j => .int (i % j)) (tVar 2) (tC (.int 2)))) (tCons (tVar 5) tNil)))) (tVar 5) σ H Q := by
  have ht : EvB (tTest (tOp (rI0 fun i j => V.bl (decide (j < i))) (tVar 2) (tC (.int 1)))) σ H (decide (1 < i)) := eb_is (et_d (K := K) (b := decide ((1 : Int) < (i : Int))) (evd_I0 (evd_var s2 (.int _)) evd_int fun _ => .bl _)) (decide_eq_decide.mpr (by omega))
  by_cases hi : 1 < i
  · refine ifET (eb_is ht (decide_eq_true hi)) fun H1 e1 => ?_
    have st1 := st.exx e1
    refine ⟨v7, s7, ?_⟩
    refine sayc (L := 3) s1 fp st1 (by decide) (by omega) fun s3 n3 v9 H3 st3 hg3 _ hc3 hn3 h9 => ?_
    refine ⟨sz_of (by simp), fun l hl => ?_⟩
    have e4 := Ex.new (o := .lst [v7, v9]) hl
    refine ⟨_, s2, _, _, rfl, rfl, (by show (0 : Int) < 2; decide), ?_⟩
    have ex3 : Ex (del H F) (del H3 F) := (del_ex e1).trans st3.ex
    obtain ⟨f, v, hf, hv, hgf, hcf⟩ : ∃ (f : Sy) (v : V), [v7, v9][i % 2]? = some v ∧ Dp K (del H3 F) v (enc f) ∧ gd f = true ∧ cm f ≤ 2 := by
      rcases Nat.mod_two_eq_zero_or_one i with z | z <;> rw [z]
      · exact ⟨_, v7, rfl, ex3.dp h7, by rw [gd]; exact hc, by rw [cm]; omega⟩
      · exact ⟨_, v9, rfl, h9, hg3, hc3⟩
    refine ⟨l, [v7, v9], ((i % 2 : Nat) : Int), v, rfl, (by show V.int ((i : Int) % 2) = _; rw [show (i : Int) % 2 = ((i % 2 : Nat) : Int) by omega]), sq_of upd_same, atI_nat hf, v5, s5, sz_of (by simp), fun t ht => ?_⟩
    have e5 := Ex.new (o := .tup [.str "told", v, v5]) ht
    have st5 := (st3.exx e4).exx e5
    refine k (.td f s) n3 _ _ ⟨st5.pr, st1.ex.trans st5.ex, st5.fd⟩ (by omega) (ex3.trans ((del_ex e4).trans (del_ex e5))) (by rw [gd, hgf, hg]; rfl) (by rw [cm]; omega) ?_
    rw [enc]
    exact new_tup (st3.pr.mono e4) ht (.cons (.str _) (.cons ((del_ex e4).dp hv) (.cons ((ex3.trans (del_ex e4)).dp h5) .nil)))
  · refine ifEF (eb_is ht (decide_eq_false hi)) fun H1 e1 => ?_
    exact ⟨v5, s5, k s n v5 H1 (st.exx e1) (by omega) (del_ex e1) hg (by omega) ((del_ex e1).dp h5)⟩
/-- the test fails -/
theorem rightT {v3 v5 : V} {W : Web} {s : Sy} {es : List Sy} {a6 : TE} (s3 : σ[3]? = some (some v3)) (s5 : σ[5]? = some (some v5)) (hw : WbF K H v3 W) (h5 : Dp K H v5 (enc s)) (h6 : EvD K a6 σ H (.list (encL es))) (hW : WOk W) (hm1 : 1 ≤ W.many) (hm4 : W.many ≤ 4) (hel : es.length ≤ 20)
    (hall : ∀ u, u ∈ s :: es → dp u ≤ nN ∧ ld u ≤ nM ∧ wide u = true) (heq : ∀ u, u ∈ es → ∀ x, x < W.many → satW W u x = satW W s x) : EvB (tNot (tB (tCall (spV (R_right K)) [] E0 (tCons (tVar 3) (tCons (tVar 5) (tCons a6 tNil)))))) σ H false :=
  eb_not (b := true) (et_dB (K := K) (evd_of (evp_callV (P := fun H u => Dp K H u (.bool true)) s3 (evds_cons (evd_var s5 h5) (evds_cons h6 evds_nil)) fun H' vs e hvs => by
    obtain ⟨y1, y2, rfl, k1, k2⟩ := of_two hvs
    exact ⟨_, W, y1, y2, s, es, rfl, WbF.mono _ _ _ e hw, k1, k2, hW, hm1, hm4, hel, hall, heq, rfl⟩)))
end
def spLaw (K : Fg) : Sp := fun vs H Q _ => ∃ F a ns, vs = [.ref a] ∧ Prv F H ∧ Dp K (del H F) (.ref a) (.list ((ns : List Int).map PyData.int)) ∧ ns.length ≤ 100 ∧ ∀ H2, Q (.bl true) H2
section
variable {P : Program} {w : World} {K : Fg} {mg : Str → Option Value} {base : Heap}
theorem law_body (T : Tx K w mg) (c_law_feed : Cal P w K mg base 1 "_law_feed" (spFeed K)) (c_law_draw : Cal P w K mg base 1 "_law_draw" (spDraw K)) (c_law_web : Cal P w K mg base 2 "_law_web" (spWeb K))
    (c_law_saying : Cal P w K mg base 21 "_law_saying" (spSay K 20)) (c_pushed_in : Cal P w K mg base 66 "pushed_in" (spR K (R_pushin 64))) (c_in_few_words : Cal P w K mg base 65 "in_few_words" (spR K (R_fw 64))) (c_core_of : Cal P w K mg base 65 "core_of" (spR K (R_core 64)))
    (c_told_out : Cal P w K mg base 75 "told_out" (spR K (R_tt 10))) (c_saying_text : Cal P w K mg base 21 "saying_text" (spR K (R_text 10))) (c_saying_read : Cal P w K mg base 34 "saying_read" (spR K (R_read 10)))
    (c_law_is_right : Cal P w K mg base 201 "_law_is_right" (spV (R_right K))) : Body P w K mg base 201 "law" s_law n_law (spLaw K) := fun fa cdv A outer s H vs Q E hr h => by
  refine ⟨_, (pss_cons (ps_set (i := 1) sc_law.nd rfl (Or.inl rfl) (pc_ c_law_feed hr (by omega) (pa_cons (pv 0) pa_nil)))
        (pss_cons (ps_for PassesOwn.never rfl (pi_range1 rfl T.range_ (pa_cons pe_int pa_nil)) (pg_name (i := 2) sc_law.nd rfl (Or.inl rfl)) (pss_cons (ps_set (i := 3) sc_law.nd rfl (Or.inl rfl) (pc_ c_law_web hr (by omega) (pa_cons (pv 1) pa_nil)))
        (pss_cons (ps_for PassesOwn.never rfl (pi_range1 rfl T.range_ (pa_cons pe_int pa_nil)) (pg_name (i := 4) sc_law.nd rfl (Or.inl rfl)) (pss_cons (ps_set (i := 5) sc_law.nd rfl (Or.inl rfl) (pc_ c_law_saying hr (by omega) (pa_cons (pv 1) (pa_cons (pe_lst (pa_cons pe_int pa_nil)) (pa_cons pe_bl pa_nil)))))
        (pss_cons (ps_set (i := 6) sc_law.nd rfl (Or.inl rfl) (pe_lst (pa_cons (pc_ c_pushed_in hr (by omega) (pa_cons (pv 5) pa_nil)) (pa_cons (pc_ c_in_few_words hr (by omega) (pa_cons (pv 5) pa_nil)) (pa_cons (pc_ c_core_of hr (by omega) (pa_cons (pv 5) pa_nil)) (pa_cons (pc_ c_told_out hr (by omega) (pa_cons (pv 5) pa_nil)) (pa_cons (pc_ c_saying_read hr (by omega) (pa_cons (pc_ c_saying_text hr (by omega) (pa_cons (pv 5) pa_nil)) pa_nil)) pa_nil)))))))
        (pss_cons (ps_set (i := 6) sc_law.nd rfl (Or.inl rfl) (pe_op op_catL (pv 6) (pe_lst (pa_cons (pc_ c_in_few_words hr (by omega) (pa_cons (pc_ c_pushed_in hr (by omega) (pa_cons (pv 5) pa_nil)) pa_nil)) (pa_cons (pc_ c_pushed_in hr (by omega) (pa_cons (pc_ c_in_few_words hr (by omega) (pa_cons (pv 5) pa_nil)) pa_nil)) (pa_cons (pc_ c_core_of hr (by omega) (pa_cons (pc_ c_pushed_in hr (by omega) (pa_cons (pv 5) pa_nil)) pa_nil)) pa_nil))))))
        (pss_one (ps_if (pt_not (pt_val (pc_ c_law_is_right hr (by omega) (pa_cons (pv 3) (pa_cons (pv 5) (pa_cons (pv 6) pa_nil)))))) (pss_one (ps_ret pe_bl)) pss_nil))))))
        (pss_cons (ps_set (i := 5) sc_law.nd rfl (Or.inl rfl) (pc_ c_law_saying hr (by omega) (pa_cons (pv 1) (pa_cons (pe_lst (pa_cons pe_int pa_nil)) (pa_cons pe_bl pa_nil)))))
        (pss_cons (ps_set (i := 7) sc_law.nd rfl (Or.inl rfl) (pe_tup (pa_cons pe_str (pa_cons (pe_ix (show IxR _ (rIxL K) from ix_list) (pe_lst (pa_cons pe_str (pa_cons pe_str (pa_cons pe_str pa_nil)))) (pc_ c_law_draw hr (by omega) (pa_cons (pv 1) (pa_cons pe_int pa_nil))) (fun _ _ => rfl)) pa_nil))))
        (pss_cons (ps_set (i := 5) sc_law.nd rfl (Or.inl rfl) (pe_ifExp (pt_cmpR op_gt (pv 2) pe_int (nomark _)) (pe_tup (pa_cons pe_str (pa_cons (pe_ix (show IxR _ (rIxL K) from ix_list) (pe_lst (pa_cons (pv 7) (pa_cons (pc_ c_law_saying hr (by omega) (pa_cons (pv 1) (pa_cons (pe_lst (pa_cons pe_int pa_nil)) (pa_cons pe_bl pa_nil)))) pa_nil))) (pe_op op_mod (pv 2) pe_int) (fun _ _ => rfl)) (pa_cons (pv 5) pa_nil)))) (pv 5)))
        (pss_cons (ps_set (i := 8) sc_law.nd rfl (Or.inl rfl) (pc_ c_told_out hr (by omega) (pa_cons (pv 5) pa_nil)))
        (pss_one (ps_if (pt_not (pt_val (pc_ c_law_is_right hr (by omega) (pa_cons (pv 3) (pa_cons (pv 5) (pa_cons (pe_lst (pa_cons (pv 8) (pa_cons (pc_ c_pushed_in hr (by omega) (pa_cons (pv 8) pa_nil)) (pa_cons (pc_ c_in_few_words hr (by omega) (pa_cons (pv 8) pa_nil)) (pa_cons (pc_ c_saying_read hr (by omega) (pa_cons (pc_ c_saying_text hr (by omega) (pa_cons (pv 5) pa_nil)) pa_nil)) pa_nil))))) pa_nil)))))) (pss_one (ps_ret pe_bl)) pss_nil)))))))))
        (pss_one (ps_ret pe_bl)))), ?_⟩
  obtain ⟨F0, a, ns, rfl, pF0, ha, hl, q⟩ := h
  refine ⟨_, rfl, F0, a, ns, rfl, pF0, ha, hl, fun p H1 hp ex1 fd1 => ?_⟩
  dsimp only [gName, tSeq]
  let F1 := add F0 p
  have fp : F1 p = true := add_self
  have pr1 : Prv F1 H1 := (pF0.mono ex1).add fd1.ne
  refine for_d (K := K) (F := F1) (ei_rng (n := 4) evd_int (by decide)) pr1 (Ex.refl _) fun H2 e2 => ⟨fun i F' σ H' => F' = F1 ∧ (∃ o2 o3 o4 o5 o6 o7 o8, σ = [some (.ref a), some (.ref p), o2, o3, o4, o5, o6, o7, o8]) ∧ ∃ n, n ≤ 300 * i ∧ Fd K F1 H' p n, ⟨rfl, ⟨_, _, _, _, _, _, _, rfl⟩, 0, by omega, fd1.ex e2⟩, ?_, ?_, ?_⟩
  · rintro i F' σ H' H'' ex ⟨rfl, o, n, hn, fd⟩
    exact ⟨rfl, o, n, hn, fd.ex ex⟩
  · rintro i x σ' H' F' d hd ⟨rfl, ⟨o2, o3, o4, o5, o6, o7, o8, rfl⟩, n, hn, fd⟩ pF eF hx
    obtain ⟨hi, rfl⟩ := rngD_at hd
    obtain rfl := of_dp_int hx
    have hi4 : i < 4 := hi
    rw [show (0 : Int) + (i : Int) = (i : Int) by omega]
    dsimp only [gName, tSeq, tAsg]
    refine ⟨_, rfl, F1, p, n, rfl, pF, fp, fd, by omega, fun W n1 v3 H3 kb3 fd3 hn1 hW hm1 hm4 hw3 => ?_⟩
    have st3 : Lp K F1 p H' H3 n1 := (Lp.new pF fd).kb fp kb3 fd3
    refine for_d (K := K) (F := F1) (ei_rng (n := 3) evd_int (by decide)) st3.pr (Ex.refl _) fun H4 e4 => ⟨fun j F' σ H'' => F' = F1 ∧ (∃ o4 o5 o6, σ = [some (.ref a), some (.ref p), some (.int (i : Int)), some v3, o4, o5, o6, o7, o8]) ∧ WbF K (del H'' F1) v3 W ∧ ∃ n, n ≤ n1 + 56 * j ∧ Fd K F1 H'' p n,
      ⟨rfl, ⟨_, _, _, rfl⟩, WbF.mono _ _ _ (del_ex e4) hw3, n1, by omega, fd3.ex e4⟩, ?_, ?_, ?_⟩
    · rintro j F' σ Ha Hb ex ⟨rfl, o, w, n, hn, fd⟩
      exact ⟨rfl, o, WbF.mono _ _ _ (del_ex ex) w, n, hn, fd.ex ex⟩
    · rintro j x σ' H5 F' d hd ⟨rfl, ⟨o4, o5, o6, rfl⟩, hw5, n5, hn5, fd5⟩ pF5 eF5 hx
      obtain ⟨hj, rfl⟩ := rngD_at hd
      obtain rfl := of_dp_int hx
      have hj3 : j < 3 := hj
      dsimp only [gName, tSeq, tAsg]
      have st5 : Lp K F1 p H5 H5 n5 := Lp.new pF5 fd5
      refine sayc (L := 10) rfl fp st5 (by decide) (by omega) fun s n6 v5 H6 st6 hg hpl hcm hn6 h5 => ?_
      have hp := hpl rfl
      have hw := gd_wide s hg
      have hdp := dp_cm s
      have hcm9 : cm s ≤ 9 := hcm
      have d1 := dp_pu s true
      have d2 := dp_fw s
      have w6 := WbF.mono _ _ _ st6.ex hw5
      have ev5 : ∀ {σ : L2.St} {H : Hp}, σ[5]? = some (some v5) → Ex (del H6 F1) H → EvD K (tVar 5) σ H (enc s) := fun h e => evd_var h (e.dp h5)
      refine evn (d := .list [enc (pu true s), enc (fw s), enc (co s), enc (tt s), enc s]) (evd_lst (evds_cons (cPu (ev5 rfl (Ex.refl _)) (by omega) hw hp) (evds_cons (cFw (ev5 rfl (Ex.refl _)) (by omega) hw) (evds_cons (cCo (ev5 rfl (Ex.refl _)) (by omega) hw) (evds_cons (cTt (ev5 rfl (Ex.refl _)) (by omega) hw (.inl hp)) (evds_cons (cRd (ev5 rfl (Ex.refl _)) hg hcm9) evds_nil)))))) st6 fun v6 H7 st7 e7 h6 => ?_
      refine evn (d := .list (encL (ins s))) (evd_is (evd_catL (evd_var rfl h6) (evd_lst (evds_cons (cFw (cPu (ev5 rfl (del_ex e7)) (by omega) hw hp) (by omega) (wide_pu _ hw _)) (evds_cons (cPu (cFw (ev5 rfl (del_ex e7)) (by omega) hw) (by omega) (wide_fw _ hw) (plain_fw s hp)) (evds_cons (cCo (cPu (ev5 rfl (del_ex e7)) (by omega) hw hp) (by omega) (wide_pu _ hw _)) evds_nil))))) (by rw [encL_map]; rfl)) st7 fun v6' H8 st8 e8 h8 => ?_
      have e78 := (del_ex (F := F1) e7).trans (del_ex e8)
      refine ifFn (rightT rfl rfl (WbF.mono _ _ _ e78 w6) (e78.dp h5) (evd_var rfl h8) hW hm1 hm4 (by simp [ins]) (ins_ok hp hg hcm9) (ins_sat hp)) st8 fun H9 st9 e9 => ?_
      exact ⟨F1, ⟨rfl, ⟨_, _, _, rfl⟩, WbF.mono _ _ _ (e78.trans (del_ex e9)) w6, n6, by omega, st9.fd⟩, st9.pr, eF5.trans st9.ex⟩
    · rintro σ' H5 F' ⟨rfl, ⟨o4, o5, o6, rfl⟩, hw5, n5, hn5, fd5⟩ pF5 eF5
      have hn5 : n5 ≤ n1 + 168 := hn5
      have st5 : Lp K F1 p H' H5 n5 := ⟨pF5, st3.ex.trans ((del_ex e4).trans eF5), fd5⟩
      refine sayc (L := 5) rfl fp st5 (by decide) (by omega) fun s n6 v5 H6 st6 hg _ hcm hn6 h5 => ?_
      have w6 := WbF.mono _ _ _ st6.ex hw5
      refine ⟨by decide, fun l hl => ?_⟩
      have e7 := Ex.new (o := .lst [.str "a", .str "b", .str "p"]) hl
      refine drw (m := 3) rfl fp ((Lp.new st6.pr st6.fd).exx e7) (by omega) (by decide) (by decide) fun r H7 st7 kb7 hr => ?_
      have hlp : l ≠ p := fun z => by subst z; exact st6.fd.ne hl
      obtain ⟨v, c, hv, rfl, hc⟩ : ∃ (v : V) (c : Nat), [V.str "a", V.str "b", V.str "p"][r]? = some v ∧ v = .str (sg c) ∧ lowc c = true := by
        have : r = 0 ∨ r = 1 ∨ r = 2 := by omega
        rcases this with rfl | rfl | rfl
        · exact ⟨_, 97, rfl, by kernel_rfl, by decide⟩
        · exact ⟨_, 98, rfl, by kernel_rfl, by decide⟩
        · exact ⟨_, 112, rfl, by kernel_rfl, by decide⟩
      refine ⟨l, _, (r : Int), _, rfl, rfl, sq_of (kb7 _ _ hlp upd_same), atI_nat hv, sz_of (by simp), fun t ht => ?_⟩
      have e8 := Ex.new (o := .tup [.str "letter", .str (sg c)]) ht
      have st8 := st7.exx e8
      have h7 : Dp K (del (upd H7 t (.tup [.str "letter", .str (sg c)])) F1) (.ref t) (enc (.lt c)) := by
        rw [enc]
        exact new_tup st7.pr ht (.cons (.str _) (.cons (.str _) .nil))
      have x8 : Ex (del H6 F1) (del (upd H7 t (.tup [.str "letter", .str (sg c)])) F1) := st8.ex
      refine pick_told (n := n6 + 1) rfl rfl rfl rfl fp st8 (by omega) h7 hc (x8.dp h5) hg hcm fun s2 n9 v5' H9 st9 hn9 ex9 hg2 hc2 h9 => ?_
      have w9 := WbF.mono _ _ _ (x8.trans ex9) w6
      have hd2 := dp_cm s2
      have hw2 := gd_wide s2 hg2
      have dt := dp_tt hc2
      have wt := wide_tt s2 hw2
      refine evn (d := enc (tt s2)) (cTt (evd_var rfl h9) (by omega) hw2 (.inr hc2)) st9 fun v8 H10 st10 e10 h10 => ?_
      have h9' := (del_ex (F := F1) e10).dp h9
      refine ifFn (rightT (es := outs s2) rfl rfl (WbF.mono _ _ _ (del_ex e10) w9) h9' (evd_is (evd_lst (evds_cons (evd_var rfl h10) (evds_cons (cPu (evd_var rfl h10) dt wt (plain_tt s2)) (evds_cons (cFw (evd_var rfl h10) dt wt) (evds_cons (cRd (evd_var rfl h9') hg2 (by omega)) evds_nil))))) (by rw [encL_map]; rfl)) hW hm1 hm4 (by simp [outs]) (outs_ok hg2 hc2) outs_sat) st10 fun H11 st11 e11 => ?_
      exact ⟨F1, ⟨rfl, ⟨_, _, _, _, _, _, _, rfl⟩, n9, by omega, st11.fd⟩, st11.pr, eF.trans (st3.ex.trans ((del_ex e4).trans (eF5.trans (st6.ex.trans st11.ex))))⟩
  · rintro σ' H' F' ⟨rfl, ⟨o2, o3, o4, o5, o6, o7, o8, rfl⟩, n, hn, fd⟩ pF eF
    exact q H'
end
end Kx
/-! ## LG_Run -/
set_option Elab.async false
set_option linter.all false
set_option maxRecDepth 100000
set_option maxHeartbeats 0
/-! The head: what the top lays, and its run. -/
namespace Kx
open PySem PySem.Spec PyProof.Rows L2
open SX (S)
def hdFn : List He.DefD := [
  ⟨("is_word", none), "is_word", "is_word", defArgs s_is_word, defBody s_is_word, defScope s_is_word, [], []⟩,
  ⟨("inner_sayings", none), "inner_sayings", "inner_sayings", defArgs s_inner_sayings, defBody s_inner_sayings, defScope s_inner_sayings, [], []⟩,
  ⟨("made_anew", none), "made_anew", "made_anew", defArgs s_made_anew, defBody s_made_anew, defScope s_made_anew, [], []⟩,
  ⟨("put_behind", none), "put_behind", "put_behind", defArgs s_put_behind, defBody s_put_behind, defScope s_put_behind, [], []⟩,
  ⟨("told_out", none), "told_out", "told_out", defArgs s_told_out, defBody s_told_out, defScope s_told_out, [], []⟩,
  ⟨("core_of", none), "core_of", "core_of", defArgs s_core_of, defBody s_core_of, defScope s_core_of, [], []⟩,
  ⟨("in_few_words", none), "in_few_words", "in_few_words", defArgs s_in_few_words, defBody s_in_few_words, defScope s_in_few_words, [], []⟩,
  ⟨("WebView", some "__init__"), "__init__", "WebView.__init__", defArgs s_wv_init, defBody s_wv_init, defScope s_wv_init, [], []⟩,
  ⟨("WebView", some "led_rows"), "led_rows", "WebView.led_rows", defArgs s_wv_led_rows, defBody s_wv_led_rows, defScope s_wv_led_rows, [], []⟩,
  ⟨("WebView", some "led_from"), "led_from", "WebView.led_from", defArgs s_wv_led_from, defBody s_wv_led_from, defScope s_wv_led_from, [], []⟩,
  ⟨("WebView", some "has_letter"), "has_letter", "WebView.has_letter", defArgs s_wv_has_letter, defBody s_wv_has_letter, defScope s_wv_has_letter, [], []⟩,
  ⟨("called_anew", none), "called_anew", "called_anew", defArgs s_called_anew, defBody s_called_anew, defScope s_called_anew, [], []⟩,
  ⟨("told_truths", none), "told_truths", "told_truths", defArgs s_told_truths, defBody s_told_truths, defScope s_told_truths, [], []⟩,
  ⟨("step_truths", none), "step_truths", "step_truths", defArgs s_step_truths, defBody s_step_truths, defScope s_step_truths, [], []⟩,
  ⟨("joined_truths", none), "joined_truths", "joined_truths", defArgs s_joined_truths, defBody s_joined_truths, defScope s_joined_truths, [], []⟩,
  ⟨("truths_in", none), "truths_in", "truths_in", defArgs s_truths_in, defBody s_truths_in, defScope s_truths_in, [], []⟩,
  ⟨("need_world", none), "need_world", "need_world", defArgs s_need_world, defBody s_need_world, defScope s_need_world, [], []⟩,
  ⟨("worlds_reached", none), "worlds_reached", "worlds_reached", defArgs s_worlds_reached, defBody s_worlds_reached, defScope s_worlds_reached, [], []⟩,
  ⟨("holds_at", none), "holds_at", "holds_at", defArgs s_holds_at, defBody s_holds_at, defScope s_holds_at, [], []⟩,
  ⟨("worlds_where", none), "worlds_where", "worlds_where", defArgs s_worlds_where, defBody s_worlds_where, defScope s_worlds_where, [], []⟩,
  ⟨("pushed", none), "pushed", "pushed", defArgs s_pushed, defBody s_pushed, defScope s_pushed, [], []⟩,
  ⟨("pushed_in", none), "pushed_in", "pushed_in", defArgs s_pushed_in, defBody s_pushed_in, defScope s_pushed_in, [], []⟩,
  ⟨("some_text", none), "some_text", "some_text", defArgs s_some_text, defBody s_some_text, defScope s_some_text, [], []⟩,
  ⟨("saying_text", none), "saying_text", "saying_text", defArgs s_saying_text, defBody s_saying_text, defScope s_saying_text, [], []⟩,
  ⟨("SignReader", some "__init__"), "__init__", "SignReader.__init__", defArgs s_sr_init, defBody s_sr_init, defScope s_sr_init, [], []⟩,
  ⟨("SignReader", some "ahead"), "ahead", "SignReader.ahead", defArgs s_sr_ahead, defBody s_sr_ahead, defScope s_sr_ahead, [], []⟩,
  ⟨("SignReader", some "take"), "take", "SignReader.take", defArgs s_sr_take, defBody s_sr_take, defScope s_sr_take, [], []⟩,
  ⟨("SignReader", some "letters_here"), "letters_here", "SignReader.letters_here", defArgs s_sr_letters_here, defBody s_sr_letters_here, defScope s_sr_letters_here, [], []⟩,
  ⟨("SignReader", some "handed_here"), "handed_here", "SignReader.handed_here", defArgs s_sr_handed_here, defBody s_sr_handed_here, defScope s_sr_handed_here, [], []⟩,
  ⟨("SignReader", some "room_here"), "room_here", "SignReader.room_here", defArgs s_sr_room_here, defBody s_sr_room_here, defScope s_sr_room_here, [], []⟩,
  ⟨("SignReader", some "more_here"), "more_here", "SignReader.more_here", defArgs s_sr_more_here, defBody s_sr_more_here, defScope s_sr_more_here, [], []⟩,
  ⟨("SignReader", some "told_here"), "told_here", "SignReader.told_here", defArgs s_sr_told_here, defBody s_sr_told_here, defScope s_sr_told_here, [], []⟩,
  ⟨("SignReader", some "saying_here"), "saying_here", "SignReader.saying_here", defArgs s_sr_saying_here, defBody s_sr_saying_here, defScope s_sr_saying_here, [], []⟩,
  ⟨("saying_read", none), "saying_read", "saying_read", defArgs s_saying_read, defBody s_saying_read, defScope s_saying_read, [], []⟩,
  ⟨("_law_feed", none), "_law_feed", "_law_feed", defArgs s_law_feed, defBody s_law_feed, defScope s_law_feed, [], []⟩,
  ⟨("_law_draw", none), "_law_draw", "_law_draw", defArgs s_law_draw, defBody s_law_draw, defScope s_law_draw, [], []⟩,
  ⟨("_law_saying", none), "_law_saying", "_law_saying", defArgs s_law_saying, defBody s_law_saying, defScope s_law_saying, [], []⟩,
  ⟨("_law_web", none), "_law_web", "_law_web", defArgs s_law_web, defBody s_law_web, defScope s_law_web, [], []⟩,
  ⟨("_law_ends", none), "_law_ends", "_law_ends", defArgs s_law_ends, defBody s_law_ends, defScope s_law_ends, [], []⟩,
  ⟨("_law_where", none), "_law_where", "_law_where", defArgs s_law_where, defBody s_law_where, defScope s_law_where, [], []⟩,
  ⟨("_law_is_right", none), "_law_is_right", "_law_is_right", defArgs s_law_is_right, defBody s_law_is_right, defScope s_law_is_right, [], []⟩,
  ⟨("law", none), "law", "law", defArgs s_law, defBody s_law, defScope s_law, [], []⟩]
def hdFa : List He.Fa := [.glo "is_word", .glo "inner_sayings", .glo "made_anew", .glo "put_behind", .glo "told_out", .glo "core_of", .glo "in_few_words", .glo "called_anew", .glo "told_truths", .glo "step_truths", .glo "joined_truths", .glo "truths_in", .glo "need_world", .glo "worlds_reached", .glo "holds_at", .glo "worlds_where", .glo "pushed", .glo "pushed_in", .glo "some_text", .glo "saying_text", .glo "saying_read", .glo "_law_feed", .glo "_law_draw", .glo "_law_saying", .glo "_law_web", .glo "_law_ends", .glo "_law_where", .glo "_law_is_right", .glo "law", .glo "WebView", .glo "SignReader", .glo "HANDED", .glo "ABOUT", .glo "SIGNS", .glo "VOID", .glo "AROUND", .glo "BETWEEN", .free "tuple", .free "len", .free "all", .free "any", .free "range", .free "enumerate", .free "zip", .free "sorted", .free "dict", .free "int", .free "list", .free "isinstance", .free "str", .str "LETTERS" "abcdefghijklmnopqrstuvwxyz", .int "LONGEST" 8, .cls "WebView", .mkr "WebView", .noat "WebView" "many", .noat "WebView" "led_by", .noat "WebView" "true_at", .cls "SignReader", .mkr "SignReader", .noat "SignReader" "text", .noat "SignReader" "spot", .meth "WebView" "led_rows", .meth "WebView" "led_from", .meth "WebView" "has_letter", .meth "SignReader" "ahead", .meth "SignReader" "take", .meth "SignReader" "letters_here", .meth "SignReader" "handed_here", .meth "SignReader" "room_here", .meth "SignReader" "more_here", .meth "SignReader" "told_here", .meth "SignReader" "saying_here"]
def hdTs : List He.Tab := [(fun K => He.ga K "ABOUT", ["and", "or", "must", "may"]), (fun K => He.ga K "SIGNS", ["and", "or"]), (fun K => He.ga K "VOID", ["and", "or"]), (fun K => He.ga K "AROUND", ["must", "may"]), (fun K => He.ga K "BETWEEN", ["&", "|", ">"])]
def entAll : List (Str × V) → List DictEntry → Bool
  | [], [] => true
  | kv :: r, e :: t => (match e.key with
    | .str x _ => decide (x = kv.1)
    | _ => false) && (He.relB kv.2 e.val && entAll r t)
  | _, _ => false
def entB (K : PySem.W.Frag) (a : Addr) (kvs : List (Str × V)) : Bool := match K.lookup a with
  | some ⟨_, _, .dict es _, _⟩ => entAll kvs es.toList
  | _ => false
def noB (K : PySem.W.Frag) (a : Addr) (ks : List Str) : Bool := ks.all fun k => He.eqO (PySem.W.nsIn K a k) (some none)
def hdEx (K : PySem.W.Frag) : Bool := He.tupB K "HANDED" [.str "must", .str "may"] && (He.valsB K (He.ga K "ABOUT") [("and", .str "or"), ("or", .str "and"), ("must", .str "may"), ("may", .str "must")] && (
  He.valsB K (He.ga K "SIGNS") [("and", .str "&"), ("or", .str (S [124]))] && (noB K (He.ga K "SIGNS") ["so", "told", "must", "may"] && (
  He.valsB K (He.ga K "VOID") [("and", .str "T"), ("or", .str "F")] && (entB K (He.ga K "VOID") [("and", .str (S [84])), ("or", .str (S [70]))] && (
  He.valsB K (He.ga K "AROUND") [("must", .str (S [91, 93])), ("may", .str (S [60, 62]))] && (entB K (He.ga K "AROUND") [("must", .str (S [91, 93])), ("may", .str (S [60, 62]))] &&
  He.valsB K (He.ga K "BETWEEN") [(S [38], .str "and"), (S [124], .str "or"), (S [62], .str "so")])))))))
abbrev hdR : PySem.W.OpenRow := PySem.W.OpenLaw.row PySem.Challenge.rw_mustmays_k14_whole_same_at_worlds
abbrev hdH : PySem.W.Hook := He.hookX 5 hdFa hdFn hdTs [] hdEx
def hdOb (s : PySem.W.SharedT) : He.AlX := He.obsX 5 hdFa hdFn hdTs [] hdEx (HandSHeadRun.getT s)
theorem hd_ob_eq (s : PySem.W.SharedT) : hdOb s = hdH.obs s.abs := He.obsX_eq (HandSHeadRun.getT_eq s)
def hdL1 : List Str := ["_wall", "LETTERS", "LONGEST", "HANDED", "is_word", "inner_sayings", "made_anew", "put_behind", "told_out", "core_of", "in_few_words", "MustError", "LackError", "NoText", "NoWorld", "WebView", "called_anew", "told_truths", "step_truths", "joined_truths", "truths_in", "need_world", "worlds_reached", "holds_at", "worlds_where", "ABOUT", "pushed", "pushed_in", "SIGNS", "VOID"]
def hdL2 : List Str := ["AROUND", "some_text", "saying_text", "BETWEEN", "SignReader", "saying_read", "_law_feed", "_law_draw", "_law_saying", "_law_web", "_law_ends", "_law_where", "_law_is_right"]
abbrev hdLoose : List Str := hdL1 ++ hdL2
theorem hd_run (w : World) : HandSHeadRun.RunEq hdR (PySem.W.view hdR.prog [54]) hdH hdOb 4000 hdLoose w :=
  PySem.W.byRow2 "special-get-raises" (P := fun w => HandSHeadRun.RunEq hdR (PySem.W.view hdR.prog [54]) hdH hdOb 4000 hdLoose w) (fun w => by intro os; kernel_rfl) (fun w => by intro os; kernel_rfl) w
end Kx
/-! ## LH_Final -/
set_option Elab.async false
set_option linter.all false
set_option maxRecDepth 100000
set_option maxHeartbeats 0
/-! The head's facts, all promises joined. -/
namespace Kx
open PySem PySem.Spec PyProof.Rows L2
open SX (S)
section
variable {P : Program} {w : World} {K : PySem.W.Frag} {h : Heap} {mg : Str → Option Value}
theorem dfn_at (d : He.SaysD hdFa hdFn K) (X : K.In h) (G : h.Ns mainGlobals mg) (i j : Nat) {x : Str} {st : Stmt} (e : hdFn[i]? = some ⟨(x, none), x, x, defArgs st, defBody st, defScope st, [], []⟩) (g : hdFa[j]? = some (.glo x)) : Dfn K mg x st := by
  obtain ⟨fd, F⟩ := d.def_ i e
  exact ⟨_, fd, F, He.glo_ok X G (d.fact j g)⟩
theorem mtd_at (d : He.SaysD hdFa hdFn K) (i j : Nat) {c m q : Str} {st : Stmt} (e : hdFn[i]? = some ⟨(c, some m), m, q, defArgs st, defBody st, defScope st, [], []⟩) (g : hdFa[j]? = some (.meth c m)) : Mtd K (He.ga K c) m q st := by
  obtain ⟨fd, F⟩ := d.def_ i e
  exact ⟨_, fd, F, He.meth_ok (d.fact j g)⟩
theorem ini_at (d : He.SaysD hdFa hdFn K) (i j : Nat) {c q : Str} {st : Stmt} (e : hdFn[i]? = some ⟨(c, some "__init__"), "__init__", q, defArgs st, defBody st, defScope st, [], []⟩) (g : hdFa[j]? = some (.mkr c)) : Ini K (He.ga K c) q st := by
  obtain ⟨fd, F⟩ := d.def_ i e
  exact ⟨_, fd, F, He.mkr_ok (d.fact j g)⟩
theorem kd_at {a : Addr} {es : Array DictEntry} {n : Nat} {kvs : List (Str × He.Dv)} (D : KDict K w a es n) (e : He.valsB K a kvs = true) (i : Nat) {x : Str} {v : He.Dv} (hq : kvs[i]? = some (x, v)) : KDct K w a x (v.v K) := by
  obtain ⟨u, e1, r⟩ := He.valsB_ok e (List.mem_of_getElem? hq)
  exact ⟨es, n, u, D.at_, D.lit, e1, r⟩
theorem hk_at {a : Addr} {kvs : List (Str × He.Dv)} (e : He.valsB K a kvs = true) (i : Nat) {x : Str} {v : He.Dv} (hq : kvs[i]? = some (x, v)) : HasK K a x true := by
  obtain ⟨u, e1, r⟩ := He.valsB_ok e (List.mem_of_getElem? hq)
  exact ⟨some u, e1, rfl⟩
theorem no_at {a : Addr} {ks : List Str} (e : noB K a ks = true) (i : Nat) {x : Str} (hq : ks[i]? = some x) : HasK K a x false := ⟨none, He.eqO_ok (List.all_eq_true.mp e x (List.mem_of_getElem? hq)), rfl⟩
theorem entAll_ok : ∀ {kvs : List (Str × V)} {es : List DictEntry}, entAll kvs es = true → Fa (fun (kv : Str × V) (e : DictEntry) => (∃ t, e.key = .str kv.1 t) ∧ RelV kv.2 e.val) kvs es
  | [], [], _ => .nil
  | [], _ :: _, h => by cases h
  | _ :: _, [], h => by cases h
  | kv :: r, e :: t, h => by
    have h1 : ((match e.key with
      | .str x _ => decide (x = kv.1)
      | _ => false) && (He.relB kv.2 e.val && entAll r t)) = true := h
    obtain ⟨h2, h3⟩ := He.ba h1
    obtain ⟨h4, h5⟩ := He.ba h3
    refine .cons ⟨?_, He.relB_ok h4⟩ (entAll_ok h5)
    cases q : e.key with
    | str x tk =>
      rw [q] at h2
      have e2 : x = kv.1 := of_decide_eq_true h2
      exact ⟨tk, by rw [e2]⟩
    | _ => rw [q] at h2; cases h2
theorem ent_at {a : Addr} {es : Array DictEntry} {n : Nat} {kvs : List (Str × V)} (D : KDict K w a es n) (e : entB K a kvs = true) (nod : (kvs.map (·.1)).Nodup) : Ent K w a es n kvs := by
  unfold entB at e
  rw [D.at_] at e
  exact ⟨D.at_, D.lit, D.low, entAll_ok e, nod⟩
theorem hd_facts {f : Addr} (X : K.In h) (G : h.Ns mainGlobals mg) (hfa : mg ("law" : Str) = some (.ref f)) (c : He.SaysX hdFa hdFn hdTs [] hdEx w h K) :
    ∃ fd : FuncData, (∀ (s : Shared) (v : Value), BindsTo s fd ⟨[v], []⟩ [("_law_script", v)]) ∧ ∀ base : Heap, K.In base → base.Ns mainGlobals mg → FnOk P w K mg base CX0 202 f fd ["_law_script"] (spLaw K) := by
  have d := c.t.d
  obtain ⟨x1, m1⟩ := He.ba c.more
  obtain ⟨x2, m2⟩ := He.ba m1
  obtain ⟨x3, m3⟩ := He.ba m2
  obtain ⟨x4, m4⟩ := He.ba m3
  obtain ⟨x5, m5⟩ := He.ba m4
  obtain ⟨x6, m6⟩ := He.ba m5
  obtain ⟨x7, m7⟩ := He.ba m6
  obtain ⟨x8, x9⟩ := He.ba m7
  obtain ⟨esA, nA, dA⟩ := c.t.tab 0 (t := (fun K => He.ga K "ABOUT", ["and", "or", "must", "may"])) rfl
  obtain ⟨esS, nS, dS⟩ := c.t.tab 1 (t := (fun K => He.ga K "SIGNS", ["and", "or"])) rfl
  obtain ⟨esV, nV, dV⟩ := c.t.tab 2 (t := (fun K => He.ga K "VOID", ["and", "or"])) rfl
  obtain ⟨esR, nR, dR⟩ := c.t.tab 3 (t := (fun K => He.ga K "AROUND", ["must", "may"])) rfl
  obtain ⟨esB, nB, dB⟩ := c.t.tab 4 (t := (fun K => He.ga K "BETWEEN", ["&", "|", ">"])) rfl
  have T : Tx K w mg := ⟨He.free_ok X G (x := "tuple") (d.fact 37 rfl), He.free_ok X G (x := "len") (d.fact 38 rfl), He.free_ok X G (x := "all") (d.fact 39 rfl), He.free_ok X G (x := "any") (d.fact 40 rfl), He.free_ok X G (x := "range") (d.fact 41 rfl), He.free_ok X G (x := "enumerate") (d.fact 42 rfl), He.free_ok X G (x := "zip") (d.fact 43 rfl), He.free_ok X G (x := "sorted") (d.fact 44 rfl), He.free_ok X G (x := "dict") (d.fact 45 rfl), He.free_ok X G (x := "int") (d.fact 46 rfl), He.free_ok X G (x := "list") (d.fact 47 rfl), He.free_ok X G (x := "isinstance") (d.fact 48 rfl), He.free_ok X G (x := "str") (d.fact 49 rfl), He.str_ok X G (x := "LETTERS") (d.fact 50 rfl), He.int_ok X G (x := "LONGEST") (d.fact 51 rfl), ⟨_, He.glo_ok X G (x := "HANDED") (d.fact 31 rfl), fun H => He.tupB_ok x1 H⟩⟩
  have Y : Ty K w mg := ⟨_, He.glo_ok X G (x := "ABOUT") (d.fact 32 rfl), kd_at dA x2 0 rfl, kd_at dA x2 1 rfl, kd_at dA x2 2 rfl, kd_at dA x2 3 rfl⟩
  have Zv : Tv K w mg := ⟨⟨_, _, _, He.glo_ok X G (x := "SIGNS") (d.fact 33 rfl), dS, kd_at dS x3 0 rfl, kd_at dS x3 1 rfl, hk_at x3 0 rfl, hk_at x3 1 rfl, no_at x4 0 rfl, no_at x4 1 rfl, no_at x4 2 rfl, no_at x4 3 rfl⟩,
    ⟨_, He.glo_ok X G (x := "VOID") (d.fact 34 rfl), kd_at dV x5 0 rfl, kd_at dV x5 1 rfl⟩, ⟨_, He.glo_ok X G (x := "AROUND") (d.fact 35 rfl), kd_at dR x7 0 rfl, kd_at dR x7 1 rfl⟩⟩
  have Zr : Tr K w mg := ⟨⟨_, _, _, He.glo_ok X G (x := "VOID") (d.fact 34 rfl), ent_at dV x6 (by decide)⟩, ⟨_, _, _, He.glo_ok X G (x := "AROUND") (d.fact 35 rfl), kd_at dR x7 0 rfl, kd_at dR x7 1 rfl, ent_at dR x8 (by decide)⟩,
    ⟨_, _, _, He.glo_ok X G (x := "BETWEEN") (d.fact 36 rfl), dB, kd_at dB x9 0 rfl, kd_at dB x9 1 rfl, hk_at x9 0 rfl, hk_at x9 1 rfl, hk_at x9 2 rfl⟩⟩
  have cw : Cw K (He.ga K "WebView") := ⟨He.cls_ok (d.fact 52 rfl), He.noat_ok (d.fact 54 rfl), He.noat_ok (d.fact 55 rfl), He.noat_ok (d.fact 56 rfl)⟩
  have cr : Cr K (He.ga K "SignReader") := ⟨He.cls_ok (d.fact 57 rfl), He.noat_ok (d.fact 59 rfl), He.noat_ok (d.fact 60 rfl)⟩
  have D_is_word : Dfn K mg "is_word" s_is_word := dfn_at d X G 0 0 rfl rfl
  have D_inner_sayings : Dfn K mg "inner_sayings" s_inner_sayings := dfn_at d X G 1 1 rfl rfl
  have D_made_anew : Dfn K mg "made_anew" s_made_anew := dfn_at d X G 2 2 rfl rfl
  have D_put_behind : Dfn K mg "put_behind" s_put_behind := dfn_at d X G 3 3 rfl rfl
  have D_told_out : Dfn K mg "told_out" s_told_out := dfn_at d X G 4 4 rfl rfl
  have D_core_of : Dfn K mg "core_of" s_core_of := dfn_at d X G 5 5 rfl rfl
  have D_in_few_words : Dfn K mg "in_few_words" s_in_few_words := dfn_at d X G 6 6 rfl rfl
  have D_WebView_init : Ini K (He.ga K "WebView") "WebView.__init__" s_wv_init := ini_at d 7 53 rfl rfl
  have D_WebView_led_rows : Mtd K (He.ga K "WebView") "led_rows" "WebView.led_rows" s_wv_led_rows := mtd_at d 8 61 rfl rfl
  have D_WebView_led_from : Mtd K (He.ga K "WebView") "led_from" "WebView.led_from" s_wv_led_from := mtd_at d 9 62 rfl rfl
  have D_WebView_has_letter : Mtd K (He.ga K "WebView") "has_letter" "WebView.has_letter" s_wv_has_letter := mtd_at d 10 63 rfl rfl
  have D_called_anew : Dfn K mg "called_anew" s_called_anew := dfn_at d X G 11 7 rfl rfl
  have D_told_truths : Dfn K mg "told_truths" s_told_truths := dfn_at d X G 12 8 rfl rfl
  have D_step_truths : Dfn K mg "step_truths" s_step_truths := dfn_at d X G 13 9 rfl rfl
  have D_joined_truths : Dfn K mg "joined_truths" s_joined_truths := dfn_at d X G 14 10 rfl rfl
  have D_truths_in : Dfn K mg "truths_in" s_truths_in := dfn_at d X G 15 11 rfl rfl
  have D_need_world : Dfn K mg "need_world" s_need_world := dfn_at d X G 16 12 rfl rfl
  have D_worlds_reached : Dfn K mg "worlds_reached" s_worlds_reached := dfn_at d X G 17 13 rfl rfl
  have D_holds_at : Dfn K mg "holds_at" s_holds_at := dfn_at d X G 18 14 rfl rfl
  have D_worlds_where : Dfn K mg "worlds_where" s_worlds_where := dfn_at d X G 19 15 rfl rfl
  have D_pushed : Dfn K mg "pushed" s_pushed := dfn_at d X G 20 16 rfl rfl
  have D_pushed_in : Dfn K mg "pushed_in" s_pushed_in := dfn_at d X G 21 17 rfl rfl
  have D_some_text : Dfn K mg "some_text" s_some_text := dfn_at d X G 22 18 rfl rfl
  have D_saying_text : Dfn K mg "saying_text" s_saying_text := dfn_at d X G 23 19 rfl rfl
  have D_SignReader_init : Ini K (He.ga K "SignReader") "SignReader.__init__" s_sr_init := ini_at d 24 58 rfl rfl
  have D_SignReader_ahead : Mtd K (He.ga K "SignReader") "ahead" "SignReader.ahead" s_sr_ahead := mtd_at d 25 64 rfl rfl
  have D_SignReader_take : Mtd K (He.ga K "SignReader") "take" "SignReader.take" s_sr_take := mtd_at d 26 65 rfl rfl
  have D_SignReader_letters_here : Mtd K (He.ga K "SignReader") "letters_here" "SignReader.letters_here" s_sr_letters_here := mtd_at d 27 66 rfl rfl
  have D_SignReader_handed_here : Mtd K (He.ga K "SignReader") "handed_here" "SignReader.handed_here" s_sr_handed_here := mtd_at d 28 67 rfl rfl
  have D_SignReader_room_here : Mtd K (He.ga K "SignReader") "room_here" "SignReader.room_here" s_sr_room_here := mtd_at d 29 68 rfl rfl
  have D_SignReader_more_here : Mtd K (He.ga K "SignReader") "more_here" "SignReader.more_here" s_sr_more_here := mtd_at d 30 69 rfl rfl
  have D_SignReader_told_here : Mtd K (He.ga K "SignReader") "told_here" "SignReader.told_here" s_sr_told_here := mtd_at d 31 70 rfl rfl
  have D_SignReader_saying_here : Mtd K (He.ga K "SignReader") "saying_here" "SignReader.saying_here" s_sr_saying_here := mtd_at d 32 71 rfl rfl
  have D_saying_read : Dfn K mg "saying_read" s_saying_read := dfn_at d X G 33 20 rfl rfl
  have D_law_feed : Dfn K mg "_law_feed" s_law_feed := dfn_at d X G 34 21 rfl rfl
  have D_law_draw : Dfn K mg "_law_draw" s_law_draw := dfn_at d X G 35 22 rfl rfl
  have D_law_saying : Dfn K mg "_law_saying" s_law_saying := dfn_at d X G 36 23 rfl rfl
  have D_law_web : Dfn K mg "_law_web" s_law_web := dfn_at d X G 37 24 rfl rfl
  have D_law_ends : Dfn K mg "_law_ends" s_law_ends := dfn_at d X G 38 25 rfl rfl
  have D_law_where : Dfn K mg "_law_where" s_law_where := dfn_at d X G 39 26 rfl rfl
  have D_law_is_right : Dfn K mg "_law_is_right" s_law_is_right := dfn_at d X G 40 27 rfl rfl
  obtain ⟨fd, F⟩ := d.def_ 41 (d := ⟨("law", none), "law", "law", defArgs s_law, defBody s_law, defScope s_law, [], []⟩) rfl
  have e := hfa.symm.trans (He.glo_ok X G (x := "law") (d.fact 28 rfl))
  cases e
  have b := FunD.bindsA (ps := ["_law_script"]) F fun _ _ _ _ _ _ us hl => match us, hl with | [_], _ => rfl
  refine ⟨fd, fun s v => b s [v] rfl, fun base _ _ => ?_⟩
  have ci := inner_sayings_ok (P := P) (w := w) (mg := mg) (base := base) T D_inner_sayings
  have cm := made_anew_ok (P := P) (w := w) (mg := mg) (base := base) T D_made_anew
  have cpb := put_behind_ok (P := P) (w := w) (mg := mg) (base := base) D_put_behind ci cm 64
  have ctt := told_out_ok (P := P) (w := w) (mg := mg) (base := base) D_told_out ci cm cpb 10
  have cco := core_of_ok (P := P) (w := w) (mg := mg) (base := base) D_core_of ci cm 64
  have cfw := in_few_words_ok (P := P) (w := w) (mg := mg) (base := base) T D_in_few_words ci cm 64
  have cpu := pushed_ok (P := P) (w := w) (mg := mg) (base := base) T Y D_pushed 64
  have cpi := pushed_in_ok (P := P) (w := w) (mg := mg) (base := base) D_pushed_in 64 cpu
  have ctx := saying_text_ok (P := P) (w := w) (mg := mg) (base := base) T Zv D_saying_text D_some_text 10
  have mrows := wv_led_rows_ok (P := P) (w := w) (mg := mg) (base := base) cw D_WebView_led_rows
  have kwv := wv_init_ok (P := P) (w := w) (mg := mg) (base := base) cw (He.glo_ok X G (x := "WebView") (d.fact 29 rfl)) D_WebView_init mrows
  have mfrom := wv_led_from_ok (P := P) (w := w) (mg := mg) (base := base) cw D_WebView_led_from
  have mhas := wv_has_letter_ok (P := P) (w := w) (mg := mg) (base := base) cw D_WebView_has_letter
  have canew := called_anew_ok (P := P) (w := w) (mg := mg) (base := base) T D_called_anew
  have cstep := step_truths_ok (P := P) (w := w) (mg := mg) (base := base) T cw D_step_truths kwv mfrom
  have ctr := truths_ok (P := P) (w := w) (mg := mg) (base := base) T cw D_truths_in D_joined_truths D_told_truths canew kwv mhas cstep 172
  have cww : Cal P w K mg base 200 "worlds_where" (spR K (R_where (nM + 1))) := (worlds_where_ok T D_worlds_where ctr.1).mono (by omega)
  have cneed := need_world_ok (P := P) (w := w) (mg := mg) (base := base) D_need_world
  have creach := worlds_reached_ok (P := P) (w := w) (mg := mg) (base := base) T cw D_worlds_reached kwv mfrom
  have chold : Cal P w K mg base 200 "holds_at" (spR K (R_hold (nM + 1))) := (holds_at_ok T D_holds_at cneed creach canew (k := 172) ctr.1).mono (by omega)
  have cends := law_ends_ok (P := P) (w := w) (mg := mg) (base := base) D_law_ends
  have clw : Cal P w K mg base 195 "_law_where" (spV (R_lw K (nN + 1))) := law_where_ok T D_law_where cends 193
  have cright := law_is_right_ok (P := P) (w := w) (mg := mg) (base := base) T D_law_is_right clw cww chold
  have cdraw := law_draw_ok (P := P) (w := w) (mg := mg) (base := base) T D_law_draw
  have cfeed := law_feed_ok (P := P) (w := w) (mg := mg) (base := base) D_law_feed
  have cweb := law_web_ok (P := P) (w := w) (mg := mg) (base := base) T D_law_web cdraw
  have csay := law_saying_ok (P := P) (w := w) (mg := mg) (base := base) T D_law_saying cdraw 20
  have mahead := sr_ahead_ok (P := P) (w := w) (mg := mg) (base := base) cr D_SignReader_ahead
  have mtake := sr_take_ok (P := P) (w := w) (mg := mg) (base := base) cr D_SignReader_take mahead
  have cisw := is_word_ok (P := P) (w := w) (mg := mg) (base := base) T D_is_word
  have mlet := sr_letters_ok (P := P) (w := w) (mg := mg) (base := base) T cr D_SignReader_letters_here mahead cisw
  have ksr := sr_init_ok (P := P) (w := w) (mg := mg) (base := base) cr (He.glo_ok X G (x := "SignReader") (d.fact 30 rfl)) D_SignReader_init
  have msay := sr_saying_ok (P := P) (w := w) (mg := mg) (base := base) T Zr cr D_SignReader_saying_here D_SignReader_room_here D_SignReader_more_here D_SignReader_handed_here D_SignReader_told_here mahead mtake mlet 10
  have cread := saying_read_ok (P := P) (w := w) (mg := mg) (base := base) D_saying_read (n := 10) (j := 33) (by omega) ksr mtake msay
  exact ok_of F sc_law (fun vs H Q E h => by obtain ⟨_, _, _, rfl, _⟩ := h; rfl) (law_body T cfeed cdraw cweb csay cpi cfw cco ctt ctx cread cright)
end
end Kx
open PySem PySem.W PySem.Calls PyProof.Rows
theorem PySem.Challenge.cw_mustmays_k14_whole_same_at_worlds_holds : PySem.Challenge.rw_mustmays_k14_whole_same_at_worlds.Holds := by
  w_on; o_law
  refine HandSHeadRun.head_any (r := OpenLaw.row PySem.Challenge.rw_mustmays_k14_whole_same_at_worlds) (q := view (OpenLaw.row PySem.Challenge.rw_mustmays_k14_whole_same_at_worlds).prog [54]) (H := Kx.hdH) (ob := Kx.hdOb) (M := 4000) (loose := Kx.hdLoose) (d := HandSHeadRun.topDef (OpenLaw.row PySem.Challenge.rw_mustmays_k14_whole_same_at_worlds).prog 54) (kwd := []) Kx.hd_ob_eq
    (by kernel_rfl) (fun s => by kernel_rfl) Kx.hd_run (by kernel_rfl) (by kernel_rfl) (by kernel_rfl) (by rfl) (by first | assumption | decide +kernel) (by decide +kernel) ⟨rfl, rfl, rfl, rfl, rfl, by decide +kernel⟩ ?hw ?hc
  case hw => w_witness2
  case hc =>
    refine L2.walk_ofE (l := PySem.Challenge.rw_mustmays_k14_whole_same_at_worlds) (n := 63) (k := 202) (x := "_law_script") (CX := L2.CX0) rfl (by decide) (by kernel_rfl) ⟨rfl, by decide, by decide⟩ ?F (fun _ _ _ _ z => z)
    intro w mg fa h Y G hmg0
    obtain ⟨K, KX, c⟩ := Y
    have hmg : mg ("law" : PySem.Str) = some (.ref fa) := by
      have e : (HandSHeadRun.topDef (OpenLaw.row PySem.Challenge.rw_mustmays_k14_whole_same_at_worlds).prog 54).name = ("law" : PySem.Str) := by kernel_rfl
      rw [← e]
      exact hmg0
    obtain ⟨fd, hb, hF⟩ := Kx.hd_facts (P := (PySem.Challenge.rw_mustmays_k14_whole_same_at_worlds).prog) (w := w) KX G hmg c
    exact ⟨K, fd, Kx.spLaw K, KX, hb, fun H a ns hl _ hS => ⟨Kx.nul, a, ns, rfl, Kx.prv_nul, by rw [Kx.del_nul]; exact .lst hS (Kx.dpa_ints ns), by omega, fun H2 => rfl⟩, hF⟩
