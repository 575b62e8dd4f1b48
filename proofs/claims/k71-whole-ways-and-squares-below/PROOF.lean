import PyProof.Rows.All
import Wide.All
import OpenK.AllK
import Wide.FinOn
import HandS.ForMost
import HandS.Iter
import HandS.SortInts
import KE.GoesMore
import KE.GoesZip
import HandS.Deep
import HandS.Conv
import HandS.IsInst
import HandS.Style
import HandS.Replace
import HandS.Sort
import HandS.TupAny
import HandS.Dict
import HandS.Comp
import PySem.Challenge.RW_turnedstretches_k71_whole_ways_and_squar
set_option Elab.async false
set_option linter.all false
set_option maxRecDepth 100000
/-! VL0: data D without addresses, how it lies in the abstract heap (Rep), what is owned (Sat). -/
namespace VL
open PySem PySem.Spec PyProof.Rows L2

/-- data: what a Python value is, without addresses; a list and a dict bear a flag: owned (it may be changed in place) or frozen -/
inductive D where
  | non | bl (b : Bool) | int (i : Int) | str (x : List Nat)
  | tup (xs : List D)
  | lst (o : Bool) (xs : List D)
  | dct (o : Bool) (ks : List Key) (xs : List D)
  | scr (ns : List Int)

mutual
/-- all flags down -/
def D.frz : D → D
  | .tup xs => .tup (D.frzL xs)
  | .lst _ xs => .lst false (D.frzL xs)
  | .dct _ ks xs => .dct false ks (D.frzL xs)
  | .non => .non
  | .bl b => .bl b
  | .int i => .int i
  | .str x => .str x
  | .scr x => .scr x
def D.frzL : List D → List D
  | [] => []
  | x :: xs => x.frz :: D.frzL xs
end
mutual
/-- no flag is up -/
def D.isF : D → Bool
  | .tup xs => D.isFL xs
  | .lst o xs => !o && D.isFL xs
  | .dct o _ xs => !o && D.isFL xs
  | .non => true
  | .bl _ => true
  | .int _ => true
  | .str _ => true
  | .scr _ => true
def D.isFL : List D → Bool
  | [] => true
  | x :: xs => x.isF && D.isFL xs
end
mutual
/-- frozen is frozen -/
theorem frz_isF : ∀ d : D, d.frz.isF = true
  | .non => rfl
  | .bl _ => rfl
  | .int _ => rfl
  | .str _ => rfl
  | .scr _ => rfl
  | .tup xs => frzL_isF xs
  | .lst _ xs => frzL_isF xs
  | .dct _ _ xs => frzL_isF xs
theorem frzL_isF : ∀ ds : List D, D.isFL (D.frzL ds) = true
  | [] => rfl
  | d :: ds => by rw [D.frzL, D.isFL, frz_isF d, frzL_isF ds]; rfl
end
theorem frzL_map : ∀ xs : List D, D.frzL xs = xs.map D.frz
  | [] => rfl
  | x :: xs => by rw [D.frzL, frzL_map xs]; rfl
theorem isFL_all : ∀ xs : List D, D.isFL xs = xs.all D.isF
  | [] => rfl
  | x :: xs => by rw [D.isFL, isFL_all xs]; rfl

/-- the script: known to the object, or an object of the written part -/
def Kl (K : PySem.W.Frag) (H : Hp) (a : Addr) (xs : List V) : Prop :=
  (∃ o, H a = some (.frz o (.lst xs))) ∨ ∃ (o : Obj) (its : Array Value) (n : Nat), K.lookup a = some o ∧ o.cls = .type "list" ∧ o.dict = none ∧ o.data = .seq its n ∧ its.size ≤ sizeLine ∧ Vals xs its.toList

/-- a text as they are here: no longer than the line, true code points -/
def strGood (x : List Nat) : Prop := x.length ≤ 16777216 ∧ ∀ k ∈ x, k < 0x110000
mutual
/-- the value v stands for d in the heap H; os: the owned addresses in it, from the left; T: all that is owned -/
inductive Rep (K : PySem.W.Frag) (H : Hp) (T : List Addr) : V → D → List Addr → Prop
  | non : Rep K H T .non .non []
  | bl {b} : Rep K H T (.bl b) (.bl b) []
  | int {i} : Rep K H T (.int i) (.int i) []
  | str {x} : strGood x → Rep K H T (.str ⟨x.toArray⟩) (.str x) []
  | tup {a vs xs os} : SqT K H a vs → RepL K H T vs xs os → Rep K H T (.ref a) (.tup xs) os
  | own {a vs xs os} : H a = some (.lst vs) → RepL K H T vs xs os → Rep K H T (.ref a) (.lst true xs) (a :: os)
  | frz {a vs xs} : H a = some (.lst vs) → a ∉ T → RepL K H T vs xs [] → Rep K H T (.ref a) (.lst false xs) []
  | scr {a ns} : Kl K H a (ns.map V.int) → Rep K H T (.ref a) (.scr ns) []
  | dwn {a kvs ks xs os} : H a = some (.dK kvs) → kvs.map (·.1) = ks → RepL K H T (kvs.map (·.2)) xs os → Rep K H T (.ref a) (.dct true ks xs) (a :: os)
  | dfz {a kvs ks xs} : H a = some (.dK kvs) → a ∉ T → kvs.map (·.1) = ks → RepL K H T (kvs.map (·.2)) xs [] → Rep K H T (.ref a) (.dct false ks xs) []
inductive RepL (K : PySem.W.Frag) (H : Hp) (T : List Addr) : List V → List D → List Addr → Prop
  | nil : RepL K H T [] [] []
  | cons {v d os vs ds ps} : Rep K H T v d os → RepL K H T vs ds ps → RepL K H T (v :: vs) (d :: ds) (os ++ ps)
end

variable {K : PySem.W.Frag} {H H' : Hp} {T T' : List Addr}

theorem RepL.len : ∀ {vs ds os}, RepL K H T vs ds os → vs.length = ds.length
  | _, _, _, .nil => rfl
  | _, _, _, .cons _ t => by simp [RepL.len t]

/-- a list or a dict that may be changed stands there -/
def Own (H : Hp) (a : Addr) : Prop := (∃ vs, H a = some (.lst vs)) ∨ ∃ kvs, H a = some (.dK kvs)

theorem Own.noT {a : Addr} {vs : List V} (h : Own H a) : ¬ Rd H a (.tup vs) := by
  rintro (q | ⟨o, q⟩) <;> rcases h with ⟨w, e⟩ | ⟨w, e⟩ <;> rw [e] at q <;> cases q

theorem rd_some {a : Addr} {u : HO} (h : Rd H a u) : H a ≠ none := by
  rcases h with q | ⟨o, q⟩ <;> rw [q] <;> simp
theorem rd_go {a : Addr} {u : HO} (h : Rd H a u) (k : ∀ o, H a = Option.some o → H' a = Option.some o) : Rd H' a u := by
  rcases h with q | ⟨o, q⟩
  · exact .inl (k _ q)
  · exact .inr ⟨o, k _ q⟩

mutual
/-- the heap changed at W alone (owned things, none of these in d), what is owned now was owned before or is new -/
theorem Rep.tr {W : List Addr} (hE : ∀ a o, H a = some o → a ∉ W → H' a = some o) (hW : ∀ a ∈ W, a ∈ T ∧ Own H a) (hT : ∀ a ∈ T', a ∈ T ∨ H a = none) :
    ∀ {v d os}, Rep K H T v d os → (∀ a ∈ os, a ∉ W) → Rep K H' T' v d os
  | _, _, _, .non, _ => .non
  | _, _, _, .bl, _ => .bl
  | _, _, _, .int, _ => .int
  | _, _, _, .str g, _ => .str g
  | _, _, _, .tup (a := a) h r, n => by
    refine .tup ?_ (RepL.tr hE hW hT r n)
    rcases h with h | h
    · exact .inl (rd_go h fun o e => hE _ _ e fun hw => (hW _ hw).2.noT h)
    · exact .inr h
  | _, _, _, .own h r, n => .own (hE _ _ h (n _ (by simp))) (RepL.tr hE hW hT r fun a ha => n a (by simp [ha]))
  | _, _, _, .frz h k r, n => by
    refine .frz (hE _ _ h fun hw => k (hW _ hw).1) (fun ht => ?_) (RepL.tr hE hW hT r n)
    rcases hT _ ht with z | z
    · exact k z
    · rw [h] at z; cases z
  | _, _, _, .scr (a := a) h, n => by
    rcases h with ⟨o, h⟩ | h
    · exact .scr (.inl ⟨o, hE _ _ h fun hw => by
        rcases (hW _ hw).2 with ⟨_, e⟩ | ⟨_, e⟩ <;> rw [h] at e <;> cases e⟩)
    · exact .scr (.inr h)
  | _, _, _, .dwn h e r, n => .dwn (hE _ _ h (n _ (by simp))) e (RepL.tr hE hW hT r fun a ha => n a (by simp [ha]))
  | _, _, _, .dfz h k e r, n => by
    refine .dfz (hE _ _ h fun hw => k (hW _ hw).1) (fun ht => ?_) e (RepL.tr hE hW hT r n)
    rcases hT _ ht with z | z
    · exact k z
    · rw [h] at z; cases z
theorem RepL.tr {W : List Addr} (hE : ∀ a o, H a = some o → a ∉ W → H' a = some o) (hW : ∀ a ∈ W, a ∈ T ∧ Own H a) (hT : ∀ a ∈ T', a ∈ T ∨ H a = none) :
    ∀ {vs ds os}, RepL K H T vs ds os → (∀ a ∈ os, a ∉ W) → RepL K H' T' vs ds os
  | _, _, _, .nil, _ => .nil
  | _, _, _, .cons r t, n => .cons (Rep.tr hE hW hT r fun a ha => n a (by simp [ha])) (RepL.tr hE hW hT t fun a ha => n a (by simp [ha]))
end
theorem RepL.sub (hT : ∀ a ∈ T', a ∈ T) {vs ds os} (r : RepL K H T vs ds os) : RepL K H T' vs ds os :=
  RepL.tr (W := []) (fun _ _ e _ => e) (fun _ h => absurd h (by simp)) (fun a h => .inl (hT a h)) r (fun _ _ => by simp)
theorem Rep.sub (hT : ∀ a ∈ T', a ∈ T) {v d os} (r : Rep K H T v d os) : Rep K H T' v d os :=
  Rep.tr (W := []) (fun _ _ e _ => e) (fun _ h => absurd h (by simp)) (fun a h => .inl (hT a h)) r (fun _ _ => by simp)

mutual
/-- frozen: its owned addresses are given up -/
theorem Rep.frzn (hT : ∀ a ∈ T', a ∈ T) : ∀ {v d os}, Rep K H T v d os → (∀ a ∈ os, a ∉ T') → Rep K H T' v d.frz []
  | _, _, _, .non, _ => .non
  | _, _, _, .bl, _ => .bl
  | _, _, _, .int, _ => .int
  | _, _, _, .str g, _ => .str g
  | _, _, _, .tup h r, n => .tup h (RepL.frzn hT r n)
  | _, _, _, .own h r, n => .frz h (n _ (by simp)) (RepL.frzn hT r fun a ha => n a (by simp [ha]))
  | _, _, _, .frz h k r, n => .frz h (fun z => k (hT _ z)) (RepL.frzn hT r n)
  | _, _, _, .scr h, n => .scr h
  | _, _, _, .dwn h e r, n => .dfz h (n _ (by simp)) e (RepL.frzn hT r fun a ha => n a (by simp [ha]))
  | _, _, _, .dfz h k e r, n => .dfz h (fun z => k (hT _ z)) e (RepL.frzn hT r n)
theorem RepL.frzn (hT : ∀ a ∈ T', a ∈ T) : ∀ {vs ds os}, RepL K H T vs ds os → (∀ a ∈ os, a ∉ T') → RepL K H T' vs (D.frzL ds) []
  | _, _, _, .nil, _ => .nil
  | _, _, _, .cons r t, n => .cons (os := []) (ps := []) (Rep.frzn hT r fun a ha => n a (by simp [ha])) (RepL.frzn hT t fun a ha => n a (by simp [ha]))
end
mutual
theorem Rep.isF_nil : ∀ {v d os}, Rep K H T v d os → d.isF = true → os = []
  | _, _, _, .non, _ => rfl
  | _, _, _, .bl, _ => rfl
  | _, _, _, .int, _ => rfl
  | _, _, _, .str _, _ => rfl
  | _, _, _, .tup h r, f => RepL.isF_nil r f
  | _, _, _, .own h r, f => by simp [D.isF] at f
  | _, _, _, .frz h k r, f => rfl
  | _, _, _, .scr h, f => rfl
  | _, _, _, .dwn h e r, f => by simp [D.isF] at f
  | _, _, _, .dfz h k e r, f => rfl
theorem RepL.isF_nil : ∀ {vs ds os}, RepL K H T vs ds os → D.isFL ds = true → os = []
  | _, _, _, .nil, _ => rfl
  | _, _, _, .cons r t, f => by
    simp only [D.isFL, Bool.and_eq_true] at f
    rw [Rep.isF_nil r f.1, RepL.isF_nil t f.2]; rfl
end
mutual
theorem Rep.own_of : ∀ {v d os}, Rep K H T v d os → ∀ a ∈ os, Own H a
  | _, _, _, .non, _, z => by simp at z
  | _, _, _, .bl, _, z => by simp at z
  | _, _, _, .int, _, z => by simp at z
  | _, _, _, .str _, _, z => by simp at z
  | _, _, _, .tup h r, a, z => RepL.own_of r a z
  | _, _, _, .own h r, a, z => by
    rcases List.mem_cons.mp z with e | z
    · subst e; exact .inl ⟨_, h⟩
    · exact RepL.own_of r a z
  | _, _, _, .frz h k r, _, z => by simp at z
  | _, _, _, .scr h, _, z => by simp at z
  | _, _, _, .dwn h e r, a, z => by
    rcases List.mem_cons.mp z with e | z
    · subst e; exact .inr ⟨_, h⟩
    · exact RepL.own_of r a z
  | _, _, _, .dfz h k e r, _, z => by simp at z
theorem RepL.own_of : ∀ {vs ds os}, RepL K H T vs ds os → ∀ a ∈ os, Own H a
  | _, _, _, .nil, _, z => by simp at z
  | _, _, _, .cons r t, a, z => by
    rcases List.mem_append.mp z with z | z
    · exact Rep.own_of r a z
    · exact RepL.own_of t a z
end
theorem Own.ne {a : Addr} (h : Own H a) : H a ≠ none := by
  rcases h with ⟨_, e⟩ | ⟨_, e⟩ <;> rw [e] <;> simp

/-! ### cells -/
abbrev Cell := V × D
abbrev RepC (K : PySem.W.Frag) (H : Hp) (T : List Addr) (c : List Cell) (os : List Addr) : Prop := RepL K H T (c.map (·.1)) (c.map (·.2)) os
theorem RepC.perm {c c' : List Cell} (p : c.Perm c') : ∀ {os}, RepC K H T c os → ∃ os', os.Perm os' ∧ RepC K H T c' os' := by
  induction p with
  | nil => exact fun r => ⟨_, .refl _, r⟩
  | cons x p ih =>
    rintro os (_ | ⟨r, t⟩)
    obtain ⟨ps, hp, t'⟩ := ih t
    exact ⟨_, hp.append_left _, .cons r t'⟩
  | swap x y l =>
    rintro os (_ | ⟨r, _ | ⟨r', t⟩⟩)
    refine ⟨_, ?_, .cons r' (.cons r t)⟩
    rw [← List.append_assoc, ← List.append_assoc]
    exact List.perm_append_comm.append_right _
  | trans p q ih ih' =>
    intro os r
    obtain ⟨o1, h1, r1⟩ := ih r
    obtain ⟨o2, h2, r2⟩ := ih' r1
    exact ⟨o2, h1.trans h2, r2⟩
theorem RepL.append : ∀ {vs ds os ws es ps}, RepL K H T vs ds os → RepL K H T ws es ps → RepL K H T (vs ++ ws) (ds ++ es) (os ++ ps)
  | _, _, _, _, _, _, .nil, t => t
  | _, _, _, _, _, _, .cons r t', t => by
    rw [List.append_assoc]; exact .cons r (RepL.append t' t)
theorem RepL.split : ∀ {vs ws ds es os}, RepL K H T (vs ++ ws) (ds ++ es) os → vs.length = ds.length → ∃ o1 o2, os = o1 ++ o2 ∧ RepL K H T vs ds o1 ∧ RepL K H T ws es o2
  | [], ws, [], es, os, r, _ => ⟨[], os, rfl, .nil, r⟩
  | v :: vs, ws, d :: ds, es, _, .cons r t, h => by
    obtain ⟨o1, o2, e, r1, r2⟩ := RepL.split (vs := vs) (ds := ds) t (by simpa using h)
    exact ⟨_ ++ o1, o2, by rw [e, List.append_assoc], .cons r r1, r2⟩

/-- the state: the cells c; h: owned addresses whose lists are being changed -/
def Sat (K : PySem.W.Frag) (H : Hp) (h : List Addr) (c : List Cell) : Prop :=
  ∃ os, RepC K H (h ++ os) c os ∧ (h ++ os).Nodup ∧ ∀ a ∈ h, Own H a

variable {h : List Addr} {c c' : List Cell}

theorem Sat.perm (s : Sat K H h c) (p : c.Perm c') : Sat K H h c' := by
  obtain ⟨os, r, n, k⟩ := s
  obtain ⟨os', p', r'⟩ := RepC.perm p r
  have pp : (h ++ os).Perm (h ++ os') := p'.append_left h
  exact ⟨os', r'.sub fun a ha => pp.mem_iff.mpr ha, (pp.nodup_iff).mp n, k⟩
theorem Sat.tail {x : Cell} (s : Sat K H h (x :: c)) : Sat K H h c := by
  obtain ⟨_, _ | ⟨r, t⟩, n, k⟩ := s
  rename_i o1 o2
  refine ⟨o2, t.sub fun a ha => ?_, ?_, k⟩
  · simp only [List.mem_append] at ha ⊢
    rcases ha with z | z
    · exact .inl z
    · exact .inr (.inr z)
  · exact n.sublist (List.Sublist.append_left (List.sublist_append_right o1 o2) h)
theorem Sat.drop {xs : List Cell} (s : Sat K H h (xs ++ c)) : Sat K H h c := by
  induction xs with
  | nil => exact s
  | cons x xs ih => exact ih s.tail
/-- a value without an owned thing in it is laid beside -/
theorem Sat.add {x : Cell} (s : Sat K H h c) (r : ∀ T, (∀ os, RepC K H (h ++ os) c os → T = h ++ os → Rep K H T x.1 x.2 [])) : Sat K H h (x :: c) := by
  obtain ⟨os, t, n, k⟩ := s
  exact ⟨os, .cons (os := []) (r _ os t rfl) t, n, k⟩
theorem Sat.int {i : Int} (s : Sat K H h c) : Sat K H h ((.int i, .int i) :: c) := s.add fun _ _ _ _ => .int
theorem Sat.bl {b : Bool} (s : Sat K H h c) : Sat K H h ((.bl b, .bl b) :: c) := s.add fun _ _ _ _ => .bl
theorem Sat.non (s : Sat K H h c) : Sat K H h ((.non, .non) :: c) := s.add fun _ _ _ _ => .non
theorem Sat.str {x : List Nat} (s : Sat K H h c) (g : strGood x) : Sat K H h ((.str ⟨x.toArray⟩, .str x) :: c) := s.add fun _ _ _ _ => .str g

theorem Sat.freeze {v : V} {d : D} (s : Sat K H h ((v, d) :: c)) : Sat K H h ((v, d.frz) :: c) := by
  obtain ⟨_, _ | ⟨r, t⟩, n, k⟩ := s
  rename_i o1 o2
  have n' := n
  rw [← List.append_assoc] at n'
  have sub : ∀ a ∈ h ++ o2, a ∈ h ++ (o1 ++ o2) := fun a ha => by
    simp only [List.mem_append] at ha ⊢
    rcases ha with z | z
    · exact .inl z
    · exact .inr (.inr z)
  refine ⟨o2, .cons (os := []) (Rep.frzn sub r fun a ha hm => ?_) (t.sub sub), n.sublist (List.Sublist.append_left (List.sublist_append_right o1 o2) h), k⟩
  rcases List.mem_append.mp hm with z | z
  · exact (List.nodup_append.mp n).2.2 a z a (List.mem_append_left _ ha) rfl
  · exact (List.nodup_append.mp (List.nodup_append.mp n).2.1).2.2 a ha a z rfl
theorem Sat.dup {v : V} {d : D} (s : Sat K H h ((v, d) :: c)) (f : d.isF = true) : Sat K H h ((v, d) :: (v, d) :: c) := by
  obtain ⟨_, _ | ⟨r, t⟩, n, k⟩ := s
  rename_i o1 o2
  cases Rep.isF_nil r f
  exact ⟨o2, .cons (os := []) r (.cons (os := []) r t), n, k⟩
/-- the cells of a list's items -/
abbrev zipC (vs : List V) (ds : List D) : List Cell := vs.zip ds
theorem zip_fst {vs : List V} {ds : List D} (h : vs.length = ds.length) : (vs.zip ds).map (·.1) = vs := by
  rw [List.map_fst_zip (by omega)]
theorem zip_snd {vs : List V} {ds : List D} (h : vs.length = ds.length) : (vs.zip ds).map (·.2) = ds := by
  rw [List.map_snd_zip (by omega)]
theorem RepL.zip {vs ds os ps} (r : RepL K H T vs ds os) (t : RepC K H T c ps) : RepC K H T (vs.zip ds ++ c) (os ++ ps) := by
  unfold RepC
  rw [List.map_append, List.map_append, zip_fst r.len, zip_snd r.len]
  exact r.append t
theorem RepC.unzip {vs ds os} (e : vs.length = ds.length) (t : RepC K H T (vs.zip ds ++ c) os) : ∃ o1 o2, os = o1 ++ o2 ∧ RepL K H T vs ds o1 ∧ RepC K H T c o2 := by
  unfold RepC at t
  rw [List.map_append, List.map_append, zip_fst e, zip_snd e] at t
  exact t.split e

theorem Sat.tupOpen {v : V} {xs : List D} (s : Sat K H h ((v, .tup xs) :: c)) : ∃ a vs, v = .ref a ∧ SqT K H a vs ∧ vs.length = xs.length ∧ Sat K H h (vs.zip xs ++ c) := by
  obtain ⟨_, _ | ⟨r, t⟩, n, k⟩ := s
  cases r with
  | tup hS r => exact ⟨_, _, rfl, hS, r.len, _, r.zip t, n, k⟩
theorem Kl.sq {a : Addr} {vs : List V} (h : Kl K H a vs) : SqL K H a vs := by
  rcases h with h | h
  · exact .inl (.inr h)
  · exact .inr h
theorem Sat.lstRead {v : V} {o : Bool} {xs : List D} (s : Sat K H h ((v, .lst o xs) :: c)) : ∃ a vs, v = .ref a ∧ H a = some (.lst vs) ∧ vs.length = xs.length ∧ Sat K H h (vs.zip xs ++ c) := by
  obtain ⟨_, _ | ⟨r, t⟩, n, k⟩ := s
  rename_i o1 o2
  cases r with
  | @own a vs _ os hS r =>
    have sub : ∀ b ∈ h ++ (os ++ o2), b ∈ h ++ (a :: os ++ o2) := fun b hb => by
      simp only [List.mem_append, List.mem_cons] at hb ⊢
      rcases hb with z | z | z
      · exact .inl z
      · exact .inr (.inl (.inr z))
      · exact .inr (.inr z)
    exact ⟨_, _, rfl, hS, r.len, _, (r.zip t).sub sub, n.sublist (List.Sublist.append_left (List.sublist_cons_self _ _) h), k⟩
  | frz hS _ r => exact ⟨_, _, rfl, hS, r.len, _, r.zip t, n, k⟩
/-- a list is taken out to be changed -/
theorem Sat.opened {v : V} {xs : List D} (s : Sat K H h ((v, .lst true xs) :: c)) : ∃ a vs, v = .ref a ∧ H a = some (.lst vs) ∧ vs.length = xs.length ∧ Sat K H (a :: h) (vs.zip xs ++ c) := by
  obtain ⟨_, _ | ⟨r, t⟩, n, k⟩ := s
  rename_i o1 o2
  cases r with
  | @own a vs _ os hS r =>
    have pp : (h ++ (a :: os ++ o2)).Perm (a :: h ++ (os ++ o2)) := List.perm_middle
    exact ⟨_, _, rfl, hS, r.len, _, (r.zip t).sub fun b hb => pp.mem_iff.mpr hb, pp.nodup_iff.mp n, fun b hb => by
      rcases List.mem_cons.mp hb with e | z
      · subst e; exact .inl ⟨_, hS⟩
      · exact k b z⟩
theorem upd_at {a b : Addr} {o u : HO} (e : upd H a o b = some u) (n : b ≠ a) : H b = some u := by rw [upd_ne n] at e; exact e
/-- .. and put back -/
theorem Sat.close {a : Addr} {ws : List V} {ys : List D} (s : Sat K H (a :: h) (ws.zip ys ++ c)) (e : ws.length = ys.length) : Sat K (upd H a (.lst ws)) h ((.ref a, .lst true ys) :: c) := by
  obtain ⟨os, r, n, k⟩ := s
  obtain ⟨o1, o2, rfl, r1, r2⟩ := RepC.unzip e r
  have pp : (h ++ (a :: o1 ++ o2)).Perm (a :: h ++ (o1 ++ o2)) := List.perm_middle
  have na : ∀ b ∈ h ++ (o1 ++ o2), b ≠ a := fun b hb z => (List.nodup_cons.mp n).1 (z ▸ hb)
  have hE : ∀ b o, H b = some o → b ∉ [a] → (upd H a (.lst ws)) b = some o := fun b o q hb => by
    rw [upd_ne (by simpa using hb)]; exact q
  have hW : ∀ b ∈ [a], b ∈ a :: h ++ (o1 ++ o2) ∧ Own H b := fun b hb => by
    have : b = a := by simpa using hb
    subst this
    exact ⟨by simp, k b (by simp)⟩
  have hT : ∀ b ∈ h ++ (a :: o1 ++ o2), b ∈ a :: h ++ (o1 ++ o2) ∨ H b = none := fun b hb => .inl (pp.mem_iff.mp hb)
  refine ⟨a :: o1 ++ o2, .cons (.own upd_same (RepL.tr hE hW hT r1 fun b hb z => ?_)) (RepL.tr hE hW hT r2 fun b hb z => ?_), pp.nodup_iff.mpr n, fun b hb => ?_⟩
  · exact na b (by simp [hb]) (by simpa using z)
  · exact na b (by simp [hb]) (by simpa using z)
  · have nb := na b (by simp [hb])
    have q := k b (by simp [hb])
    unfold Own
    rw [upd_ne nb]
    exact q
/-- a new list -/
theorem Sat.newL {p : Addr} {ws : List V} {ys : List D} (s : Sat K H h (ws.zip ys ++ c)) (e : ws.length = ys.length) (hp : H p = none) : Sat K (upd H p (.lst ws)) h ((.ref p, .lst true ys) :: c) := by
  obtain ⟨os, r, n, k⟩ := s
  obtain ⟨o1, o2, rfl, r1, r2⟩ := RepC.unzip e r
  have pp : (h ++ (p :: o1 ++ o2)).Perm (p :: (h ++ (o1 ++ o2))) := List.perm_middle
  have own : ∀ b ∈ h ++ (o1 ++ o2), Own H b := fun b hb => by
    rcases List.mem_append.mp hb with z | z
    · exact k b z
    · exact RepL.own_of r b z
  have hnp : p ∉ h ++ (o1 ++ o2) := fun z => (own p z).ne hp
  have hE : ∀ b o, H b = some o → b ∉ ([] : List Addr) → (upd H p (.lst ws)) b = some o := fun b o q _ => by
    rw [upd_ne (ne_of_none q hp)]; exact q
  have hW : ∀ b ∈ ([] : List Addr), b ∈ h ++ (o1 ++ o2) ∧ Own H b := fun b hb => absurd hb (by simp)
  have hT : ∀ b ∈ h ++ (p :: o1 ++ o2), b ∈ h ++ (o1 ++ o2) ∨ H b = none := fun b hb => by
    rcases List.mem_cons.mp (pp.mem_iff.mp hb) with z | z
    · subst z; exact .inr hp
    · exact .inl z
  refine ⟨p :: o1 ++ o2, .cons (.own upd_same (RepL.tr hE hW hT r1 fun b hb => by simp)) (RepL.tr hE hW hT r2 fun b hb => by simp), pp.nodup_iff.mpr (List.nodup_cons.mpr ⟨hnp, n⟩), fun b hb => ?_⟩
  have q := k b hb
  have nb : b ≠ p := fun z => q.ne (z ▸ hp)
  unfold Own
  rw [upd_ne nb]
  exact q
/-- a new tuple -/
theorem Sat.newT {p : Addr} {ws : List V} {ys : List D} (s : Sat K H h (ws.zip ys ++ c)) (e : ws.length = ys.length) (hp : H p = none) : Sat K (upd H p (.tup ws)) h ((.ref p, .tup ys) :: c) := by
  obtain ⟨os, r, n, k⟩ := s
  obtain ⟨o1, o2, rfl, r1, r2⟩ := RepC.unzip e r
  have hE : ∀ b o, H b = some o → b ∉ ([] : List Addr) → (upd H p (.tup ws)) b = some o := fun b o q _ => by
    rw [upd_ne (ne_of_none q hp)]; exact q
  have hW : ∀ b ∈ ([] : List Addr), b ∈ h ++ (o1 ++ o2) ∧ Own H b := fun b hb => absurd hb (by simp)
  have hT : ∀ b ∈ h ++ (o1 ++ o2), b ∈ h ++ (o1 ++ o2) ∨ H b = none := fun b hb => .inl hb
  refine ⟨o1 ++ o2, .cons (.tup (.inl (.inl upd_same)) (RepL.tr hE hW hT r1 fun b hb => by simp)) (RepL.tr hE hW hT r2 fun b hb => by simp), n, fun b hb => ?_⟩
  have q := k b hb
  have nb : b ≠ p := fun z => q.ne (z ▸ hp)
  unfold Own
  rw [upd_ne nb]
  exact q
end VL

/-! VL1: the core language and its evaluation over data. -/
namespace VL
open PySem PySem.Spec PyProof.Rows L2

/-- what comes: an answer and the state; an exception with its one attribute; or nothing is said -/
inductive Rs (σ α : Type) where
  | ok (a : α) (s : σ)
  | exn (k : Nat) (d : D) (s : σ)
  | no
def Rs.bind {σ α β : Type} (r : Rs σ α) (f : α → σ → Rs σ β) : Rs σ β :=
  match r with
  | .ok a s => f a s
  | .exn k d s => .exn k d s
  | .no => .no
@[simp] theorem Rs.bind_ok {σ α β : Type} (a : α) (s : σ) (f : α → σ → Rs σ β) : Rs.bind (.ok a s) f = f a s := (rfl)
@[simp] theorem Rs.bind_exn {σ α β : Type} (k d) (s : σ) (f : α → σ → Rs σ β) : Rs.bind (.exn k d s) f = .exn k d s := (rfl)
@[simp] theorem Rs.bind_no {σ α β : Type} (f : α → σ → Rs σ β) : Rs.bind .no f = .no := (rfl)
/-- a pure step -/
def Rs.of {σ α : Type} (s : σ) : Option α → Rs σ α
  | some a => .ok a s
  | none => .no
@[simp] theorem Rs.of_some {σ α : Type} (s : σ) (a : α) : Rs.of s (some a) = .ok a s := (rfl)
@[simp] theorem Rs.of_none {σ α : Type} (s : σ) : (Rs.of s none : Rs σ α) = .no := (rfl)

abbrev Rho := List (Option D)

/-- kinds, for isinstance -/
inductive Ki where
  | int | bool | str | list | tuple | dict
  deriving DecidableEq

def Ki.has : Ki → D → Bool
  | .int, .int _ => true
  | .int, .bl _ => true
  | .bool, .bl _ => true
  | .str, .str _ => true
  | .list, .lst _ _ => true
  | .tuple, .tup _ => true
  | .dict, .dct _ _ _ => true
  | _, _ => false

/-- operations upon values that change nothing -/
inductive Prim where
  | add | sub | mul | fdiv | mod | pow | neg
  | eq | ne | lt | le | gt | ge | isN | notN | inn | nin
  | len | abs | toInt | toList | toTup | lrng1 | lrng2 | lrng3
  | sum | min1 | max1 | min2 | max2 | sorted | all | any
  | isI (k : Ki)
  | idx | slLH | slL | slH | sl | rev
  | join | sindex | scount | lindex | lcount | dget | din | dnin | set | str
  | isB | niB
  deriving DecidableEq

mutual
/-- depth at most n -/
def shal : Nat → D → Bool
  | n, .tup xs => match n with
    | 0 => false
    | n + 1 => shalL n xs
  | n, .lst _ xs => match n with
    | 0 => false
    | n + 1 => shalL n xs
  | _, .dct _ _ _ => false
  | _, .scr _ => false
  | _, .non => true
  | _, .bl _ => true
  | _, .int _ => true
  | _, .str _ => true
def shalL : Nat → List D → Bool
  | _, [] => true
  | n, x :: xs => shal n x && shalL n xs
end
theorem shalL_all (n : Nat) : ∀ xs : List D, shalL n xs = xs.all (shal n)
  | [] => by simp [shalL]
  | x :: xs => by rw [shalL, shalL_all n xs]; rfl

mutual
theorem shal_mono : ∀ {n m : Nat} {d : D}, n ≤ m → shal n d = true → shal m d = true := fun {n m d} h f => by
  cases d with
  | tup xs =>
    cases n with
    | zero => simp [shal] at f
    | succ n =>
      cases m with
      | zero => omega
      | succ m =>
        simp only [shal] at f ⊢
        exact shalL_mono (by omega) f
  | lst o xs =>
    cases n with
    | zero => simp [shal] at f
    | succ n =>
      cases m with
      | zero => omega
      | succ m =>
        simp only [shal] at f ⊢
        exact shalL_mono (by omega) f
  | dct _ _ _ => simp [shal] at f
  | scr _ => simp [shal] at f
  | _ => simp [shal]
theorem shalL_mono : ∀ {n m : Nat} {ds : List D}, n ≤ m → shalL n ds = true → shalL m ds = true
  | n, m, [], _, _ => by simp [shalL]
  | n, m, d :: ds, h, f => by
    simp only [shalL, Bool.and_eq_true] at f ⊢
    exact ⟨shal_mono h f.1, shalL_mono h f.2⟩
end
mutual
/-- == of data -/
def deqv : D → D → Bool
  | .non, .non => true
  | .bl a, .bl b => a == b
  | .bl a, .int j => (if a then 1 else 0) == j
  | .int i, .bl b => i == (if b then 1 else 0)
  | .int i, .int j => decide (i = j)
  | .str x, .str y => decide (x = y)
  | .lst _ xs, .lst _ ys => deqvL xs ys
  | .tup xs, .tup ys => deqvL xs ys
  | _, _ => false
def deqvL : List D → List D → Bool
  | [], [] => true
  | x :: xs, y :: ys => deqv x y && deqvL xs ys
  | _, _ => false
end

/-- the place of an index: from the left or, below 0, from the right -/
def ixAt (n : Nat) (i : Int) : Option Nat := if 0 ≤ i then (if i < n then some i.toNat else none) else if -(n : Int) ≤ i then some (i + n).toNat else none
/-- a bound of a slice, clipped -/
def clip (n : Nat) (i : Int) : Nat := if i < 0 then (i + n).toNat else min i.toNat n
def cutL {α : Type} (xs : List α) (lo hi : Nat) : List α := (xs.drop lo).take (hi - lo)
/-- range(a, b) -/
def rng2 (a b : Int) : List Int := (List.range (b - a).toNat).map fun (k : Nat) => a + (k : Int)
/-- range(a, b, -1) -/
def rngD (a b : Int) : List Int := (List.range (a - b).toNat).map fun (k : Nat) => a - (k : Int)

def asInts : List D → Option (List Int)
  | [] => some []
  | .int i :: xs => (asInts xs).map (i :: ·)
  | _ => none
def asStrs : List D → Option (List (List Nat))
  | [] => some []
  | .str i :: xs => (asStrs xs).map (i :: ·)
  | _ => none
def asBls : List D → Option (List Bool)
  | [] => some []
  | .bl i :: xs => (asBls xs).map (i :: ·)
  | _ => none
/-- a flat value: none, a bool, an int, a text -/
def D.flat : D → Bool
  | .non => true
  | .bl _ => true
  | .int _ => true
  | .str _ => true
  | _ => false

/-- the order of texts -/
def strLt (x y : List Nat) : Bool := decide (x < y)
/-- where the part y stands first in x -/
def firstAt (y x : List Nat) : Option Nat := (List.range (x.length + 1)).find? fun i => decide ((x.drop i).take y.length = y)
def isPart (y x : List Nat) : Bool := (firstAt y x).isSome
def joinS (sep : List Nat) : List (List Nat) → List Nat
  | [] => []
  | [x] => x
  | x :: y :: r => x ++ sep ++ joinS sep (y :: r)

def keyOf : D → Option Key
  | .int i => some (.inl i)
  | .str x => some (.inr ⟨x.toArray⟩)
  | _ => none

/-- what stands at a key -/
def lookKV (k : Key) : List Key → List D → Option D
  | k' :: ks, x :: xs => if k' = k then some x else lookKV k ks xs
  | _, _ => none
def small64 (i : Int) : Bool := decide (-(2 ^ 62) ≤ i) && decide (i < 2 ^ 62)
def small2 (i : Int) : Bool := decide (-(2 ^ 64) < i) && decide (i < 2 ^ 64)

/-- sorting by insertion -/
def insS {α : Type} (le : α → α → Bool) (x : α) : List α → List α
  | [] => [x]
  | y :: ys => if le x y = true then x :: y :: ys else y :: insS le x ys
def isort {α : Type} (le : α → α → Bool) : List α → List α
  | [] => []
  | x :: xs => insS le x (isort le xs)
def srtI (ns : List Int) : List Int := isort (fun x y => decide (x ≤ y)) ns
def srtS (ns : List (List Nat)) : List (List Nat) := isort (fun x y => !ltCps y x) ns
/-- how often a sign stands in a text -/
def countD (x : List Nat) : List Nat → Option D
  | [c] => some (.int ((x.countP fun z => decide (z = c)) : Nat))
  | _ => none
def maxL : List Int → Option Int
  | [] => none
  | x :: xs => some (xs.foldl (fun a b => if a < b then b else a) x)
def minL : List Int → Option Int
  | [] => none
  | x :: xs => some (xs.foldl (fun a b => if b < a then b else a) x)
def sortD (a : List D) : Option D := match asInts a with
  | some ns => some (.lst true ((srtI ns).map .int))
  | none => (asStrs a).bind fun ys => if ys.length < 64 then some (.lst true ((srtS ys).map .str)) else none
/-- the operations that came later -/
def prim2 : Prim → List D → Option D
  | .isB, [.bl a, .bl b] => some (.bl (a == b))
  | .niB, [.bl a, .bl b] => some (.bl (a != b))
  | .sorted, [.lst _ a] => sortD a
  | .scount, [.str x, .str y] => countD x y
  | .max1, [.lst _ a] => (asInts a).bind fun ns => (maxL ns).map .int
  | .min1, [.lst _ a] => (asInts a).bind fun ns => (minL ns).map .int
  | _, _ => none
def prim : Prim → List D → Option D
  | .add, [.int a, .int b] => some (.int (a + b))
  | .add, [.str a, .str b] => if a.length + b.length ≤ 16777216 then some (.str (a ++ b)) else none
  | .add, [.lst _ a, .lst _ b] => if (D.isFL a && D.isFL b) = true then (if a.length + b.length ≤ 16777216 then some (.lst true (a ++ b)) else none) else none
  | .sub, [.int a, .int b] => some (.int (a - b))
  | .mul, [.int a, .int b] => if (small2 a || small2 b) = true then some (.int (a * b)) else none
  | .mul, [.str a, .int b] => if (small64 b && decide (a.length * b.toNat ≤ 16777216)) = true then some (.str (List.replicate b.toNat a).flatten) else none
  | .mul, [.lst _ a, .int b] => if (small64 b && D.isFL a && decide (a.length * b.toNat ≤ 16777216)) = true then some (.lst true (List.replicate b.toNat a).flatten) else none
  | .fdiv, [.int a, .int b] => if 0 < b ∧ b < 1073741824 then some (.int (a / b)) else none
  | .mod, [.int a, .int b] => if 0 < b then some (.int (a % b)) else none
  | .pow, [.int a, .int b] => if (0 ≤ b ∧ b ≤ 1000) ∧ small2 a = true then some (.int (a ^ b.toNat)) else none
  | .neg, [.int a] => some (.int (-a))
  | .eq, [a, b] => if (shal 8 a && shal 8 b) = true then some (.bl (deqv a b)) else none
  | .ne, [a, b] => if (shal 8 a && shal 8 b) = true then some (.bl (!deqv a b)) else none
  | .lt, [.int a, .int b] => some (.bl (decide (a < b)))
  | .le, [.int a, .int b] => some (.bl (decide (a ≤ b)))
  | .gt, [.int a, .int b] => some (.bl (decide (b < a)))
  | .ge, [.int a, .int b] => some (.bl (decide (b ≤ a)))
  | .lt, [.str a, .str b] => some (.bl (strLt a b))
  | .isN, [a] => some (.bl (match a with | .non => true | _ => false))
  | .notN, [a] => some (.bl (match a with | .non => false | _ => true))
  | .inn, [.str a, .str b] => some (.bl (isPart a b))
  | .nin, [.str a, .str b] => some (.bl (!isPart a b))
  | .inn, [a, .lst _ xs] => if (shal 8 a && shalL 7 xs) = true then some (.bl (xs.any fun z => deqv z a)) else none
  | .nin, [a, .lst _ xs] => if (shal 8 a && shalL 7 xs) = true then some (.bl (!xs.any fun z => deqv z a)) else none
  | .len, [.str a] => some (.int a.length)
  | .len, [.lst _ a] => some (.int a.length)
  | .len, [.tup a] => some (.int a.length)
  | .abs, [.int a] => some (.int (if a < 0 then -a else a))
  | .toInt, [.int a] => some (.int a)
  | .toInt, [.bl b] => some (.int (if b then 1 else 0))
  | .toList, [.lst _ a] => if D.isFL a = true then some (.lst true a) else none
  | .toList, [.tup a] => if D.isFL a = true then some (.lst true a) else none
  | .toList, [.scr a] => some (.lst true (a.map .int))
  | .lrng1, [.int a] => if (small64 a && decide (a.toNat ≤ 16777216)) = true then some (.lst true ((rng2 0 a).map .int)) else none
  | .lrng2, [.int a, .int b] => if (small64 a && small64 b && decide ((b - a).toNat ≤ 16777216)) = true then some (.lst true ((rng2 a b).map .int)) else none
  | .lrng3, [.int a, .int b, .int c] => if (small64 a && small64 b && decide (c = -1) && decide ((a - b).toNat ≤ 16777216)) = true then some (.lst true ((rngD a b).map .int)) else none
  | .sum, [.lst _ a] => (asInts a).map fun ns => .int ns.sum
  | .all, [.lst _ a] => (asBls a).map fun ns => .bl (ns.all id)
  | .any, [.lst _ a] => (asBls a).map fun ns => .bl (ns.any id)
  | .min2, [.int a, .int b] => some (.int (if b < a then b else a))
  | .max2, [.int a, .int b] => some (.int (if b > a then b else a))
  | .isI k, [a] => match a with
    | .scr _ => none
    | a => some (.bl (k.has a))
  | .idx, [.lst _ xs, .int i] => (ixAt xs.length i).bind fun j => (xs[j]?).bind fun d => if d.isF = true then some d else none
  | .idx, [.tup xs, .int i] => (ixAt xs.length i).bind fun j => (xs[j]?).bind fun d => if d.isF = true then some d else none
  | .idx, [.str x, .int i] => (ixAt x.length i).bind fun j => (x[j]?).map fun k => .str [k]
  | .slLH, [.lst _ xs, .int i, .int j] => if D.isFL xs = true then some (.lst true (cutL xs (clip xs.length i) (clip xs.length j))) else none
  | .slLH, [.str xs, .int i, .int j] => some (.str (cutL xs (clip xs.length i) (clip xs.length j)))
  | .slLH, [.tup xs, .int i, .int j] => if D.isFL xs = true then some (.tup (cutL xs (clip xs.length i) (clip xs.length j))) else none
  | .slL, [.lst _ xs, .int i] => if D.isFL xs = true then some (.lst true (xs.drop (clip xs.length i))) else none
  | .slL, [.str xs, .int i] => some (.str (xs.drop (clip xs.length i)))
  | .slL, [.tup xs, .int i] => if D.isFL xs = true then some (.tup (xs.drop (clip xs.length i))) else none
  | .slH, [.lst _ xs, .int i] => if D.isFL xs = true then some (.lst true (xs.take (clip xs.length i))) else none
  | .slH, [.str xs, .int i] => some (.str (xs.take (clip xs.length i)))
  | .slH, [.tup xs, .int i] => if D.isFL xs = true then some (.tup (xs.take (clip xs.length i))) else none
  | .rev, [.lst _ xs] => if D.isFL xs = true then some (.lst true xs.reverse) else none
  | .rev, [.str xs] => some (.str xs.reverse)
  | .join, [.str s, .lst _ xs] => (asStrs xs).bind fun ys => if (ys.map List.length).sum + ys.length * s.length ≤ 16777216 then some (.str (joinS s ys)) else none
  | .sindex, [.str x, .str y] => (firstAt y x).map fun k => .int (k : Nat)
  | .dget, [.dct _ ks xs, k] => (keyOf k).bind fun k => (lookKV k ks xs).bind fun d => if d.isF = true then some d else none
  | .din, [k, .dct _ ks _] => (keyOf k).map fun k => .bl (ks.any fun k' => decide (k' = k))
  | .dnin, [k, .dct _ ks _] => (keyOf k).map fun k => .bl (!ks.any fun k' => decide (k' = k))
  | p, ds => prim2 p ds

@[simp] theorem prim2_add (ds : List D) : prim2 .add ds = none := (rfl)
@[simp] theorem prim2_sub (ds : List D) : prim2 .sub ds = none := (rfl)
@[simp] theorem prim2_mul (ds : List D) : prim2 .mul ds = none := (rfl)
@[simp] theorem prim2_fdiv (ds : List D) : prim2 .fdiv ds = none := (rfl)
@[simp] theorem prim2_mod (ds : List D) : prim2 .mod ds = none := (rfl)
@[simp] theorem prim2_pow (ds : List D) : prim2 .pow ds = none := (rfl)
@[simp] theorem prim2_neg (ds : List D) : prim2 .neg ds = none := (rfl)
@[simp] theorem prim2_eq (ds : List D) : prim2 .eq ds = none := (rfl)
@[simp] theorem prim2_ne (ds : List D) : prim2 .ne ds = none := (rfl)
@[simp] theorem prim2_lt (ds : List D) : prim2 .lt ds = none := (rfl)
@[simp] theorem prim2_le (ds : List D) : prim2 .le ds = none := (rfl)
@[simp] theorem prim2_gt (ds : List D) : prim2 .gt ds = none := (rfl)
@[simp] theorem prim2_ge (ds : List D) : prim2 .ge ds = none := (rfl)
@[simp] theorem prim2_isN (ds : List D) : prim2 .isN ds = none := (rfl)
@[simp] theorem prim2_notN (ds : List D) : prim2 .notN ds = none := (rfl)
@[simp] theorem prim2_inn (ds : List D) : prim2 .inn ds = none := (rfl)
@[simp] theorem prim2_nin (ds : List D) : prim2 .nin ds = none := (rfl)
@[simp] theorem prim2_len (ds : List D) : prim2 .len ds = none := (rfl)
@[simp] theorem prim2_abs (ds : List D) : prim2 .abs ds = none := (rfl)
@[simp] theorem prim2_toInt (ds : List D) : prim2 .toInt ds = none := (rfl)
@[simp] theorem prim2_toList (ds : List D) : prim2 .toList ds = none := (rfl)
@[simp] theorem prim2_toTup (ds : List D) : prim2 .toTup ds = none := (rfl)
@[simp] theorem prim2_lrng1 (ds : List D) : prim2 .lrng1 ds = none := (rfl)
@[simp] theorem prim2_lrng2 (ds : List D) : prim2 .lrng2 ds = none := (rfl)
@[simp] theorem prim2_lrng3 (ds : List D) : prim2 .lrng3 ds = none := (rfl)
@[simp] theorem prim2_sum (ds : List D) : prim2 .sum ds = none := (rfl)
@[simp] theorem prim2_min2 (ds : List D) : prim2 .min2 ds = none := (rfl)
@[simp] theorem prim2_max2 (ds : List D) : prim2 .max2 ds = none := (rfl)
@[simp] theorem prim2_all (ds : List D) : prim2 .all ds = none := (rfl)
@[simp] theorem prim2_any (ds : List D) : prim2 .any ds = none := (rfl)
@[simp] theorem prim2_isI (k : Ki) (ds : List D) : prim2 (.isI k) ds = none := (rfl)
@[simp] theorem prim2_idx (ds : List D) : prim2 .idx ds = none := (rfl)
@[simp] theorem prim2_slLH (ds : List D) : prim2 .slLH ds = none := (rfl)
@[simp] theorem prim2_slL (ds : List D) : prim2 .slL ds = none := (rfl)
@[simp] theorem prim2_slH (ds : List D) : prim2 .slH ds = none := (rfl)
@[simp] theorem prim2_sl (ds : List D) : prim2 .sl ds = none := (rfl)
@[simp] theorem prim2_rev (ds : List D) : prim2 .rev ds = none := (rfl)
@[simp] theorem prim2_join (ds : List D) : prim2 .join ds = none := (rfl)
@[simp] theorem prim2_sindex (ds : List D) : prim2 .sindex ds = none := (rfl)
@[simp] theorem prim2_lindex (ds : List D) : prim2 .lindex ds = none := (rfl)
@[simp] theorem prim2_lcount (ds : List D) : prim2 .lcount ds = none := (rfl)
@[simp] theorem prim2_dget (ds : List D) : prim2 .dget ds = none := (rfl)
@[simp] theorem prim2_din (ds : List D) : prim2 .din ds = none := (rfl)
@[simp] theorem prim2_dnin (ds : List D) : prim2 .dnin ds = none := (rfl)
@[simp] theorem prim2_set (ds : List D) : prim2 .set ds = none := (rfl)
@[simp] theorem prim2_str (ds : List D) : prim2 .str ds = none := (rfl)
/-- methods that change the list (dict) in a slot -/
inductive Mt where
  | append | extend | pop0 | pop | setI | dput | sort | insert
  deriving DecidableEq

/-- the list's items and the arguments -> the answer and the new items -/
def mutL : Mt → List D → List D → Option (D × List D)
  | .append, xs, [d] => if xs.length < 16777216 then some (.non, xs ++ [d]) else none
  | .extend, xs, [.lst _ ys] => if xs.length + ys.length ≤ 16777216 then some (.non, xs ++ ys) else none
  | .pop, xs, [.int i] => if small64 i = true then (ixAt xs.length i).bind fun j => (xs[j]?).map fun d => (d, xs.eraseIdx j) else none
  | .pop0, xs, [] => (xs[xs.length - 1]?).map fun d => (d, xs.dropLast)
  | .setI, xs, [.int i, d] => (ixAt xs.length i).map fun j => (.non, xs.set j d)
  | _, _, _ => none
def putKV (k : Key) (d : D) (ks : List Key) (xs : List D) : List Key × List D :=
  if (ks.any fun k' => decide (k' = k)) = true then (ks, List.zipWith (fun k' x => if k' = k then d else x) ks xs) else (ks ++ [k], xs ++ [d])

inductive Tg where
  | nm (i : Nat)
  | tp (a : Tg) (r : Tg)     -- a target and the others
  | en                        -- no more

mutual
inductive Ex where
  | cst (d : D)
  | glb (x : Str) (d : D)
  | var (i : Nat)
  | mov (i : Nat)
  | pk (i : Nat)
  | frz (e : Ex)
  | ckI (e : Ex)
  | ckS (e : Ex)
  | ckL (e : Ex)
  | prm (p : Prim) (as : Exs)
  | chn (p q : Prim) (a b c : Ex)
  | and (as : Exs)
  | or (as : Exs)
  | not (a : Ex)
  | ife (c a b : Ex)
  | call (f : Nat) (as : Exs)
  | mut (m : Mt) (i : Nat) (as : Exs)
  | tup (as : Exs)
  | lst (as : Exs)
  | dic
  | comp (own : List Nat) (t : Tg) (it : It) (ifs : Exs) (e : Ex)
inductive Exs where
  | nil
  | cons (e : Ex) (es : Exs)
inductive It where
  | val (e : Ex)
  | rng1 (a : Ex)
  | rng2 (a b : Ex)
  | rng3 (a b c : Ex)
  | enum (a : Ex)
  | zip (a b : Ex)
  | zipS (a b : Ex)
end

/-- a target's names filled -/
def bindT : Tg → D → Rho → Option Rho
  | .nm i, d, ρ => if i < ρ.length then some (ρ.set i (some d)) else none
  | .tp a r, .tup (x :: xs), ρ => (bindT a x ρ).bind fun ρ => bindT r (.tup xs) ρ
  | .en, .tup [], ρ => some ρ
  | _, _, _ => none

def getS (ρ : Rho) (i : Nat) : Option D := (ρ[i]?).bind id
def putS (ρ : Rho) (i : Nat) (d : D) : Rho := ρ.set i (some d)
def goneS (ρ : Rho) (i : Nat) : Rho := ρ.set i none

/-- the items that a loop over d takes -/
def itemsOf : D → Option (List D)
  | .lst _ xs => if D.isFL xs = true then some xs else none
  | .tup xs => if D.isFL xs = true then some xs else none
  | .str x => some (x.map fun k => .str [k])
  | _ => none
/-- the items of a list -/
def lstOf : D → Option (List D)
  | .lst _ xs => if D.isFL xs = true then some xs else none
  | _ => none
def strOf : D → Option (List Nat)
  | .str x => some x
  | _ => none
def enumD : Nat → List D → List D
  | _, [] => []
  | k, d :: ds => .tup [.int (k : Nat), d] :: enumD (k + 1) ds
def zipD : List D → List D → List D
  | a :: as, b :: bs => .tup [a, b] :: zipD as bs
  | _, _ => []

/-- an argument that was looked at alone stands in its slot; another one was made -/
def fetchL : Exs → List (Option D) → Rho → Option (List D)
  | .nil, [], _ => some []
  | .cons (.pk i) es, _ :: ds, ρ => (getS ρ i).bind fun d => (fetchL es ds ρ).map (d :: ·)
  | .cons _ es, some d :: ds, ρ => (fetchL es ds ρ).map (d :: ·)
  | _, _, _ => none
/-- .. and is lent to the def that is called -/
def lendL : Exs → List (Option D) → Rho → Option (List D × Rho)
  | .nil, [], ρ => some ([], ρ)
  | .cons (.pk i) es, _ :: ds, ρ => (getS ρ i).bind fun d => (lendL es ds (goneS ρ i)).map fun r => (d :: r.1, r.2)
  | .cons _ es, some d :: ds, ρ => (lendL es ds ρ).map fun r => (d :: r.1, r.2)
  | _, _, _ => none
/-- .. and comes back (a flat one as it was) -/
def backL : Exs → List D → List (Option D) → Rho → Rho
  | .cons (.pk i) es, d :: ds, r :: rs, ρ => backL es ds rs (ρ.set i (if d.flat = true then some d else r))
  | .cons _ es, _ :: ds, _ :: rs, ρ => backL es ds rs ρ
  | _, _, _, ρ => ρ

def isLst : Option D → Bool
  | some (.lst _ _) => true
  | _ => false
abbrev Calls := Nat → List D → Rs (List (Option D)) D

/-- a comprehension's turns: acc is the list so far -/
def compL (bind : D → Rho → Option Rho) (test : Rho → Rs Rho Bool) (elt : Rho → Rs Rho D) : List D → List D → Rho → Rs Rho D
  | [], acc, ρ => .ok (.lst true acc) ρ
  | d :: ds, acc, ρ => (Rs.of ρ (bind d ρ)).bind fun ρ1 _ => (test ρ1).bind fun b ρ2 =>
    if b = true then (elt ρ2).bind fun x ρ3 => if acc.length < 16777216 then compL bind test elt ds (acc ++ [x]) ρ3 else .no
    else compL bind test elt ds acc ρ2

def wipeS (ρ : Rho) : List Nat → Rho
  | [] => ρ
  | i :: is => goneS (wipeS ρ is) i
def backS (ρ ρ0 : Rho) : List Nat → Rho
  | [] => ρ
  | i :: is => (backS ρ ρ0 is).set i (getS ρ0 i)

mutual
def evalE (G : Calls) : Ex → Rho → Rs Rho D
  | .cst d, ρ => .ok d ρ
  | .glb _ d, ρ => .ok d ρ
  | .var i, ρ => (Rs.of ρ (getS ρ i)).bind fun d _ => if d.isF = true then .ok d ρ else .ok d.frz (putS ρ i d.frz)
  | .mov i, ρ => (Rs.of ρ (getS ρ i)).bind fun d _ => .ok d (goneS ρ i)
  | .pk i, ρ => (Rs.of ρ (getS ρ i)).bind fun d _ => if d.isF = true then .ok d ρ else .no
  | .frz e, ρ => (evalE G e ρ).bind fun d ρ => .ok d.frz ρ
  | .ckI e, ρ => (evalE G e ρ).bind fun d ρ => match d with
    | .int i => .ok (.int i) ρ
    | _ => .no
  | .ckS e, ρ => (evalE G e ρ).bind fun d ρ => match d with
    | .str x => .ok (.str x) ρ
    | _ => .no
  | .ckL e, ρ => (evalE G e ρ).bind fun d ρ => match d with
    | .lst o xs => .ok (.lst o xs) ρ
    | _ => .no
  | .prm p as, ρ => (evalO G as ρ).bind fun ds ρ => (Rs.of ρ (fetchL as ds ρ)).bind fun ds _ => Rs.of ρ (prim p ds)
  | .chn p q a b c, ρ => (evalE G a ρ).bind fun x ρ => (evalE G b ρ).bind fun y ρ => (Rs.of ρ (prim p [x, y])).bind fun z _ =>
    match z with
    | .bl true => (evalE G c ρ).bind fun u ρ => Rs.of ρ (prim q [y, u])
    | .bl false => .ok (.bl false) ρ
    | _ => .no
  | .and as, ρ => evalAnd G as ρ
  | .or as, ρ => evalOr G as ρ
  | .not a, ρ => (evalE G a ρ).bind fun x ρ => match x with
    | .bl b => .ok (.bl (!b)) ρ
    | _ => .no
  | .ife c a b, ρ => (evalE G c ρ).bind fun x ρ => match x with
    | .bl t => if t = true then evalE G a ρ else evalE G b ρ
    | _ => .no
  | .call f as, ρ => (evalO G as ρ).bind fun ds ρ => (Rs.of ρ (lendL as ds ρ)).bind fun r _ =>
    match G f r.1 with
    | .ok d rs => .ok d (backL as r.1 rs r.2)
    | .exn k d rs => .exn k d (backL as r.1 rs r.2)
    | .no => .no
  | .mut m i as, ρ => if isLst (getS ρ i) = true then (evalS G as ρ).bind fun ds ρ => (Rs.of ρ (getS ρ i)).bind fun d _ => match d with
      | .lst true xs => (Rs.of ρ (mutL m xs ds)).bind fun r _ => .ok r.1 (putS ρ i (.lst true r.2))
      | _ => .no
    else .no
  | .tup as, ρ => (evalS G as ρ).bind fun ds ρ => .ok (.tup ds) ρ
  | .lst as, ρ => (evalS G as ρ).bind fun ds ρ => .ok (.lst true ds) ρ
  | .dic, ρ => .ok (.dct true [] []) ρ
  | .comp own t it ifs e, ρ => (evalI G it ρ).bind fun ds ρ =>
    (compL (fun d ρ => bindT t d (wipeS ρ own)) (fun ρ => (evalAnd G ifs ρ).bind fun x ρ => match x with
      | .bl b => .ok b ρ
      | _ => .no) (fun ρ => evalE G e ρ) ds [] ρ).bind fun d ρ1 => .ok d (backS ρ1 ρ own)
/-- the values of arguments: one that is looked at alone comes later -/
def evalO (G : Calls) : Exs → Rho → Rs Rho (List (Option D))
  | .nil, ρ => .ok [] ρ
  | .cons e es, ρ => match e with
    | .pk i => (Rs.of ρ (getS ρ i)).bind fun _ _ => (evalO G es ρ).bind fun ds ρ => .ok (none :: ds) ρ
    | e => (evalE G e ρ).bind fun d ρ => (evalO G es ρ).bind fun ds ρ => .ok (some d :: ds) ρ
def evalS (G : Calls) : Exs → Rho → Rs Rho (List D)
  | .nil, ρ => .ok [] ρ
  | .cons e es, ρ => (evalE G e ρ).bind fun d ρ => (evalS G es ρ).bind fun ds ρ => .ok (d :: ds) ρ
def evalAnd (G : Calls) : Exs → Rho → Rs Rho D
  | .nil, ρ => .ok (.bl true) ρ
  | .cons e es, ρ => (evalE G e ρ).bind fun x ρ => match x with
    | .bl b => if b = true then evalAnd G es ρ else .ok (.bl false) ρ
    | _ => .no
def evalOr (G : Calls) : Exs → Rho → Rs Rho D
  | .nil, ρ => .ok (.bl false) ρ
  | .cons e es, ρ => (evalE G e ρ).bind fun x ρ => match x with
    | .bl b => if b = true then .ok (.bl true) ρ else evalOr G es ρ
    | _ => .no
/-- what a loop takes; the thing that it walks over stays in the slot or is held -/
def evalI (G : Calls) : It → Rho → Rs Rho (List D)
  | .val e, ρ => (evalE G e ρ).bind fun d ρ => Rs.of ρ (itemsOf d)
  | .rng1 a, ρ => (evalE G a ρ).bind fun x ρ => match x with
    | .int a => if small64 a = true then .ok ((rng2 0 a).map .int) ρ else .no
    | _ => .no
  | .rng2 a b, ρ => (evalE G a ρ).bind fun x ρ => (evalE G b ρ).bind fun y ρ => match x, y with
    | .int a, .int b => if (small64 a && small64 b) = true then .ok ((rng2 a b).map .int) ρ else .no
    | _, _ => .no
  | .rng3 a b c, ρ => (evalE G a ρ).bind fun x ρ => (evalE G b ρ).bind fun y ρ => (evalE G c ρ).bind fun z ρ => match x, y, z with
    | .int a, .int b, .int c => if (small64 a && small64 b && decide (c = -1)) = true then .ok ((rngD a b).map .int) ρ else .no
    | _, _, _ => .no
  | .enum a, ρ => (evalE G a ρ).bind fun d ρ => (Rs.of ρ (lstOf d)).bind fun xs _ => .ok (enumD 0 xs) ρ
  | .zip a b, ρ => (evalE G a ρ).bind fun d ρ => (evalE G b ρ).bind fun e ρ => (Rs.of ρ (lstOf d)).bind fun xs _ => (Rs.of ρ (lstOf e)).bind fun ys _ => .ok (zipD xs ys) ρ
  | .zipS a b, ρ => (evalE G a ρ).bind fun d ρ => (evalE G b ρ).bind fun e ρ => (Rs.of ρ (strOf d)).bind fun x _ => (Rs.of ρ (lstOf e)).bind fun ys _ => .ok (zipD (x.map fun k => .str [k]) ys) ρ
end

/-! ### statements -/
inductive Fl where
  | nx | bk | ct
  | rt (d : D)

mutual
inductive Sm where
  | asg (i : Nat) (e : Ex)
  | unp (t : Tg) (e : Ex)
  | par (i j : Nat) (a b : Ex)
  | seti (i : Nat) (k e : Ex)
  | aug (i : Nat) (p : Prim) (e : Ex)
  | augi (i : Nat) (k : Ex) (p : Prim) (e : Ex)
  | dput (i : Nat) (k e : Ex)
  | exp (e : Ex)
  | ret (e : Ex)
  | retN
  | ifs (c : Ex) (a b : Sms)
  | for (t : Tg) (it : It) (b : Sms)
  | forK (i : Nat) (t : Tg) (b : Sms)
  | whl (c : Ex) (b : Sms)
  | brk | cnt | pas | nvr
inductive Sms where
  | nil
  | cons (s : Sm) (ss : Sms)
end

def forL (bind : D → Rho → Option Rho) (body : Rho → Rs Rho Fl) : List D → Rho → Rs Rho Fl
  | [], ρ => .ok .nx ρ
  | d :: ds, ρ => (Rs.of ρ (bind d ρ)).bind fun ρ1 _ => (body ρ1).bind fun f ρ2 => match f with
    | .nx => forL bind body ds ρ2
    | .ct => forL bind body ds ρ2
    | .bk => .ok .nx ρ2
    | .rt d => .ok (.rt d) ρ2
def whlL (test : Rho → Rs Rho D) (body : Rho → Rs Rho Fl) : Nat → Rho → Rs Rho Fl
  | 0, _ => .no
  | n + 1, ρ => (test ρ).bind fun x ρ1 => match x with
    | .bl b => if b = true then (body ρ1).bind fun f ρ2 => match f with
        | .nx => whlL test body n ρ2
        | .ct => whlL test body n ρ2
        | .bk => .ok .nx ρ2
        | .rt d => .ok (.rt d) ρ2
      else .ok .nx ρ1
    | _ => .no
/-- the most turns of a while -/
def whlMost : Nat := 1000000000

mutual
def execS (G : Calls) : Sm → Rho → Rs Rho Fl
  | .asg i e, ρ => (evalE G e ρ).bind fun d ρ => (Rs.of ρ (bindT (.nm i) d ρ)).bind fun ρ _ => .ok .nx ρ
  | .unp t e, ρ => (evalE G e ρ).bind fun d ρ => (Rs.of ρ (bindT t d ρ)).bind fun ρ _ => .ok .nx ρ
  | .par i j a b, ρ => (evalE G a ρ).bind fun x ρ => (evalE G b ρ).bind fun y ρ => (Rs.of ρ (bindT (.nm i) x ρ)).bind fun ρ _ => (Rs.of ρ (bindT (.nm j) y ρ)).bind fun ρ _ => .ok .nx ρ
  | .seti i k e, ρ => (evalE G e ρ).bind fun d ρ => (Rs.of ρ (getS ρ i)).bind fun _ _ => (evalE G k ρ).bind fun x ρ => (Rs.of ρ (getS ρ i)).bind fun l _ => match l with
    | .lst true xs => (Rs.of ρ (mutL .setI xs [x, d])).bind fun r _ => .ok .nx (putS ρ i (.lst true r.2))
    | _ => .no
  | .dput i k e, ρ => (evalE G e ρ).bind fun d ρ => (Rs.of ρ (getS ρ i)).bind fun _ _ => (evalE G k ρ).bind fun x ρ => (Rs.of ρ (keyOf x)).bind fun k _ => (Rs.of ρ (getS ρ i)).bind fun l _ => match l with
    | .dct true ks xs => if ks.length < 16777216 ∧ d.isF = true then .ok .nx (putS ρ i (.dct true (putKV k d ks xs).1 (putKV k d ks xs).2)) else .no
    | _ => .no
  | .aug i p e, ρ => (Rs.of ρ (getS ρ i)).bind fun x _ => if x.flat = true then (evalE G e ρ).bind fun y ρ => (Rs.of ρ (prim p [x, y])).bind fun z _ => if z.isF = true then .ok .nx (putS ρ i z) else .no else .no
  | .augi i k p e, ρ => (Rs.of ρ (getS ρ i)).bind fun _ _ => (evalE G k ρ).bind fun n ρ => (Rs.of ρ (getS ρ i)).bind fun l _ => (Rs.of ρ (prim .idx [l, n])).bind fun x _ => if (isLst (some l) && x.flat) = true then
    (evalE G e ρ).bind fun y ρ => (Rs.of ρ (prim p [x, y])).bind fun z _ => (Rs.of ρ (getS ρ i)).bind fun l _ => match l with
    | .lst true xs => (Rs.of ρ (mutL .setI xs [n, z])).bind fun r _ => .ok .nx (putS ρ i (.lst true r.2))
    | _ => .no
    else .no
  | .exp e, ρ => (evalE G e ρ).bind fun _ ρ => .ok .nx ρ
  | .ret e, ρ => (evalE G e ρ).bind fun d ρ => .ok (.rt d) ρ
  | .retN, ρ => .ok (.rt .non) ρ
  | .ifs c a b, ρ => (evalE G c ρ).bind fun x ρ => match x with
    | .bl t => if t = true then execB G a ρ else execB G b ρ
    | _ => .no
  | .for t it b, ρ => (evalI G it ρ).bind fun ds ρ => forL (bindT t) (fun ρ => execB G b ρ) ds ρ
  | .forK i t b, ρ => (Rs.of ρ (getS ρ i)).bind fun d _ => (Rs.of ρ (lstOf d)).bind fun ds _ => (forL (bindT t) (fun ρ => execB G b ρ) ds (goneS ρ i)).bind fun f ρ' => .ok f (putS ρ' i d)
  | .whl c b, ρ => whlL (fun ρ => evalE G c ρ) (fun ρ => execB G b ρ) whlMost ρ
  | .brk, ρ => .ok .bk ρ
  | .cnt, ρ => .ok .ct ρ
  | .pas, ρ => .ok .nx ρ
  | .nvr, _ => .no
def execB (G : Calls) : Sms → Rho → Rs Rho Fl
  | .nil, ρ => .ok .nx ρ
  | .cons s ss, ρ => (execS G s ρ).bind fun f ρ => match f with
    | .nx => execB G ss ρ
    | f => .ok f ρ
end

/-- a def: the number of its parameters, of its slots, the parameters that are stored to, its body -/
structure Df where
  par : Nat
  slots : Nat
  lost : List Nat
  body : Sms

/-- what the parameters hold at the end -/
def outS (d : Df) (ρ : Rho) : List (Option D) := (List.range d.par).map fun i => if i ∈ d.lost then none else getS ρ i
def callD (G : Calls) (d : Df) (ds : List D) : Rs (List (Option D)) D :=
  if ds.length = d.par then
    match execB G d.body (ds.map some ++ List.replicate (d.slots - d.par) none) with
    | .ok (.rt x) ρ => .ok x (outS d ρ)
    | .ok .nx ρ => .ok .non (outS d ρ)
    | .exn k x ρ => .exn k x (outS d ρ)
    | _ => .no
  else .no
/-- a program's defs, called by number, n levels deep -/
def run (P : List Df) : Nat → Calls
  | 0, _, _ => .no
  | n + 1, f, ds => match P[f]? with
    | some d => callD (run P n) d ds
    | none => .no
end VL

/-! VL2: slots and cells, the readings, operands. -/
namespace VL
open PySem PySem.Spec PyProof.Rows L2

def cellsOf : L2.St → Rho → List Cell
  | some v :: σ, some d :: ρ => (v, d) :: cellsOf σ ρ
  | some _ :: σ, none :: ρ => cellsOf σ ρ
  | none :: σ, _ :: ρ => cellsOf σ ρ
  | _, _ => []
def Fits (σ : L2.St) (ρ : Rho) : Prop := σ.length = ρ.length ∧ ∀ (i : Nat) (d : D), getS ρ i = some d → ∃ v, σ[i]? = some (some v)

theorem getS_nil (i : Nat) : getS [] i = none := by simp [getS]
theorem getS_zero (d : Option D) (ρ : Rho) : getS (d :: ρ) 0 = d := by simp [getS]
theorem getS_succ (d : Option D) (ρ : Rho) (i : Nat) : getS (d :: ρ) (i + 1) = getS ρ i := by simp [getS]
theorem Fits.tail {v : Option V} {d : Option D} {σ : L2.St} {ρ : Rho} (f : Fits (v :: σ) (d :: ρ)) : Fits σ ρ :=
  ⟨by simpa using f.1, fun i e h => by
    obtain ⟨w, q⟩ := f.2 (i + 1) e (by rw [getS_succ]; exact h)
    exact ⟨w, by simpa using q⟩⟩
theorem getS_set_self {ρ : Rho} {i : Nat} {x : Option D} (h : i < ρ.length) : getS (ρ.set i x) i = x := by
  unfold getS; rw [List.getElem?_set_self h]; rfl
theorem getS_set_ne {ρ : Rho} {i j : Nat} {x : Option D} (h : i ≠ j) : getS (ρ.set i x) j = getS ρ j := by
  unfold getS; rw [List.getElem?_set_ne h]
theorem getS_lt {ρ : Rho} {i : Nat} {d : D} (h : getS ρ i = some d) : i < ρ.length := by
  unfold getS at h
  cases e : ρ[i]? with
  | none => rw [e] at h; cases h
  | some x => exact (List.getElem?_eq_some_iff.mp e).1
/-- a slot's cell taken out -/
theorem cells_take : ∀ {ρ : Rho} {σ : L2.St} {i : Nat} {d : D} {v : V}, getS ρ i = some d → σ[i]? = some (some v) → (cellsOf σ ρ).Perm ((v, d) :: cellsOf σ (goneS ρ i))
  | [], _, i, d, v, h, _ => by rw [getS_nil] at h; cases h
  | _ :: _, [], i, d, v, _, e => by simp at e
  | x :: ρ, y :: σ, 0, d, v, h, e => by
    rw [getS_zero] at h; subst h
    have e : y = some v := by simpa using e
    subst e
    simp [goneS, cellsOf]
  | x :: ρ, y :: σ, i + 1, d, v, h, e => by
    rw [getS_succ] at h
    have e : σ[i]? = some (some v) := by simpa using e
    have ih := cells_take h e
    show (cellsOf (y :: σ) (x :: ρ)).Perm ((v, d) :: cellsOf (y :: σ) (x :: goneS ρ i))
    cases y with
    | none => simpa [cellsOf] using ih
    | some w =>
      cases x with
      | none => simpa [cellsOf] using ih
      | some u =>
        simp only [cellsOf]
        exact (ih.cons _).trans (List.Perm.swap _ _ _)
/-- a slot's cell put in: the value that stands there -/
theorem cells_put : ∀ {ρ : Rho} {σ : L2.St} {i : Nat} {d : D} {v : V}, i < ρ.length → σ[i]? = some (some v) → (cellsOf σ (putS ρ i d)).Perm ((v, d) :: cellsOf σ (goneS ρ i)) := fun {ρ σ i d v} h e => by
  have q := cells_take (ρ := putS ρ i d) (σ := σ) (i := i) (d := d) (v := v) (by unfold putS; rw [getS_set_self h]) e
  have e2 : goneS (putS ρ i d) i = goneS ρ i := by simp [goneS, putS, List.set_set]
  rw [e2] at q
  exact q
theorem cells_gone_set : ∀ {ρ : Rho} {σ : L2.St} {i : Nat} {x : Option V}, cellsOf (σ.set i x) (goneS ρ i) = cellsOf σ (goneS ρ i)
  | [], σ, i, x => by cases σ <;> cases i <;> (try rename_i a b; cases a) <;> simp [goneS, cellsOf]
  | d :: ρ, [], i, x => by simp
  | d :: ρ, y :: σ, 0, x => by cases x <;> cases y <;> simp [goneS, cellsOf]
  | d :: ρ, y :: σ, i + 1, x => by
    have ih := cells_gone_set (ρ := ρ) (σ := σ) (i := i) (x := x)
    show cellsOf (y :: σ.set i x) (d :: goneS ρ i) = cellsOf (y :: σ) (d :: goneS ρ i)
    cases y <;> cases d <;> simp [cellsOf, ih]
/-- .. a new value -/
theorem cells_store {ρ : Rho} {σ : L2.St} {i : Nat} {d : D} {v : V} (h : i < ρ.length) (e : σ.length = ρ.length) : (cellsOf (σ.set i (some v)) (putS ρ i d)).Perm ((v, d) :: cellsOf σ (goneS ρ i)) := by
  have q := cells_put (ρ := ρ) (σ := σ.set i (some v)) (d := d) h (List.getElem?_set_self (by omega))
  rw [cells_gone_set] at q
  exact q
/-- what stands in a slot is no longer there -/
theorem cells_gone {ρ : Rho} {σ : L2.St} {i : Nat} (f : Fits σ ρ) : ∃ l, (cellsOf σ ρ).Perm (l ++ cellsOf σ (goneS ρ i)) := by
  cases e : getS ρ i with
  | none =>
    refine ⟨[], ?_⟩
    have : goneS ρ i = ρ := by
      unfold goneS
      unfold getS at e
      refine List.ext_getElem? fun j => ?_
      by_cases h : i = j
      · subst h
        by_cases hl : i < ρ.length
        · rw [List.getElem?_set_self hl]
          cases q : ρ[i]? with
          | none => exact absurd (List.getElem?_eq_none_iff.mp q) (by omega)
          | some x =>
            rw [q] at e
            exact congrArg some e.symm
        · rw [List.getElem?_eq_none (by simpa using hl), List.getElem?_eq_none (by omega)]
      · rw [List.getElem?_set_ne h]
    rw [this]
    exact .refl _
  | some d =>
    obtain ⟨v, q⟩ := f.2 i d e
    exact ⟨[(v, d)], cells_take e q⟩
theorem Fits.gone {σ : L2.St} {ρ : Rho} {i : Nat} (f : Fits σ ρ) : Fits σ (goneS ρ i) :=
  ⟨by simpa [goneS] using f.1, fun j d h => by
    by_cases e : i = j
    · subst e
      by_cases hl : i < ρ.length
      · unfold goneS at h; rw [getS_set_self hl] at h; cases h
      · unfold goneS at h
        have := getS_lt h
        simp at this; omega
    · unfold goneS at h; rw [getS_set_ne e] at h; exact f.2 j d h⟩
theorem Fits.put {σ : L2.St} {ρ : Rho} {i : Nat} {d : D} {v : V} (f : Fits σ ρ) (e : σ[i]? = some (some v)) : Fits σ (putS ρ i d) :=
  ⟨by simpa [putS] using f.1, fun j x h => by
    by_cases q : i = j
    · subst q; exact ⟨v, e⟩
    · unfold putS at h; rw [getS_set_ne q] at h; exact f.2 j x h⟩
theorem Fits.store {σ : L2.St} {ρ : Rho} {i : Nat} {d : D} {v : V} (f : Fits σ ρ) (h : i < ρ.length) : Fits (σ.set i (some v)) (putS ρ i d) :=
  ⟨by simpa [putS] using f.1, fun j x e => by
    by_cases q : i = j
    · subst q; exact ⟨v, List.getElem?_set_self (by have := f.1; omega)⟩
    · unfold putS at e
      rw [getS_set_ne q] at e
      obtain ⟨w, z⟩ := f.2 j x e
      exact ⟨w, by rw [List.getElem?_set_ne q]; exact z⟩⟩

/-! ### what a cell says -/
variable {K : PySem.W.Frag} {H H' : Hp} {h : List Addr} {c c' cs : List Cell}
theorem front {α : Type} {l : List α} {x : α} (h : x ∈ l) : ∃ l', l.Perm (x :: l') := by
  obtain ⟨s, t, rfl⟩ := List.append_of_mem h
  exact ⟨s ++ t, List.perm_middle⟩
theorem RepC.of_mem {T : List Addr} {x : Cell} : ∀ {c : List Cell} {os : List Addr}, RepC K H T c os → x ∈ c → ∃ o, Rep K H T x.1 x.2 o ∧ ∀ a ∈ o, a ∈ os
  | [], _, _, h => by simp at h
  | _ :: l, _, .cons (ps := ps) r t, h => by
    rcases List.mem_cons.mp h with e | h
    · subst e; exact ⟨_, r, fun a ha => List.mem_append_left _ ha⟩
    · obtain ⟨o, q, k⟩ := RepC.of_mem (c := l) (os := ps) t h
      exact ⟨o, q, fun a ha => List.mem_append_right _ (k a ha)⟩
/-- v stands for d here (what is owned in it is owned within these cells) -/
def Has (K : PySem.W.Frag) (H : Hp) (h : List Addr) (c : List Cell) (v : V) (d : D) : Prop := ∀ os, RepC K H (h ++ os) c os → (h ++ os).Nodup → ∃ o, Rep K H (h ++ os) v d o ∧ ∀ a ∈ o, a ∈ os
theorem Has.mem {v : V} {d : D} (m : (v, d) ∈ c) : Has K H h c v d := fun os r _ => RepC.of_mem (x := (v, d)) (os := os) r m
theorem Has.head {v : V} {d : D} : Has K H h ((v, d) :: c) v d := .mem (List.mem_cons_self ..)
theorem Has.int {i : Int} : Has K H h c (.int i) (.int i) := fun _ _ _ => ⟨[], .int, fun _ z => absurd z (by simp)⟩
theorem Has.bl {i : Bool} : Has K H h c (.bl i) (.bl i) := fun _ _ _ => ⟨[], .bl, fun _ z => absurd z (by simp)⟩
theorem Has.str {i : List Nat} (g : strGood i) : Has K H h c (.str ⟨i.toArray⟩) (.str i) := fun _ _ _ => ⟨[], .str g, fun _ z => absurd z (by simp)⟩
theorem Sat.addH {v : V} {d : D} (s : Sat K H h c) (k : Has K H h c v d) (f : d.isF = true) : Sat K H h ((v, d) :: c) := by
  obtain ⟨os, r, n, q⟩ := s
  obtain ⟨o, z, _⟩ := k os r n
  have e := z.isF_nil f
  subst e
  exact ⟨os, .cons (os := []) z r, n, q⟩
theorem Sat.rep {v : V} {d : D} (s : Sat K H h c) (k : Has K H h c v d) : ∃ T o, Rep K H T v d o := by
  obtain ⟨os, r, n, _⟩ := s
  obtain ⟨o, z, _⟩ := k os r n
  exact ⟨_, o, z⟩
theorem Sat.int_of {v : V} {i : Int} (s : Sat K H h c) (k : Has K H h c v (.int i)) : v = .int i := by
  obtain ⟨_, _, r⟩ := s.rep k
  cases r; rfl
theorem Sat.bl_of {v : V} {i : Bool} (s : Sat K H h c) (k : Has K H h c v (.bl i)) : v = .bl i := by
  obtain ⟨_, _, r⟩ := s.rep k
  cases r; rfl
theorem Sat.non_of {v : V} (s : Sat K H h c) (k : Has K H h c v .non) : v = .non := by
  obtain ⟨_, _, r⟩ := s.rep k
  cases r; rfl
theorem Sat.str_of {v : V} {x : List Nat} (s : Sat K H h c) (k : Has K H h c v (.str x)) : v = .str ⟨x.toArray⟩ ∧ strGood x := by
  obtain ⟨_, _, r⟩ := s.rep k
  cases r with
  | str g => exact ⟨rfl, g⟩
theorem RepL.get : ∀ {T vs ds os} {i : Nat} {d : D}, RepL K H T vs ds os → ds[i]? = some d → ∃ v o, vs[i]? = some v ∧ Rep K H T v d o ∧ ∀ a ∈ o, a ∈ os
  | _, _, _, _, i, d, .nil, e => by simp at e
  | _, _, _, _, 0, d, .cons (d := d') r t, e => by
    have e : d' = d := by simpa using e
    subst e
    exact ⟨_, _, rfl, r, fun a ha => List.mem_append_left _ ha⟩
  | _, _, _, _, i + 1, d, .cons r t, e => by
    obtain ⟨v, o, q, z, k⟩ := RepL.get (i := i) (d := d) t (by simpa using e)
    exact ⟨v, o, by simpa using q, z, fun a ha => List.mem_append_right _ (k a ha)⟩
/-- a list's items -/
theorem Sat.lst_of {v : V} {o : Bool} {ds : List D} (s : Sat K H h c) (k : Has K H h c v (.lst o ds)) : ∃ a vs, v = .ref a ∧ H a = some (.lst vs) ∧ vs.length = ds.length ∧ ∀ (i : Nat) (d : D), ds[i]? = some d → ∃ w, vs[i]? = some w ∧ Has K H h c w d := by
  obtain ⟨T, os, r⟩ := s.rep k
  have main : ∀ {a vs}, v = .ref a → H a = some (.lst vs) → vs.length = ds.length → ∃ a vs, v = .ref a ∧ H a = some (.lst vs) ∧ vs.length = ds.length ∧ ∀ (i : Nat) (d : D), ds[i]? = some d → ∃ w, vs[i]? = some w ∧ Has K H h c w d := by
    intro a vs e hv hl
    subst e
    refine ⟨a, vs, rfl, hv, hl, fun i d hd => ?_⟩
    have hi : i < vs.length := by rw [hl]; exact (List.getElem?_eq_some_iff.mp hd).1
    refine ⟨vs[i], List.getElem?_eq_getElem hi, fun os r n => ?_⟩
    obtain ⟨o2, q, z⟩ := k os r n
    cases q with
    | own hS rr =>
      rw [hv] at hS; cases hS
      obtain ⟨w, o3, e1, q1, q2⟩ := rr.get hd
      rw [List.getElem?_eq_getElem hi] at e1; cases e1
      exact ⟨o3, q1, fun a ha => z a (List.mem_cons_of_mem _ (q2 a ha))⟩
    | frz hS _ rr =>
      rw [hv] at hS; cases hS
      obtain ⟨w, o3, e1, q1, q2⟩ := rr.get hd
      rw [List.getElem?_eq_getElem hi] at e1; cases e1
      exact ⟨o3, q1, fun a ha => absurd (q2 a ha) (by simp)⟩
  cases r with
  | own hS rr => exact main rfl hS rr.len
  | frz hS _ rr => exact main rfl hS rr.len
/-- two readings of one tuple: the values are alike -/
theorem sqT_inj {X : Cx} {pins : List (Addr × Obj)} {σ : L2.St} {s : Shared} (I : Inv X pins σ H s) {a : Addr} {xs ys : List V} (p : SqT X.K H a xs) (q : SqT X.K H a ys) : xs = ys := I.tuple_inj p q
theorem Sat.tup_of {v : V} {ds : List D} (s : Sat K H h c) (k : Has K H h c v (.tup ds)) : ∃ a vs, v = .ref a ∧ SqT K H a vs ∧ vs.length = ds.length ∧ (D.isFL ds = true → ∀ (i : Nat) (d : D), ds[i]? = some d → ∃ w, vs[i]? = some w ∧ Sat K H h ((w, d) :: c)) := by
  obtain ⟨os, r, n, q⟩ := s
  obtain ⟨o, z, _⟩ := k os r n
  cases z with
  | tup hS rr =>
    rename_i a vs
    refine ⟨a, vs, rfl, hS, rr.len, fun f i d hd => ?_⟩
    obtain ⟨w, o3, e1, q1, q2⟩ := rr.get hd
    have e := rr.isF_nil f
    subst e
    have : o3 = [] := by
      cases o3 with
      | nil => rfl
      | cons x _ => exact absurd (q2 x (by simp)) (by simp)
    subst this
    exact ⟨w, e1, os, .cons (os := []) q1 r, n, q⟩
/-- a frozen tuple's items laid beside -/
theorem Sat.addT {v : V} {ds : List D} (s : Sat K H h c) (k : Has K H h c v (.tup ds)) (f : D.isFL ds = true) : ∃ a vs, v = .ref a ∧ SqT K H a vs ∧ vs.length = ds.length ∧ Sat K H h (vs.zip ds ++ c) := by
  obtain ⟨os, r, n, q⟩ := s
  obtain ⟨o, z, _⟩ := k os r n
  cases z with
  | tup hS rr =>
    have e := rr.isF_nil f
    subst e
    exact ⟨_, _, rfl, hS, rr.len, os, rr.zip r, n, q⟩
theorem isFL_get {ds : List D} (f : D.isFL ds = true) {i : Nat} {d : D} (h : ds[i]? = some d) : d.isF = true := by
  rw [isFL_all, List.all_eq_true] at f
  exact f d (List.mem_of_getElem? h)
/-- all items of a list, frozen, laid beside -/
theorem Sat.addL {ds : List D} {ws : List V} : ∀ (s : Sat K H h c), ws.length = ds.length → D.isFL ds = true → (∀ (i : Nat) (d : D), ds[i]? = some d → ∃ w, ws[i]? = some w ∧ Has K H h c w d) → Sat K H h (ws.zip ds ++ c) := by
  intro s e f k
  obtain ⟨os, r, n, q⟩ := s
  have all : RepL K H (h ++ os) ws ds [] := by
    have go : ∀ (ds : List D) (ws : List V), ws.length = ds.length → D.isFL ds = true → (∀ (i : Nat) (d : D), ds[i]? = some d → ∃ w, ws[i]? = some w ∧ Has K H h c w d) → RepL K H (h ++ os) ws ds [] := by
      intro ds
      induction ds with
      | nil =>
        intro ws e _ _
        cases ws with
        | nil => exact .nil
        | cons _ _ => simp at e
      | cons d ds ih =>
        intro ws e f k
        cases ws with
        | nil => simp at e
        | cons w ws =>
          simp only [D.isFL, Bool.and_eq_true] at f
          obtain ⟨w', e1, k1⟩ := k 0 d rfl
          have e1 : w = w' := by simpa using e1
          subst e1
          obtain ⟨o, z, _⟩ := k1 os r n
          have e2 := z.isF_nil f.1
          subst e2
          exact .cons (os := []) (ps := []) z (ih ws (by simpa using e) f.2 fun i d hd => by
            obtain ⟨w2, e3, k3⟩ := k (i + 1) d (by simpa using hd)
            exact ⟨w2, by simpa using e3, k3⟩)
    exact go ds ws e f k
  exact ⟨os, all.zip r, n, q⟩

/-! ### the readings -/
/-- what is wanted of an exception: it goes through whatever else is held -/
structure Ctx where
  W : Nat → D → L2.St → Rho → List Cell → Prop
  hW : ∀ k d σ ρ t c, W k d σ ρ c → W k d σ ρ (t ++ c)

def rPost {α : Type} (C : Ctx) (σ : L2.St) (c : List Cell) (P : α → Rho → Prop) : Rs Rho α → Prop
  | .ok a ρ => P a ρ
  | .exn k d ρ => C.W k d σ ρ c
  | .no => False
theorem rPost.bind {α β : Type} {C : Ctx} {σ : L2.St} {c : List Cell} {P : β → Rho → Prop} {r : Rs Rho α} {f : α → Rho → Rs Rho β} (h : rPost C σ c P (r.bind f)) : rPost C σ c (fun a ρ => rPost C σ c P (f a ρ)) r := by
  cases r with
  | ok a ρ => exact h
  | exn k d ρ => exact h
  | no => exact h
theorem rPost.mono {α : Type} {C : Ctx} {σ : L2.St} {c : List Cell} {P P' : α → Rho → Prop} {r : Rs Rho α} (h : rPost C σ c P r) (k : ∀ a ρ, P a ρ → P' a ρ) : rPost C σ c P' r := by
  cases r with
  | ok a ρ => exact k a ρ h
  | exn k d ρ => exact h
  | no => exact h
theorem rPost.more {α : Type} {C : Ctx} {σ : L2.St} {c : List Cell} {P : α → Rho → Prop} {r : Rs Rho α} (t : List Cell) (h : rPost C σ c P r) : rPost C σ (t ++ c) P r := by
  cases r with
  | ok a ρ => exact h
  | exn k d ρ => exact C.hW _ _ _ _ _ _ h
  | no => exact h
theorem rPost.of {α : Type} {C : Ctx} {σ : L2.St} {c : List Cell} {ρ : Rho} {P : α → Rho → Prop} {o : Option α} (h : rPost C σ c P (Rs.of ρ o)) : ∃ a, o = some a ∧ P a ρ := by
  cases o with
  | none => exact h.elim
  | some a => exact ⟨a, rfl, h⟩

/-- an expression's reading -/
def ePost (K : PySem.W.Frag) (C : Ctx) (σ : L2.St) (c : List Cell) (Q : VK) (d : D) (ρ : Rho) : Prop := ∀ v H, Fits σ ρ → Sat K H [] ((v, d) :: cellsOf σ ρ ++ c) → Q v H
def tE (K : PySem.W.Frag) (C : Ctx) (G : Calls) (e : Ex) : TE := fun σ H Q => ∃ ρ c, Fits σ ρ ∧ Sat K H [] (cellsOf σ ρ ++ c) ∧ rPost C σ c (ePost K C σ c Q) (evalE G e ρ)
/-- a test's reading -/
def bPost (K : PySem.W.Frag) (C : Ctx) (σ : L2.St) (c : List Cell) (Q : Bool → Hp → Prop) (d : D) (ρ : Rho) : Prop := ∃ b, d = .bl b ∧ ∀ H, Fits σ ρ → Sat K H [] (cellsOf σ ρ ++ c) → Q b H
def tT (K : PySem.W.Frag) (C : Ctx) (G : Calls) (e : Ex) : TT := fun σ H Q => ∃ ρ c, Fits σ ρ ∧ Sat K H [] (cellsOf σ ρ ++ c) ∧ rPost C σ c (bPost K C σ c Q) (evalE G e ρ)
/-- an operand's -/
def tO (K : PySem.W.Frag) (C : Ctx) (G : Calls) : Ex → TE
  | .pk i => tVar i
  | e => tE K C G e
def taO (K : PySem.W.Frag) (C : Ctx) (G : Calls) : Exs → TA
  | .nil => tNil
  | .cons e es => tCons (tO K C G e) (taO K C G es)
/-- the values that came of operands, the cells of those that were made -/
def ArgV (σ : L2.St) : Exs → List (Option D) → List V → List Cell → Prop
  | .nil, [], vs, ts => vs = [] ∧ ts = []
  | .cons (.pk i) es, _ :: ds, vs, ts => ∃ v ws, vs = v :: ws ∧ σ[i]? = some (some v) ∧ ArgV σ es ds ws ts
  | .cons _ es, some d :: ds, vs, ts => ∃ v ws us, vs = v :: ws ∧ ts = us ++ [(v, d)] ∧ ArgV σ es ds ws us
  | _, _, _, _ => False
theorem tO_of {C : Ctx} {G : Calls} {e : Ex} (he : ∀ i, e ≠ .pk i) : tO K C G e = tE K C G e := by
  cases e <;> first | rfl | exact absurd rfl (he _)
theorem evalO_of {G : Calls} {e : Ex} {es : Exs} {ρ : Rho} (he : ∀ i, e ≠ .pk i) : evalO G (.cons e es) ρ = (evalE G e ρ).bind fun d ρ => (evalO G es ρ).bind fun ds ρ => .ok (some d :: ds) ρ := by
  cases e <;> first | rfl | exact absurd rfl (he _)
theorem ArgV_of {σ : L2.St} {e : Ex} {es : Exs} {d : D} {ds : List (Option D)} {vs : List V} {ts : List Cell} (he : ∀ i, e ≠ .pk i) : ArgV σ (.cons e es) (some d :: ds) vs ts ↔ ∃ v ws us, vs = v :: ws ∧ ts = us ++ [(v, d)] ∧ ArgV σ es ds ws us := by
  cases e <;> first | exact Iff.rfl | exact absurd rfl (he _)
theorem pk_or (e : Ex) : (∃ i, e = .pk i) ∨ ∀ i, e ≠ .pk i := by
  cases e <;> first | exact .inl ⟨_, rfl⟩ | exact .inr fun _ z => nomatch z

/-- operands: from their evaluation to their reading -/
theorem taO_run {C : Ctx} {G : Calls} : ∀ (es : Exs) (σ : L2.St) (H : Hp) (ρ : Rho) (c : List Cell) (Q : List V → Hp → Prop), Fits σ ρ → Sat K H [] (cellsOf σ ρ ++ c) →
    rPost C σ c (fun ods ρ' => ∀ vs H' ts, ArgV σ es ods vs ts → Fits σ ρ' → Sat K H' [] (ts ++ (cellsOf σ ρ' ++ c)) → Q vs H') (evalO G es ρ) → taO K C G es σ H Q
  | .nil, σ, H, ρ, c, Q, f, s, h => by
    have h : ∀ vs H' ts, ArgV σ .nil [] vs ts → Fits σ ρ → Sat K H' [] (ts ++ (cellsOf σ ρ ++ c)) → Q vs H' := h
    exact h [] H [] ⟨rfl, rfl⟩ f s
  | .cons e es, σ, H, ρ, c, Q, f, s, h => by
    rcases pk_or e with ⟨i, rfl⟩ | he
    · have h := rPost.bind (show rPost C σ c _ ((Rs.of ρ (getS ρ i)).bind fun _ _ => (evalO G es ρ).bind fun ds ρ => .ok (none :: ds) ρ) from h)
      obtain ⟨d, e1, h⟩ := rPost.of h
      obtain ⟨v, e2⟩ := f.2 i d e1
      refine ⟨v, e2, taO_run es σ H ρ c _ f s (h.bind.mono fun ods ρ' k vs H' ts a f' s' => ?_)⟩
      exact k (v :: vs) H' ts ⟨v, vs, rfl, e2, a⟩ f' s'
    · rw [evalO_of he] at h
      show tO K C G e σ H fun x H1 => taO K C G es σ H1 fun xs H2 => Q (x :: xs) H2
      rw [tO_of he]
      refine ⟨ρ, c, f, s, h.bind.mono fun d ρ1 k v H1 f1 s1 => ?_⟩
      have s1' : Sat K H1 [] (cellsOf σ ρ1 ++ ((v, d) :: c)) := s1.perm (by simpa using (List.perm_middle (l₁ := cellsOf σ ρ1) (l₂ := c) (a := (v, d))).symm)
      refine taO_run es σ H1 ρ1 ((v, d) :: c) _ f1 s1' ?_
      refine (rPost.more [(v, d)] k.bind).mono fun ods ρ' k vs H' ts a f' s' => ?_
      have k : ∀ vs H' ts, ArgV σ (.cons e es) (some d :: ods) vs ts → Fits σ ρ' → Sat K H' [] (ts ++ (cellsOf σ ρ' ++ c)) → Q vs H' := k
      refine k (v :: vs) H' (ts ++ [(v, d)]) ((ArgV_of he).mpr ⟨v, vs, ts, rfl, rfl, a⟩) f' (s'.perm ?_)
      rw [List.append_assoc]
      refine List.Perm.append_left ts ?_
      exact List.perm_middle (l₁ := cellsOf σ ρ')
/-- operands that were fetched stand in cells -/
theorem fetch_mem {σ : L2.St} : ∀ {es : Exs} {ods : List (Option D)} {ρ : Rho} {ds : List D} {vs : List V} {ts : List Cell}, fetchL es ods ρ = some ds → ArgV σ es ods vs ts → vs.length = ds.length ∧ ∀ q ∈ vs.zip ds, q ∈ ts ++ cellsOf σ ρ
  | .nil, [], ρ, ds, vs, ts, h, a => by
    have h : ds = [] := (Option.some.inj h).symm
    obtain ⟨rfl, rfl⟩ := a
    subst h
    simp
  | .nil, _ :: _, ρ, ds, vs, ts, h, a => by simp [fetchL] at h
  | .cons e es, [], ρ, ds, vs, ts, h, a => by cases e <;> simp [fetchL] at h
  | .cons e es, od :: ods, ρ, ds, vs, ts, h, a => by
    rcases pk_or e with ⟨i, rfl⟩ | he
    · simp only [fetchL] at h
      cases e1 : getS ρ i with
      | none => rw [e1] at h; cases h
      | some d =>
        rw [e1] at h
        cases e2 : fetchL es ods ρ with
        | none => rw [e2] at h; cases h
        | some ds' =>
          rw [e2] at h
          have h : d :: ds' = ds := Option.some.inj h
          subst h
          obtain ⟨v, ws, rfl, hv, a⟩ := a
          obtain ⟨hl, hm⟩ := fetch_mem e2 a
          refine ⟨by simp [hl], fun q hq => ?_⟩
          rcases List.mem_cons.mp hq with z | z
          · subst z
            exact List.mem_append_right _ ((cells_take e1 hv).mem_iff.mpr (by simp))
          · exact hm q z
    · cases od with
      | none => cases e <;> first | (simp [fetchL] at h; done) | exact absurd rfl (he _)
      | some d =>
        have h : (fetchL es ods ρ).map (d :: ·) = some ds := by
          cases e <;> first | exact h | exact absurd rfl (he _)
        cases e2 : fetchL es ods ρ with
        | none => rw [e2] at h; cases h
        | some ds' =>
          rw [e2] at h
          have h : d :: ds' = ds := Option.some.inj h
          subst h
          obtain ⟨v, ws, us, rfl, rfl, a'⟩ := (ArgV_of he).mp a
          obtain ⟨hl, hm⟩ := fetch_mem e2 a'
          refine ⟨by simp [hl], fun q hq => ?_⟩
          rcases List.mem_cons.mp hq with z | z
          · subst z; simp
          · have := hm q z
            simp only [List.mem_append] at this ⊢
            rcases this with z | z
            · exact .inl (.inl z)
            · exact .inr z
/-- a primitive's reading by its values -/
def PR (K : PySem.W.Frag) (p : Prim) (vs : List V) (H : Hp) (Q : VK) : Prop :=
  ∃ ds cs d, prim p ds = some d ∧ vs.length = ds.length ∧ (∀ q ∈ vs.zip ds, q ∈ cs) ∧ Sat K H [] cs ∧ ∀ v H', Sat K H' [] ((v, d) :: cs) → Q v H'
theorem tE_prm {C : Ctx} {G : Calls} {p : Prim} {as : Exs} {σ : L2.St} {H : Hp} {Q : VK} (h : tE K C G (.prm p as) σ H Q) : taO K C G as σ H fun vs H' => PR K p vs H' Q := by
  obtain ⟨ρ, c, f, s, h⟩ := h
  refine taO_run as σ H ρ c _ f s (rPost.mono (rPost.bind h) fun ods ρ' k vs H' ts a f' s' => ?_)
  obtain ⟨ds, e1, k⟩ := rPost.of (rPost.bind k)
  obtain ⟨d, e2, k⟩ := rPost.of k
  obtain ⟨hl, hm⟩ := fetch_mem e1 a
  refine ⟨ds, ts ++ (cellsOf σ ρ' ++ c), d, e2, hl, fun q hq => ?_, s', fun v H2 s2 => k v H2 f' ?_⟩
  · have := hm q hq
    simp only [List.mem_append] at this ⊢
    rcases this with z | z
    · exact .inl z
    · exact .inr (.inl z)
  · have s3 : Sat K H2 [] (ts ++ ((v, d) :: cellsOf σ ρ' ++ c)) := s2.perm (by
      show ((v, d) :: (ts ++ (cellsOf σ ρ' ++ c))).Perm (ts ++ ((v, d) :: (cellsOf σ ρ' ++ c)))
      exact List.perm_middle.symm)
    exact s3.drop
end VL

/-! VL3: names, constants, operators. -/
namespace VL
open PySem PySem.Spec PyProof.Rows L2

section
variable {X : Cx} {C : Ctx} {G : Calls} {e : Expr} {t t' : TE}
theorem PE.imp (h : PE X e t') (k : ∀ σ H Q, t σ H Q → t' σ H Q) : PE X e t := ⟨fun pins s σ H Q I q => h.run pins s σ H Q I (k σ H Q q)⟩
theorem PT.imp {t t' : TT} (h : PT X e t') (k : ∀ σ H Q, t σ H Q → t' σ H Q) : PT X e t := ⟨fun pins s σ H Q I q => h.run pins s σ H Q I (k σ H Q q)⟩
theorem PA.imp {es : List Expr} {t t' : TA} (h : PA X es t') (k : ∀ σ H Q, t σ H Q → t' σ H Q) : PA X es t := ⟨fun pos pins s σ H Q I q => h.run pos pins s σ H Q I (k σ H Q q)⟩

/-! ### names and constants -/
theorem tE_var {K : PySem.W.Frag} {i : Nat} {σ : L2.St} {H : Hp} {Q : VK} (h : tE K C G (.var i) σ H Q) : tVar i σ H Q := by
  obtain ⟨ρ, c, f, s, h⟩ := h
  obtain ⟨d, e1, h⟩ := rPost.of (rPost.bind h)
  obtain ⟨v, e2⟩ := f.2 i d e1
  have hi := getS_lt e1
  refine ⟨v, e2, ?_⟩
  have p := cells_take e1 e2
  by_cases hf : d.isF = true
  · rw [if_pos hf] at h
    refine h v H f ?_
    have s1 : Sat K H [] ((v, d) :: (cellsOf σ (goneS ρ i) ++ c)) := s.perm (p.append_right c)
    have s2 := s1.dup hf
    exact s2.perm ((((p.append_right c).symm.cons (v, d)).trans (.refl _)))
  · rw [if_neg hf] at h
    refine h v H (f.put e2) ?_
    have s1 : Sat K H [] ((v, d) :: (cellsOf σ (goneS ρ i) ++ c)) := s.perm (p.append_right c)
    have hF : d.frz.isF = true := frz_isF d
    have s2 := s1.freeze.dup hF
    exact s2.perm ((((cells_put (ρ := ρ) (σ := σ) (i := i) (d := d.frz) (v := v) hi e2).append_right c).symm.cons (v, d.frz)))
theorem tE_mov {K : PySem.W.Frag} {i : Nat} {σ : L2.St} {H : Hp} {Q : VK} (h : tE K C G (.mov i) σ H Q) : tVar i σ H Q := by
  obtain ⟨ρ, c, f, s, h⟩ := h
  obtain ⟨d, e1, h⟩ := rPost.of (rPost.bind h)
  obtain ⟨v, e2⟩ := f.2 i d e1
  refine ⟨v, e2, h v H f.gone ?_⟩
  exact s.perm ((cells_take e1 e2).append_right c)
theorem tE_pk {K : PySem.W.Frag} {i : Nat} {σ : L2.St} {H : Hp} {Q : VK} (h : tE K C G (.pk i) σ H Q) : tVar i σ H Q := by
  obtain ⟨ρ, c, f, s, h⟩ := h
  obtain ⟨d, e1, h⟩ := rPost.of (rPost.bind h)
  obtain ⟨v, e2⟩ := f.2 i d e1
  refine ⟨v, e2, ?_⟩
  have p := cells_take e1 e2
  by_cases hf : d.isF = true
  · rw [if_pos hf] at h
    refine h v H f ?_
    have s1 : Sat K H [] ((v, d) :: (cellsOf σ (goneS ρ i) ++ c)) := s.perm (p.append_right c)
    exact (s1.dup hf).perm ((p.append_right c).symm.cons (v, d))
  · rw [if_neg hf] at h; exact h.elim
end

/-! ### primitives by values -/
section
variable {K : PySem.W.Frag} {H : Hp} {Q : VK} {x y z : V} {p : Prim} {cs : List Cell}
theorem PR.two (h : PR K p [x, y] H Q) : ∃ a b cs d, prim p [a, b] = some d ∧ Has K H [] cs x a ∧ Has K H [] cs y b ∧ Sat K H [] cs ∧ ∀ v H', Sat K H' [] ((v, d) :: cs) → Q v H' := by
  obtain ⟨ds, cs, d, e, hl, hm, s, q⟩ := h
  match ds, hl with
  | [a, b], _ => exact ⟨a, b, cs, d, e, .mem (hm _ (by simp)), .mem (hm _ (by simp)), s, q⟩
theorem PR.one (h : PR K p [x] H Q) : ∃ a cs d, prim p [a] = some d ∧ Has K H [] cs x a ∧ Sat K H [] cs ∧ ∀ v H', Sat K H' [] ((v, d) :: cs) → Q v H' := by
  obtain ⟨ds, cs, d, e, hl, hm, s, q⟩ := h
  match ds, hl with
  | [a], _ => exact ⟨a, cs, d, e, .mem (hm _ (by simp)), s, q⟩
theorem PR.three (h : PR K p [x, y, z] H Q) : ∃ a b b' cs d, prim p [a, b, b'] = some d ∧ Has K H [] cs x a ∧ Has K H [] cs y b ∧ Has K H [] cs z b' ∧ Sat K H [] cs ∧ ∀ v H', Sat K H' [] ((v, d) :: cs) → Q v H' := by
  obtain ⟨ds, cs, d, e, hl, hm, s, q⟩ := h
  match ds, hl with
  | [a, b, b'], _ => exact ⟨a, b, b', cs, d, e, .mem (hm _ (by simp)), .mem (hm _ (by simp)), .mem (hm _ (by simp)), s, q⟩

theorem strGood.app {a b : List Nat} (g : strGood a) (k : strGood b) (h : a.length + b.length ≤ 16777216) : strGood (a ++ b) :=
  ⟨by rw [List.length_append]; exact h, fun c hc => (List.mem_append.mp hc).elim (g.2 c) (k.2 c)⟩
theorem strGood.sub {a b : List Nat} (g : strGood a) (h : ∀ c ∈ b, c ∈ a) (l : b.length ≤ a.length) : strGood b := ⟨Nat.le_trans l g.1, fun c hc => g.2 c (h c hc)⟩
theorem str_app (a b : List Nat) : ((⟨a.toArray⟩ : Str) ++ ⟨b.toArray⟩) = ⟨(a ++ b).toArray⟩ := by
  show (⟨a.toArray ++ b.toArray⟩ : Str) = _
  simp
theorem str_len (a : List Nat) : (⟨a.toArray⟩ : Str).length = a.length := by simp [Str.length]
theorem sl_eq : (sizeLine : Nat) = 16777216 := sizeLine_eq
/-- two lists joined into a new one -/
theorem new_list {ws : List V} {ds : List D} (s : Sat K H [] cs) (e : ws.length = ds.length) (f : D.isFL ds = true) (k : ∀ (i : Nat) (d : D), ds[i]? = some d → ∃ w, ws[i]? = some w ∧ Has K H [] cs w d)
    (q : ∀ v H', Sat K H' [] ((v, .lst true ds) :: cs) → Q v H') : ∀ p, H p = none → Q (.ref p) (upd H p (.lst ws)) := fun p hp => q _ _ ((s.addL e f k).newL e hp)

theorem pr_add (h : PR K .add [x, y] H Q) : (rI0 fun i j => .int (i + j)) x y H Q ∨ (∃ i j, x = .str i ∧ y = .str j ∧ i.length + j.length ≤ sizeLine ∧ Q (.str (i ++ j)) H) ∨ rCat x y H Q := by
  obtain ⟨a, b, cs, d, e, ha, hb, s, q⟩ := h.two
  cases a with
  | int i =>
    cases b <;> simp [prim] at e
    rename_i j
    subst e
    exact .inl ⟨i, j, s.int_of ha, s.int_of hb, q _ _ s.int⟩
  | str i =>
    cases b <;> simp [prim] at e
    rename_i j
    obtain ⟨hl, e⟩ := e
    subst e
    obtain ⟨rfl, gi⟩ := s.str_of ha
    obtain ⟨rfl, gj⟩ := s.str_of hb
    refine .inr (.inl ⟨_, _, rfl, rfl, by rw [str_len, str_len, sl_eq]; exact hl, ?_⟩)
    rw [str_app]
    exact q _ _ (s.str (gi.app gj hl))
  | lst o xs =>
    cases b <;> simp [prim] at e
    rename_i o' ys
    obtain ⟨⟨f1, f2⟩, hl, e⟩ := e
    subst e
    obtain ⟨p1, v1, rfl, h1, l1, k1⟩ := s.lst_of ha
    obtain ⟨p2, v2, rfl, h2, l2, k2⟩ := s.lst_of hb
    refine .inr (.inr ⟨p1, p2, v1, v2, rfl, rfl, h1, h2, by rw [l1, l2, sl_eq]; exact hl, new_list s (by simp [l1, l2]) (by rw [isFL_all] at *; simp [f1, f2]) (fun i d hd => ?_) q⟩)
    by_cases hi : i < xs.length
    · rw [List.getElem?_append_left hi] at hd
      obtain ⟨w, e1, e2⟩ := k1 i d hd
      exact ⟨w, by rw [List.getElem?_append_left (by omega)]; exact e1, e2⟩
    · rw [List.getElem?_append_right (by omega)] at hd
      obtain ⟨w, e1, e2⟩ := k2 _ d hd
      exact ⟨w, by rw [List.getElem?_append_right (by omega), l1]; exact e1, e2⟩
  | _ => cases b <;> simp [prim] at e
theorem pr_sub (h : PR K .sub [x, y] H Q) : (rI0 fun i j => .int (i - j)) x y H Q := by
  obtain ⟨a, b, cs, d, e, ha, hb, s, q⟩ := h.two
  cases a <;> cases b <;> simp [prim] at e
  subst e
  exact ⟨_, _, s.int_of ha, s.int_of hb, q _ _ s.int⟩
theorem pr_fdiv (h : PR K .fdiv [x, y] H Q) : (rI CDiv fun i j => .int (i / j)) x y H Q := by
  obtain ⟨a, b, cs, d, e, ha, hb, s, q⟩ := h.two
  cases a <;> cases b <;> simp [prim] at e
  obtain ⟨e1, e⟩ := e
  subst e
  exact ⟨_, _, s.int_of ha, s.int_of hb, e1, q _ _ s.int⟩
theorem pr_mod (h : PR K .mod [x, y] H Q) : (rI (fun _ j => 0 < j) fun i j => .int (i % j)) x y H Q := by
  obtain ⟨a, b, cs, d, e, ha, hb, s, q⟩ := h.two
  cases a <;> cases b <;> simp [prim] at e
  obtain ⟨e1, e⟩ := e
  subst e
  exact ⟨_, _, s.int_of ha, s.int_of hb, e1, q _ _ s.int⟩
theorem small2_iff {i : Int} : small2 i = true ↔ -(2 ^ 64) < i ∧ i < 2 ^ 64 := by simp [small2]
theorem small64_iff {i : Int} : small64 i = true ↔ -(2 ^ 62) ≤ i ∧ i < 2 ^ 62 := by simp [small64]
theorem pr_pow (h : PR K .pow [x, y] H Q) : (rI CPow fun i j => .int (i ^ j.toNat)) x y H Q := by
  obtain ⟨a, b, cs, d, e, ha, hb, s, q⟩ := h.two
  cases a <;> cases b <;> simp [prim] at e
  obtain ⟨⟨⟨e1, e2⟩, e3⟩, e⟩ := e
  subst e
  have e3 := small2_iff.mp e3
  exact ⟨_, _, s.int_of ha, s.int_of hb, ⟨e1, by omega, by omega⟩, q _ _ s.int⟩
theorem pr_neg (h : PR K .neg [x] H Q) : (rU fun i => .int (-i)) x H Q := by
  obtain ⟨a, cs, d, e, ha, s, q⟩ := h.one
  cases a <;> simp [prim] at e
  subst e
  exact ⟨_, s.int_of ha, q _ _ s.int⟩
theorem pr_lt (h : PR K .lt [x, y] H Q) : (rI0 fun i j => .bl (decide (i < j))) x y H Q ∨ (∃ i j, x = .str i ∧ y = .str j ∧ Q (.bl (decide (i.cps.toList < j.cps.toList))) H) := by
  obtain ⟨a, b, cs, d, e, ha, hb, s, q⟩ := h.two
  cases a <;> cases b <;> simp [prim] at e
  · subst e
    exact .inl ⟨_, _, s.int_of ha, s.int_of hb, q _ _ s.bl⟩
  · subst e
    obtain ⟨rfl, gi⟩ := s.str_of ha
    obtain ⟨rfl, gj⟩ := s.str_of hb
    exact .inr ⟨_, _, rfl, rfl, by simpa [strLt] using q _ _ s.bl⟩
theorem op_isB {X : Cx} : OpR X (compareOp .Is) (fun x y H Q => ∃ c d, x = .bl c ∧ y = .bl d ∧ Q (.bl (c == d)) H) := by
  intro pins s σ H x y v u Q I rx ry h
  obtain ⟨c, d, rfl, rfl, q⟩ := h
  cases rx
  cases ry
  exact is_bool (fin_bl I q rfl)
theorem op_niB {X : Cx} : OpR X (compareOp .IsNot) (fun x y H Q => ∃ c d, x = .bl c ∧ y = .bl d ∧ Q (.bl (c != d)) H) := by
  intro pins s σ H x y v u Q I rx ry h
  obtain ⟨c, d, rfl, rfl, q⟩ := h
  cases rx
  cases ry
  exact isnot_bool (fin_bl I q rfl)
theorem pr_isB (h : PR K .isB [x, y] H Q) : ∃ c d, x = .bl c ∧ y = .bl d ∧ Q (.bl (c == d)) H := by
  obtain ⟨a, b, cs, d, e, ha, hb, s, q⟩ := h.two
  cases a <;> cases b <;> simp [prim, prim2] at e
  subst e
  exact ⟨_, _, s.bl_of ha, s.bl_of hb, q _ _ s.bl⟩
theorem pr_niB (h : PR K .niB [x, y] H Q) : ∃ c d, x = .bl c ∧ y = .bl d ∧ Q (.bl (c != d)) H := by
  obtain ⟨a, b, cs, d, e, ha, hb, s, q⟩ := h.two
  cases a <;> cases b <;> simp [prim, prim2] at e
  subst e
  exact ⟨_, _, s.bl_of ha, s.bl_of hb, q _ _ s.bl⟩
theorem pr_le (h : PR K .le [x, y] H Q) : (rI0 fun i j => .bl (decide (i ≤ j))) x y H Q := by
  obtain ⟨a, b, cs, d, e, ha, hb, s, q⟩ := h.two
  cases a <;> cases b <;> simp [prim] at e
  subst e
  exact ⟨_, _, s.int_of ha, s.int_of hb, q _ _ s.bl⟩
theorem pr_gt (h : PR K .gt [x, y] H Q) : (rI0 fun i j => .bl (decide (j < i))) x y H Q := by
  obtain ⟨a, b, cs, d, e, ha, hb, s, q⟩ := h.two
  cases a <;> cases b <;> simp [prim] at e
  subst e
  exact ⟨_, _, s.int_of ha, s.int_of hb, q _ _ s.bl⟩
theorem pr_ge (h : PR K .ge [x, y] H Q) : (rI0 fun i j => .bl (decide (j ≤ i))) x y H Q := by
  obtain ⟨a, b, cs, d, e, ha, hb, s, q⟩ := h.two
  cases a <;> cases b <;> simp [prim] at e
  subst e
  exact ⟨_, _, s.int_of ha, s.int_of hb, q _ _ s.bl⟩

/-! ### == of data -/
mutual
def toPy : D → PyData
  | .non => .none
  | .bl b => .bool b
  | .int i => .int i
  | .str x => .str ⟨x.toArray⟩
  | .lst _ xs => .list (toPyL xs)
  | .tup xs => .tuple (toPyL xs)
  | .dct _ _ _ => .none
  | .scr _ => .none
def toPyL : List D → List PyData
  | [] => []
  | x :: xs => toPy x :: toPyL xs
end
mutual
theorem dp_of : ∀ {n T v d os}, Rep K H T v d os → shal n d = true → Dp K H v (toPy d)
  | _, _, _, _, _, .non, _ => .non
  | _, _, _, _, _, .bl, _ => .bl _
  | _, _, _, _, _, .int, _ => .int _
  | _, _, _, _, _, .str _, _ => .str _
  | n, _, _, _, _, .tup h r, f => by
    cases n with
    | zero => simp [shal] at f
    | succ n => exact .tup h (dpL_of r (by simpa [shal] using f))
  | n, _, _, _, _, .own h r, f => by
    cases n with
    | zero => simp [shal] at f
    | succ n => exact .lst (.inl (.inl h)) (dpL_of r (by simpa [shal] using f))
  | n, _, _, _, _, .frz h _ r, f => by
    cases n with
    | zero => simp [shal] at f
    | succ n => exact .lst (.inl (.inl h)) (dpL_of r (by simpa [shal] using f))
  | _, _, _, _, _, .scr _, f => by simp [shal] at f
  | _, _, _, _, _, .dwn _ _ _, f => by simp [shal] at f
  | _, _, _, _, _, .dfz _ _ _ _, f => by simp [shal] at f
theorem dpL_of : ∀ {n T vs ds os}, RepL K H T vs ds os → shalL n ds = true → DpAll K H vs (toPyL ds)
  | _, _, _, _, _, .nil, _ => .nil
  | _, _, _, _, _, .cons r t, f => by
    simp only [shalL, Bool.and_eq_true] at f
    exact .cons (dp_of r f.1) (dpL_of t f.2)
end
mutual
theorem lay_of : ∀ {n T v d os}, Rep K H T v d os → shal n d = true → (toPy d).canLay0 = true ∧ (toPy d).depth ≤ n
  | _, _, _, _, _, .non, _ => by simp [toPy, PyData.canLay0, PyData.depth]
  | _, _, _, _, _, .bl, _ => by simp [toPy, PyData.canLay0, PyData.depth]
  | _, _, _, _, _, .int, _ => by simp [toPy, PyData.canLay0, PyData.depth]
  | _, _, _, _, _, .str g, _ => by
    simp only [toPy, PyData.canLay0, PyData.depth]
    refine ⟨?_, Nat.zero_le _⟩
    show PyData.strOk _ = true
    unfold PyData.strOk
    simp only [Array.all_eq_true]
    intro i hi
    simp only [List.size_toArray] at hi
    simpa using g.2 _ (List.getElem_mem hi)
  | n, _, _, _, _, .tup h r, f => by
    cases n with
    | zero => simp [shal] at f
    | succ n =>
      obtain ⟨h1, h2⟩ := layL_of r (show shalL n _ = true by simpa [shal] using f)
      simp only [toPy, PyData.canLay0, PyData.depth]
      exact ⟨h1, by omega⟩
  | n, _, _, _, _, .own h r, f => by
    cases n with
    | zero => simp [shal] at f
    | succ n =>
      obtain ⟨h1, h2⟩ := layL_of r (show shalL n _ = true by simpa [shal] using f)
      simp only [toPy, PyData.canLay0, PyData.depth]
      exact ⟨h1, by omega⟩
  | n, _, _, _, _, .frz h _ r, f => by
    cases n with
    | zero => simp [shal] at f
    | succ n =>
      obtain ⟨h1, h2⟩ := layL_of r (show shalL n _ = true by simpa [shal] using f)
      simp only [toPy, PyData.canLay0, PyData.depth]
      exact ⟨h1, by omega⟩
  | _, _, _, _, _, .scr _, f => by simp [shal] at f
  | _, _, _, _, _, .dwn _ _ _, f => by simp [shal] at f
  | _, _, _, _, _, .dfz _ _ _ _, f => by simp [shal] at f
theorem layL_of : ∀ {n T vs ds os}, RepL K H T vs ds os → shalL n ds = true → PyData.canLayAll0 (toPyL ds) = true ∧ PyData.depthAll (toPyL ds) ≤ n
  | _, _, _, _, _, .nil, _ => by simp [toPyL, PyData.canLayAll0, PyData.depthAll]
  | n, _, _, _, _, .cons r t, f => by
    simp only [shalL, Bool.and_eq_true] at f
    obtain ⟨h1, h2⟩ := lay_of r f.1
    obtain ⟨h3, h4⟩ := layL_of t f.2
    simp only [toPyL, PyData.canLayAll0, PyData.depthAll, h1, h3, Bool.and_self, true_and]
    omega
end
theorem Sat.shaped {v : V} {d : D} {n : Nat} (s : Sat K H [] cs) (k : Has K H [] cs v d) (f : shal n d = true) (hn : n ≤ 64) : Dp K H v (toPy d) ∧ SeqAt.shaped (toPy d) = true := by
  obtain ⟨T, o, r⟩ := s.rep k
  obtain ⟨h1, h2⟩ := lay_of r f
  refine ⟨dp_of r f, ?_⟩
  unfold SeqAt.shaped
  rw [h1, decide_eq_true (show (toPy d).depth ≤ 64 by omega)]
  rfl
theorem str_inj {x y : List Nat} : ((⟨x.toArray⟩ : Str) == ⟨y.toArray⟩) = decide (x = y) := by
  by_cases e : x = y
  · subst e; simp
  · rw [decide_eq_false e]
    rw [beq_eq_false_iff_ne]
    intro h
    exact e (by simpa using congrArg (fun s : Str => s.cps.toList) h)
mutual
theorem eqv_toPy : ∀ (n : Nat) (a b : D), shal n a = true → shal n b = true → PyData.eqv (toPy a) (toPy b) = deqv a b := fun n a b ha hb => by
  cases a with
  | lst o xs =>
    cases n with
    | zero => simp [shal] at ha
    | succ n =>
      cases b with
      | lst o' ys =>
        simp only [toPy, PyData.eqv, deqv]
        exact eqvL_toPy n xs ys (by simpa [shal] using ha) (by simpa [shal] using hb)
      | dct _ _ _ => simp [shal] at hb
      | scr _ => simp [shal] at hb
      | _ => simp [toPy, PyData.eqv, deqv]
  | tup xs =>
    cases n with
    | zero => simp [shal] at ha
    | succ n =>
      cases b with
      | tup ys =>
        simp only [toPy, PyData.eqv, deqv]
        exact eqvL_toPy n xs ys (by simpa [shal] using ha) (by simpa [shal] using hb)
      | dct _ _ _ => simp [shal] at hb
      | scr _ => simp [shal] at hb
      | _ => simp [toPy, PyData.eqv, deqv]
  | dct _ _ _ => simp [shal] at ha
  | scr _ => simp [shal] at ha
  | str x =>
    cases b with
    | str y =>
      simp only [toPy, PyData.eqv, deqv]
      exact str_inj
    | dct _ _ _ => simp [shal] at hb
    | scr _ => simp [shal] at hb
    | _ => simp [toPy, PyData.eqv, deqv]
  | int i =>
    cases b with
    | int j => simp only [toPy, PyData.eqv, deqv]; exact Bool.beq_eq_decide_eq _ _
    | dct _ _ _ => simp [shal] at hb
    | scr _ => simp [shal] at hb
    | _ => simp [toPy, PyData.eqv, deqv]
  | _ =>
    cases b with
    | dct _ _ _ => simp [shal] at hb
    | scr _ => simp [shal] at hb
    | _ => simp [toPy, PyData.eqv, deqv]
theorem eqvL_toPy : ∀ (n : Nat) (a b : List D), shalL n a = true → shalL n b = true → PyData.eqvAll (toPyL a) (toPyL b) = deqvL a b
  | n, [], [], _, _ => by simp [toPyL, PyData.eqvAll, deqvL]
  | n, [], _ :: _, _, _ => by simp [toPyL, PyData.eqvAll, deqvL]
  | n, _ :: _, [], _, _ => by simp [toPyL, PyData.eqvAll, deqvL]
  | n, x :: xs, y :: ys, ha, hb => by
    simp only [shalL, Bool.and_eq_true] at ha hb
    simp only [toPyL, PyData.eqvAll, deqvL]
    rw [eqv_toPy n x y ha.1 hb.1, eqvL_toPy n xs ys ha.2 hb.2]
end
theorem pr_eq (h : PR K .eq [x, y] H Q) : rEqD K x y H Q := by
  obtain ⟨a, b, cs, d, e, ha, hb, s, q⟩ := h.two
  simp [prim] at e
  obtain ⟨⟨f1, f2⟩, e⟩ := e
  subst e
  obtain ⟨p1, p2⟩ := s.shaped ha f1 (by decide)
  obtain ⟨q1, q2⟩ := s.shaped hb f2 (by decide)
  refine ⟨_, _, p1, q1, p2, q2, ?_⟩
  rw [eqv_toPy 8 a b f1 f2]
  exact q _ _ s.bl
theorem pr_ne (h : PR K .ne [x, y] H Q) : rNeD K x y H Q := by
  obtain ⟨a, b, cs, d, e, ha, hb, s, q⟩ := h.two
  simp [prim] at e
  obtain ⟨⟨f1, f2⟩, e⟩ := e
  subst e
  obtain ⟨p1, p2⟩ := s.shaped ha f1 (by decide)
  obtain ⟨q1, q2⟩ := s.shaped hb f2 (by decide)
  refine ⟨_, _, p1, q1, p2, q2, ?_⟩
  rw [eqv_toPy 8 a b f1 f2]
  exact q _ _ s.bl
end
end VL

/-! VL4: expressions, rule by rule. -/
namespace VL
open PySem PySem.Spec PyProof.Rows L2

section
variable {K : PySem.W.Frag} {C : Ctx} {G : Calls} {σ : L2.St} {H : Hp}
theorem tE_mono {e : Ex} {Q Q' : VK} (h : tE K C G e σ H Q) (k : ∀ v H, Q v H → Q' v H) : tE K C G e σ H Q' := by
  obtain ⟨ρ, c, f, s, h⟩ := h
  exact ⟨ρ, c, f, s, h.mono fun a ρ q v H' f' s' => k v H' (q v H' f' s')⟩
theorem tO_mono {e : Ex} {Q Q' : VK} (h : tO K C G e σ H Q) (k : ∀ v H, Q v H → Q' v H) : tO K C G e σ H Q' := by
  rcases pk_or e with ⟨i, rfl⟩ | he
  · obtain ⟨v, e, q⟩ := h
    exact ⟨v, e, k _ _ q⟩
  · rw [tO_of he] at h ⊢
    exact tE_mono h k
theorem taO_mono : ∀ {es : Exs} {σ : L2.St} {H : Hp} {Q Q' : List V → Hp → Prop}, taO K C G es σ H Q → (∀ v H, Q v H → Q' v H) → taO K C G es σ H Q'
  | .nil, _, _, _, _, h, k => k _ _ h
  | .cons e es, _, _, _, _, h, k => tO_mono (e := e) h fun v H1 q => taO_mono (es := es) q fun vs H2 => k _ _
theorem tO1 {p : Prim} {a : Ex} {Q : VK} (h : tE K C G (.prm p (.cons a .nil)) σ H Q) : tO K C G a σ H fun x H1 => PR K p [x] H1 Q := tE_prm h
theorem tO2 {p : Prim} {a b : Ex} {Q : VK} (h : tE K C G (.prm p (.cons a (.cons b .nil))) σ H Q) : tO K C G a σ H fun x H1 => tO K C G b σ H1 fun y H2 => PR K p [x, y] H2 Q := tE_prm h
theorem tO3 {p : Prim} {a b c : Ex} {Q : VK} (h : tE K C G (.prm p (.cons a (.cons b (.cons c .nil)))) σ H Q) :
    tO K C G a σ H fun x H1 => tO K C G b σ H1 fun y H2 => tO K C G c σ H2 fun z H3 => PR K p [x, y, z] H3 Q := tE_prm h
theorem tOp_of {p : Prim} {a b : Ex} {r : R2} (hr : ∀ {x y H Q}, PR K p [x, y] H Q → r x y H Q) {Q : VK} (h : tE K C G (.prm p (.cons a (.cons b .nil))) σ H Q) : tOp r (tO K C G a) (tO K C G b) σ H Q :=
  tO_mono (tO2 h) fun _ _ q => tO_mono q fun _ _ q => hr q
theorem tUn_of {p : Prim} {a : Ex} {r : V → Hp → VK → Prop} (hr : ∀ {x H Q}, PR K p [x] H Q → r x H Q) {Q : VK} (h : tE K C G (.prm p (.cons a .nil)) σ H Q) : tUn r (tO K C G a) σ H Q :=
  tO_mono (tO1 h) fun _ _ q => hr q
/-- a test's reading from an expression's -/
theorem tT_tE {e : Ex} {Q : Bool → Hp → Prop} (h : tT K C G e σ H Q) : tE K C G e σ H fun x H' => ∃ k, x = .bl k ∧ Q k H' := by
  obtain ⟨ρ, c, f, s, h⟩ := h
  refine ⟨ρ, c, f, s, h.mono fun d ρ' ⟨b, e, q⟩ v H' f' s' => ?_⟩
  subst e
  exact ⟨b, s'.bl_of (.mem (by simp)), q H' f' s'.tail⟩
end

section
variable {X : Cx} {C : Ctx} {G : Calls} {a b c : Expr} {xa xb xc : Ex} {p : Prim} {pos : Pos}
/-! ### leaves -/
theorem se_var {i : Nat} {x : Str} (hN : X.N[i]? = some x) (hv : Vis X.env.scope x) (hd : (x == ("__debug__" : Str)) = false) (hcd : (x == ("__classdict__" : Str)) = false) : PE X (.Name x pos) (tE X.K C G (.var i)) :=
  PE.imp (pe_var hN hv hd hcd) fun _ _ _ => tE_var
theorem se_mov {i : Nat} {x : Str} (hN : X.N[i]? = some x) (hv : Vis X.env.scope x) (hd : (x == ("__debug__" : Str)) = false) (hcd : (x == ("__classdict__" : Str)) = false) : PE X (.Name x pos) (tE X.K C G (.mov i)) :=
  PE.imp (pe_var hN hv hd hcd) fun _ _ _ => tE_mov
theorem se_pk {i : Nat} {x : Str} (hN : X.N[i]? = some x) (hv : Vis X.env.scope x) (hd : (x == ("__debug__" : Str)) = false) (hcd : (x == ("__classdict__" : Str)) = false) : PE X (.Name x pos) (tE X.K C G (.pk i)) :=
  PE.imp (pe_var hN hv hd hcd) fun _ _ _ => tE_pk
theorem so_pk {i : Nat} {x : Str} (hN : X.N[i]? = some x) (hv : Vis X.env.scope x) (hd : (x == ("__debug__" : Str)) = false) (hcd : (x == ("__classdict__" : Str)) = false) : PE X (.Name x pos) (tO X.K C G (.pk i)) :=
  pe_var hN hv hd hcd
theorem so_of (h : PE X a (tE X.K C G xa)) (he : ∀ i, xa ≠ .pk i) : PE X a (tO X.K C G xa) := by rw [tO_of he]; exact h
theorem tE_cst {K : PySem.W.Frag} {σ : L2.St} {H : Hp} {Q : VK} {v : V} {d : D} (hv : ∀ {c : List Cell}, Sat K H [] c → Sat K H [] ((v, d) :: c)) (h : tE K C G (.cst d) σ H Q) : tC v σ H Q := by
  obtain ⟨ρ, c, f, s, h⟩ := h
  exact h v H f (hv s)
theorem se_int {i : Int} {j : Nat} : PE X (.Constant (.int i) j pos) (tE X.K C G (.cst (.int i))) := PE.imp pe_int fun _ _ _ h => tE_cst (fun s => s.int) h
theorem se_bl {i : Bool} {j : Nat} : PE X (.Constant (.bool i) j pos) (tE X.K C G (.cst (.bl i))) := PE.imp pe_bl fun _ _ _ h => tE_cst (fun s => s.bl) h
theorem se_non {j : Nat} : PE X (.Constant .none j pos) (tE X.K C G (.cst .non)) := PE.imp pe_non fun _ _ _ h => tE_cst (fun s => s.non) h
theorem se_str {x : Str} {l : List Nat} {j : Nat} (e : x = ⟨l.toArray⟩) (g : strGood l) : PE X (.Constant (.str x) j pos) (tE X.K C G (.cst (.str l))) := by
  subst e
  exact PE.imp pe_str fun _ _ _ h => tE_cst (fun s => s.str g) h
/-- a constant of the module -/
theorem tE_glb {K : PySem.W.Frag} {σ : L2.St} {H : Hp} {Q : VK} {v : V} {d : D} {x : Str} (hv : ∀ {c : List Cell}, Sat K H [] c → Sat K H [] ((v, d) :: c)) (h : tE K C G (.glb x d) σ H Q) : tC v σ H Q := by
  obtain ⟨ρ, c, f, s, h⟩ := h
  exact h v H f (hv s)
theorem se_glbI {x : Str} {i : Int} {t : Tok} (hg : Gl X x) (hm : X.mg x = some (.int i t)) (hd : (x == ("__debug__" : Str)) = false) : PE X (.Name x pos) (tE X.K C G (.glb x (.int i))) :=
  PE.imp (pe_glob (v := .int i) hg hm ⟨t, rfl⟩ hd) fun _ _ _ h => tE_glb (fun s => s.int) h
theorem se_glbS {x : Str} {l : List Nat} {t : Tok} (hg : Gl X x) (hm : X.mg x = some (.str ⟨l.toArray⟩ t)) (g : strGood l) (hd : (x == ("__debug__" : Str)) = false) : PE X (.Name x pos) (tE X.K C G (.glb x (.str l))) :=
  PE.imp (pe_glob (v := .str ⟨l.toArray⟩) hg hm ⟨t, rfl⟩ hd) fun _ _ _ h => tE_glb (fun s => s.str g) h
theorem se_frz (h : PE X a (tE X.K C G xa)) : PE X a (tE X.K C G (.frz xa)) := PE.imp h fun σ H Q ⟨ρ, c, f, s, k⟩ =>
  ⟨ρ, c, f, s, (rPost.bind k).mono fun d ρ' q v H' f' s' => (show ePost X.K C σ c Q d.frz ρ' from q) v H' f' s'.freeze⟩

/-! ### operators -/
theorem se_bin {op : Operator} {r : R2} (ho : OpR X (binaryOp op) r) (hr : ∀ {x y H Q}, PR X.K p [x, y] H Q → r x y H Q) (ha : PE X a (tO X.K C G xa)) (hb : PE X b (tO X.K C G xb)) : PE X (.BinOp a op b pos) (tE X.K C G (.prm p (.cons xa (.cons xb .nil)))) :=
  PE.imp (pe_op ho ha hb) fun _ _ _ => tOp_of hr
theorem se_add (ha : PE X a (tO X.K C G xa)) (hb : PE X b (tO X.K C G xb)) : PE X (.BinOp a .Add b pos) (tE X.K C G (.prm .add (.cons xa (.cons xb .nil)))) :=
  se_bin (op_add.or (op_add_str.or op_cat)) (fun h => pr_add h) ha hb
theorem se_sub (ha : PE X a (tO X.K C G xa)) (hb : PE X b (tO X.K C G xb)) : PE X (.BinOp a .Sub b pos) (tE X.K C G (.prm .sub (.cons xa (.cons xb .nil)))) := se_bin op_sub (fun h => pr_sub h) ha hb
theorem se_fdiv (ha : PE X a (tO X.K C G xa)) (hb : PE X b (tO X.K C G xb)) : PE X (.BinOp a .FloorDiv b pos) (tE X.K C G (.prm .fdiv (.cons xa (.cons xb .nil)))) := se_bin op_fdiv (fun h => pr_fdiv h) ha hb
theorem se_mod (ha : PE X a (tO X.K C G xa)) (hb : PE X b (tO X.K C G xb)) : PE X (.BinOp a .Mod b pos) (tE X.K C G (.prm .mod (.cons xa (.cons xb .nil)))) := se_bin op_mod (fun h => pr_mod h) ha hb
theorem se_pow (ha : PE X a (tO X.K C G xa)) (hb : PE X b (tO X.K C G xb)) : PE X (.BinOp a .Pow b pos) (tE X.K C G (.prm .pow (.cons xa (.cons xb .nil)))) := se_bin op_pow (fun h => pr_pow h) ha hb
theorem se_neg (ha : PE X a (tO X.K C G xa)) : PE X (.UnaryOp .USub a pos) (tE X.K C G (.prm .neg (.cons xa .nil))) :=
  PE.imp (pe_un un_neg ha) fun _ _ _ => tUn_of (fun h => pr_neg h)

/-! ### comparisons, as values and as tests -/
theorem se_cmp {op : CmpOp} {r : R2} (ho : OpR X (compareOp op) r) (hr : ∀ {x y H Q}, PR X.K p [x, y] H Q → r x y H Q) (ha : PE X a (tO X.K C G xa)) (hb : PE X b (tO X.K C G xb)) (hm : behindInMarks op b = false) :
    PE X (.Compare a [op] [b] pos) (tE X.K C G (.prm p (.cons xa (.cons xb .nil)))) :=
  PE.imp (pe_cmpR ho ha hb hm) fun _ _ _ => tOp_of hr
theorem st_cmp {op : CmpOp} {r : R2} (ho : OpR X (compareOp op) r) (hr : ∀ {x y H Q}, PR X.K p [x, y] H Q → r x y H Q) (ha : PE X a (tO X.K C G xa)) (hb : PE X b (tO X.K C G xb)) (hm : behindInMarks op b = false) :
    PT X (.Compare a [op] [b] pos) (tT X.K C G (.prm p (.cons xa (.cons xb .nil)))) :=
  PT.imp (pt_cmpR ho ha hb hm) fun _ _ _ h => tOp_of hr (tT_tE h)
theorem units_of {k : Nat} (hr : Room k X.A) : X.A.units + 64 < cLine := hr.units
theorem units1_of {k : Nat} (hr : Room k X.A) : X.A.units + 65 < cLine := by have := hr.un; omega
/-- the rule of a comparison that is served -/
structure CmpOk (X : Cx) (op : CmpOp) (p : Prim) : Prop where
  ex : ∃ r : R2, OpR X (compareOp op) r ∧ ∀ {x y H Q}, PR X.K p [x, y] H Q → r x y H Q
theorem cmp_eq {k : Nat} (hr : Room k X.A) : CmpOk X .Eq .eq := ⟨_, op_eqD (units_of hr), fun h => pr_eq h⟩
theorem cmp_ne {k : Nat} (hr : Room k X.A) : CmpOk X .NotEq .ne := ⟨_, op_neD (units_of hr), fun h => pr_ne h⟩
theorem cmp_lt : CmpOk X .Lt .lt := ⟨_, op_lt.or op_lt_str, fun h => pr_lt h⟩
theorem cmp_le : CmpOk X .LtE .le := ⟨_, op_le, fun h => pr_le h⟩
theorem cmp_gt : CmpOk X .Gt .gt := ⟨_, op_gt, fun h => pr_gt h⟩
theorem cmp_ge : CmpOk X .GtE .ge := ⟨_, op_ge, fun h => pr_ge h⟩
theorem cmp_isB : CmpOk X .Is .isB := ⟨_, op_isB, fun h => pr_isB h⟩
theorem cmp_niB : CmpOk X .IsNot .niB := ⟨_, op_niB, fun h => pr_niB h⟩
theorem se_cmpK {op : CmpOp} (k : CmpOk X op p) (ha : PE X a (tO X.K C G xa)) (hb : PE X b (tO X.K C G xb)) (hm : behindInMarks op b = false) : PE X (.Compare a [op] [b] pos) (tE X.K C G (.prm p (.cons xa (.cons xb .nil)))) := by
  obtain ⟨r, ho, hr⟩ := k.ex
  exact se_cmp ho hr ha hb hm
theorem st_cmpK {op : CmpOp} (k : CmpOk X op p) (ha : PE X a (tO X.K C G xa)) (hb : PE X b (tO X.K C G xb)) (hm : behindInMarks op b = false) : PT X (.Compare a [op] [b] pos) (tT X.K C G (.prm p (.cons xa (.cons xb .nil)))) := by
  obtain ⟨r, ho, hr⟩ := k.ex
  exact st_cmp ho hr ha hb hm
/-- is None -/
theorem pr_isN {K : PySem.W.Frag} {x : V} {H : Hp} {Q : VK} (h : PR K .isN [x] H Q) : Q (.bl (decide (x = .non))) H := by
  obtain ⟨a, cs, d, e, ha, s, q⟩ := h.one
  obtain ⟨T, o, r⟩ := s.rep ha
  cases r <;> (simp [prim] at e; subst e; simpa using q _ _ s.bl)
theorem pr_notN {K : PySem.W.Frag} {x : V} {H : Hp} {Q : VK} (h : PR K .notN [x] H Q) : Q (.bl (!decide (x = .non))) H := by
  obtain ⟨a, cs, d, e, ha, s, q⟩ := h.one
  obtain ⟨T, o, r⟩ := s.rep ha
  cases r <;> (simp [prim] at e; subst e; simpa using q _ _ s.bl)
theorem se_isN {j : Nat} {pos' : Pos} (ha : PE X a (tO X.K C G xa)) : PE X (.Compare a [.Is] [.Constant .none j pos'] pos) (tE X.K C G (.prm .isN (.cons xa .nil))) :=
  PE.imp (pe_cmp (pc_isN ha) rfl) fun _ _ _ h => tO_mono (tO1 h) fun _ _ q => pr_isN q
theorem se_notN {j : Nat} {pos' : Pos} (ha : PE X a (tO X.K C G xa)) : PE X (.Compare a [.IsNot] [.Constant .none j pos'] pos) (tE X.K C G (.prm .notN (.cons xa .nil))) :=
  PE.imp (pe_cmp (pc_notN ha) rfl) fun _ _ _ h => tO_mono (tO1 h) fun _ _ q => pr_notN q
theorem st_isN {j : Nat} {pos' : Pos} (ha : PE X a (tO X.K C G xa)) : PT X (.Compare a [.Is] [.Constant .none j pos'] pos) (tT X.K C G (.prm .isN (.cons xa .nil))) :=
  PT.imp (pt_cmp (pc_isN ha) rfl) fun _ _ _ h => tO_mono (tO1 (tT_tE h)) fun _ _ q => pr_isN q
theorem st_notN {j : Nat} {pos' : Pos} (ha : PE X a (tO X.K C G xa)) : PT X (.Compare a [.IsNot] [.Constant .none j pos'] pos) (tT X.K C G (.prm .notN (.cons xa .nil))) :=
  PT.imp (pt_cmp (pc_notN ha) rfl) fun _ _ _ h => tO_mono (tO1 (tT_tE h)) fun _ _ q => pr_notN q

/-! ### chains -/
theorem tE_chn {K : PySem.W.Frag} {p q : Prim} {r r' : R2} (hr : ∀ {x y H Q}, PR K p [x, y] H Q → r x y H Q) (hr' : ∀ {x y H Q}, PR K q [x, y] H Q → r' x y H Q) {σ : L2.St} {H : Hp} {Q : VK}
    (h : tE K C G (.chn p q xa xb xc) σ H Q) : tChain r r' (tE K C G xa) (tE K C G xb) (tE K C G xc) σ H Q := by
  obtain ⟨ρ, c, f, s, h⟩ := h
  refine ⟨ρ, c, f, s, (rPost.bind h).mono fun d1 ρ1 k1 v1 H1 f1 s1 => ?_⟩
  have s1' : Sat K H1 [] (cellsOf σ ρ1 ++ ((v1, d1) :: c)) := s1.perm List.perm_middle.symm
  refine ⟨ρ1, (v1, d1) :: c, f1, s1', (rPost.more [(v1, d1)] (rPost.bind k1)).mono fun d2 ρ2 k2 v2 H2 f2 s2 => ?_⟩
  obtain ⟨z, ez, k2⟩ := rPost.of (rPost.bind k2)
  have s2' : Sat K H2 [] ((v1, d1) :: (v2, d2) :: (cellsOf σ ρ2 ++ c)) := s2.perm ((List.perm_middle (l₁ := (v2, d2) :: cellsOf σ ρ2)))
  refine hr ⟨[d1, d2], _, z, ez, rfl, fun w hw => ?_, s2', fun v H3 s3 => ?_⟩
  · simp at hw; rcases hw with rfl | rfl <;> simp
  · match z, k2, s3 with
    | .bl true, k2, s3 =>
      have ev := s3.bl_of (.mem (List.mem_cons_self ..))
      subst ev
      refine ⟨true, rfl, ?_⟩
      rw [if_pos rfl]
      have s4 : Sat K H3 [] (cellsOf σ ρ2 ++ ((v1, d1) :: (v2, d2) :: c)) := s3.tail.perm (((List.perm_middle (l₁ := cellsOf σ ρ2)).trans ((List.perm_middle (l₁ := cellsOf σ ρ2)).cons _)).symm)
      refine ⟨ρ2, (v1, d1) :: (v2, d2) :: c, f2, s4, (rPost.more [(v1, d1), (v2, d2)] (rPost.bind k2)).mono fun d3 ρ3 k3 v3 H4 f3 s5 => ?_⟩
      obtain ⟨u, eu, k3⟩ := rPost.of k3
      refine hr' ⟨[d2, d3], _, u, eu, rfl, fun w hw => ?_, s5, fun v H5 s6 => k3 v H5 f3 ?_⟩
      · simp at hw; rcases hw with rfl | rfl <;> simp
      · refine Sat.drop (xs := [(v3, d3), (v1, d1), (v2, d2)]) (s6.perm ?_)
        have p1 : (cellsOf σ ρ3 ++ (v1, d1) :: (v2, d2) :: c).Perm ((v1, d1) :: (v2, d2) :: (cellsOf σ ρ3 ++ c)) := (List.perm_middle (l₁ := cellsOf σ ρ3)).trans ((List.perm_middle (l₁ := cellsOf σ ρ3)).cons _)
        show ((v, u) :: (v3, d3) :: (cellsOf σ ρ3 ++ (v1, d1) :: (v2, d2) :: c)).Perm ((v3, d3) :: (v1, d1) :: (v2, d2) :: (v, u) :: (cellsOf σ ρ3 ++ c))
        refine ((p1.cons _).cons _).trans ?_
        have := List.perm_middle (l₁ := [(v3, d3), (v1, d1), (v2, d2)]) (l₂ := cellsOf σ ρ3 ++ c) (a := (v, u))
        exact this.symm
    | .bl false, k2, s3 =>
      have ev := s3.bl_of (.mem (List.mem_cons_self ..))
      subst ev
      refine ⟨false, rfl, ?_⟩
      rw [if_neg Bool.false_ne_true]
      refine k2 _ H3 f2 (Sat.drop (xs := [(v1, d1), (v2, d2)]) (s3.perm ?_))
      exact (List.perm_middle (l₁ := [(v1, d1), (v2, d2)])).symm
    | .non, k2, _ => exact k2.elim
    | .int _, k2, _ => exact k2.elim
    | .str _, k2, _ => exact k2.elim
    | .tup _, k2, _ => exact k2.elim
    | .lst _ _, k2, _ => exact k2.elim
    | .dct _ _ _, k2, _ => exact k2.elim
    | .scr _, k2, _ => exact k2.elim
end
end VL

/-! VL5: tests, calls of built-ins, subscripts. -/
namespace VL
open PySem PySem.Spec PyProof.Rows L2

/-! ### tests -/
section
variable {X : Cx} {C : Ctx} {G : Calls} {a b c : Expr} {xa xb xc : Ex} {xs : Exs} {p : Prim} {pos : Pos} {rest : List Expr}
theorem st_val (h : PE X a (tE X.K C G xa)) (he : ∀ whole, isTrue a X.env whole = (do let v ← whole; standAt a.pos; holding [v] (truthy v))) : PT X a (tT X.K C G xa) :=
  PT.imp (pt_val h he) fun _ _ _ h => tT_tE h
theorem tT_not {K : PySem.W.Frag} {σ : L2.St} {H : Hp} {Q : Bool → Hp → Prop} (h : tT K C G (.not xa) σ H Q) : tNot (tT K C G xa) σ H Q := by
  obtain ⟨ρ, c, f, s, h⟩ := h
  refine ⟨ρ, c, f, s, (rPost.bind h).mono fun d ρ1 k => ?_⟩
  cases d with
  | bl b =>
    obtain ⟨b', e, q⟩ := k
    cases e
    exact ⟨b, rfl, q⟩
  | _ => exact k.elim
theorem st_not (ha : PT X a (tT X.K C G xa)) : PT X (.UnaryOp .Not a pos) (tT X.K C G (.not xa)) := PT.imp (pt_not ha) fun _ _ _ => tT_not
theorem tE_not {K : PySem.W.Frag} {σ : L2.St} {H : Hp} {Q : VK} (h : tE K C G (.not xa) σ H Q) : tNotV (tE K C G xa) σ H Q := by
  obtain ⟨ρ, c, f, s, h⟩ := h
  refine ⟨ρ, c, f, s, (rPost.bind h).mono fun d ρ1 k v H1 f1 s1 => ?_⟩
  cases d with
  | bl b =>
    have e := s1.bl_of .head
    subst e
    have k : ePost K C σ c Q (.bl (!b)) ρ1 := k
    exact ⟨b, rfl, k _ H1 f1 (Sat.bl s1.tail)⟩
  | _ => exact k.elim
theorem se_not (ha : PE X a (tE X.K C G xa)) : PE X (.UnaryOp .Not a pos) (tE X.K C G (.not xa)) := PE.imp (pe_not ha) fun _ _ _ => tE_not
theorem se_tnot (ha : PE X a (tE X.K C G xa)) : PE X (.UnaryOp .Not a pos) (tE X.K C G (.not xa)) := se_not ha

/-- and, or -/
theorem tT_and {K : PySem.W.Frag} {σ : L2.St} {H : Hp} {Q : Bool → Hp → Prop} (h : tT K C G (.and (.cons xa xs)) σ H Q) : tAnd (tT K C G xa) (tT K C G (.and xs)) σ H Q := by
  obtain ⟨ρ, c, f, s, h⟩ := h
  refine ⟨ρ, c, f, s, (rPost.bind h).mono fun d ρ1 k => ?_⟩
  cases d with
  | bl b =>
    cases b with
    | true => exact ⟨true, rfl, fun H1 f1 s1 => iteT ⟨ρ1, c, f1, s1, k⟩⟩
    | false =>
      obtain ⟨b', e, q⟩ := (show bPost K C σ c Q (.bl false) ρ1 from k)
      cases e
      exact ⟨false, rfl, fun H1 f1 s1 => iteF (q H1 f1 s1)⟩
  | _ => exact k.elim
theorem tT_and1 {K : PySem.W.Frag} {σ : L2.St} {H : Hp} {Q : Bool → Hp → Prop} (h : tT K C G (.and (.cons xa .nil)) σ H Q) : tT K C G xa σ H Q := by
  obtain ⟨ρ, c, f, s, h⟩ := h
  refine ⟨ρ, c, f, s, (rPost.bind h).mono fun d ρ1 k => ?_⟩
  cases d with
  | bl b => cases b <;> exact k
  | _ => exact k.elim
theorem tT_or {K : PySem.W.Frag} {σ : L2.St} {H : Hp} {Q : Bool → Hp → Prop} (h : tT K C G (.or (.cons xa xs)) σ H Q) : tOr (tT K C G xa) (tT K C G (.or xs)) σ H Q := by
  obtain ⟨ρ, c, f, s, h⟩ := h
  refine ⟨ρ, c, f, s, (rPost.bind h).mono fun d ρ1 k => ?_⟩
  cases d with
  | bl b =>
    cases b with
    | false => exact ⟨false, rfl, fun H1 f1 s1 => iteF ⟨ρ1, c, f1, s1, k⟩⟩
    | true =>
      obtain ⟨b', e, q⟩ := (show bPost K C σ c Q (.bl true) ρ1 from k)
      cases e
      exact ⟨true, rfl, fun H1 f1 s1 => iteT (q H1 f1 s1)⟩
  | _ => exact k.elim
theorem tT_or1 {K : PySem.W.Frag} {σ : L2.St} {H : Hp} {Q : Bool → Hp → Prop} (h : tT K C G (.or (.cons xa .nil)) σ H Q) : tT K C G xa σ H Q := by
  obtain ⟨ρ, c, f, s, h⟩ := h
  refine ⟨ρ, c, f, s, (rPost.bind h).mono fun d ρ1 k => ?_⟩
  cases d with
  | bl b => cases b <;> exact k
  | _ => exact k.elim
theorem PW.imp {e : Expr} {t t' : TT} (h : PW X e t') (k : ∀ σ H Q, t σ H Q → t' σ H Q) : PW X e t := ⟨fun wh pins s σ H Q I q => h.run wh pins s σ H Q I (k σ H Q q)⟩
theorem sw_and (ha : PT X a (tT X.K C G xa)) (hb : PW X (.BoolOp .And (b :: rest) pos) (tT X.K C G (.and xs))) : PW X (.BoolOp .And (a :: b :: rest) pos) (tT X.K C G (.and (.cons xa xs))) := PW.imp (pw_and ha hb) fun _ _ _ => tT_and
theorem sw_and1 (ha : PT X a (tT X.K C G xa)) : PW X (.BoolOp .And [a] pos) (tT X.K C G (.and (.cons xa .nil))) := PW.imp (pw_and1 ha) fun _ _ _ => tT_and1
theorem sw_or (ha : PT X a (tT X.K C G xa)) (hb : PW X (.BoolOp .Or (b :: rest) pos) (tT X.K C G (.or xs))) : PW X (.BoolOp .Or (a :: b :: rest) pos) (tT X.K C G (.or (.cons xa xs))) := PW.imp (pw_or ha hb) fun _ _ _ => tT_or
theorem sw_or1 (ha : PT X a (tT X.K C G xa)) : PW X (.BoolOp .Or [a] pos) (tT X.K C G (.or (.cons xa .nil))) := PW.imp (pw_or1 ha) fun _ _ _ => tT_or1
/-- .. as values -/
theorem tE_and {K : PySem.W.Frag} {σ : L2.St} {H : Hp} {Q : VK} (h : tE K C G (.and (.cons xa xs)) σ H Q) : tAndV (tE K C G xa) (tE K C G (.and xs)) σ H Q := by
  obtain ⟨ρ, c, f, s, h⟩ := h
  refine ⟨ρ, c, f, s, (rPost.bind h).mono fun d ρ1 k v H1 f1 s1 => ?_⟩
  cases d with
  | bl b =>
    have e := s1.bl_of .head
    subst e
    cases b with
    | true => exact ⟨true, rfl, iteT ⟨ρ1, c, f1, s1.tail, k⟩⟩
    | false => exact ⟨false, rfl, iteF ((show ePost K C σ c Q (.bl false) ρ1 from k) _ H1 f1 s1)⟩
  | _ => exact k.elim
theorem tE_and1 {K : PySem.W.Frag} {σ : L2.St} {H : Hp} {Q : VK} (h : tE K C G (.and (.cons xa .nil)) σ H Q) : tE K C G xa σ H Q := by
  obtain ⟨ρ, c, f, s, h⟩ := h
  refine ⟨ρ, c, f, s, (rPost.bind h).mono fun d ρ1 k => ?_⟩
  cases d with
  | bl b => cases b <;> exact k
  | _ => exact k.elim
theorem tE_or {K : PySem.W.Frag} {σ : L2.St} {H : Hp} {Q : VK} (h : tE K C G (.or (.cons xa xs)) σ H Q) : tOrV (tE K C G xa) (tE K C G (.or xs)) σ H Q := by
  obtain ⟨ρ, c, f, s, h⟩ := h
  refine ⟨ρ, c, f, s, (rPost.bind h).mono fun d ρ1 k v H1 f1 s1 => ?_⟩
  cases d with
  | bl b =>
    have e := s1.bl_of .head
    subst e
    cases b with
    | false => exact ⟨false, rfl, iteF ⟨ρ1, c, f1, s1.tail, k⟩⟩
    | true => exact ⟨true, rfl, iteT ((show ePost K C σ c Q (.bl true) ρ1 from k) _ H1 f1 s1)⟩
  | _ => exact k.elim
theorem tE_or1 {K : PySem.W.Frag} {σ : L2.St} {H : Hp} {Q : VK} (h : tE K C G (.or (.cons xa .nil)) σ H Q) : tE K C G xa σ H Q := by
  obtain ⟨ρ, c, f, s, h⟩ := h
  refine ⟨ρ, c, f, s, (rPost.bind h).mono fun d ρ1 k => ?_⟩
  cases d with
  | bl b => cases b <;> exact k
  | _ => exact k.elim
theorem se_and (ha : PE X a (tE X.K C G xa)) (hb : PE X (.BoolOp .And (b :: rest) pos) (tE X.K C G (.and xs))) : PE X (.BoolOp .And (a :: b :: rest) pos) (tE X.K C G (.and (.cons xa xs))) := PE.imp (pe_and ha hb) fun _ _ _ => tE_and
theorem se_and1 (ha : PE X a (tE X.K C G xa)) : PE X (.BoolOp .And [a] pos) (tE X.K C G (.and (.cons xa .nil))) := PE.imp (pe_one ha) fun _ _ _ => tE_and1
theorem se_or (ha : PE X a (tE X.K C G xa)) (hb : PE X (.BoolOp .Or (b :: rest) pos) (tE X.K C G (.or xs))) : PE X (.BoolOp .Or (a :: b :: rest) pos) (tE X.K C G (.or (.cons xa xs))) := PE.imp (pe_or ha hb) fun _ _ _ => tE_or
theorem se_or1 (ha : PE X a (tE X.K C G xa)) : PE X (.BoolOp .Or [a] pos) (tE X.K C G (.or (.cons xa .nil))) := PE.imp (pe_one ha) fun _ _ _ => tE_or1
/-- a if t else b -/
theorem tE_ife {K : PySem.W.Frag} {σ : L2.St} {H : Hp} {Q : VK} (h : tE K C G (.ife xc xa xb) σ H Q) : tIf (tT K C G xc) (tE K C G xa) (tE K C G xb) σ H Q := by
  obtain ⟨ρ, c, f, s, h⟩ := h
  refine ⟨ρ, c, f, s, (rPost.bind h).mono fun d ρ1 k => ?_⟩
  cases d with
  | bl b =>
    refine ⟨b, rfl, fun H1 f1 s1 => ?_⟩
    cases b with
    | true => rw [if_pos rfl]; exact ⟨ρ1, c, f1, s1, k⟩
    | false => rw [if_neg Bool.false_ne_true]; exact ⟨ρ1, c, f1, s1, k⟩
  | _ => exact k.elim
theorem se_ife (hc : PT X c (tT X.K C G xc)) (ha : PE X a (tE X.K C G xa)) (hb : PE X b (tE X.K C G xb)) : PE X (.IfExp c a b pos) (tE X.K C G (.ife xc xa xb)) := PE.imp (pe_ifExp hc ha hb) fun _ _ _ => tE_ife
/-- chains -/
theorem se_chn {op op' : CmpOp} {p q : Prim} (k : CmpOk X op p) (k' : CmpOk X op' q) (ha : PE X a (tE X.K C G xa)) (hb : PE X b (tE X.K C G xb)) (hc : PE X c (tE X.K C G xc)) (hm : lastMarks [op, op'] [b, c] = false) :
    PE X (.Compare a [op, op'] [b, c] pos) (tE X.K C G (.chn p q xa xb xc)) := by
  obtain ⟨r, ho, hr⟩ := k.ex
  obtain ⟨r', ho', hr'⟩ := k'.ex
  exact PE.imp (pe_chain ho ho' ha hb hc hm) fun _ _ _ => tE_chn hr hr'
theorem st_chn {op op' : CmpOp} {p q : Prim} (k : CmpOk X op p) (k' : CmpOk X op' q) (ha : PE X a (tE X.K C G xa)) (hb : PE X b (tE X.K C G xb)) (hc : PE X c (tE X.K C G xc)) (hm : lastMarks [op, op'] [b, c] = false) :
    PT X (.Compare a [op, op'] [b, c] pos) (tT X.K C G (.chn p q xa xb xc)) := by
  obtain ⟨r, ho, hr⟩ := k.ex
  obtain ⟨r', ho', hr'⟩ := k'.ex
  exact PT.imp (pt_chain ho ho' ha hb hc hm) fun _ _ _ h => tE_chn hr hr' (tT_tE h)
end

/-! ### operands in a row -/
section
variable {X : Cx} {C : Ctx} {G : Calls} {e : Expr} {es : List Expr} {xe : Ex} {xs : Exs}
theorem sa_nil : PA X [] (taO X.K C G .nil) := pa_nil
theorem sa_cons (ha : PE X e (tO X.K C G xe)) (hr : PA X es (taO X.K C G xs)) (hs : starEach (e :: es) X.env = (false, eval e X.env) :: starEach es X.env) : PA X (e :: es) (taO X.K C G (.cons xe xs)) := pa_cons ha hr hs
end

/-! ### built-in functions -/
section
variable {K : PySem.W.Frag} {H : Hp} {Q : VK} {x y z : V} {p : Prim} {cs : List Cell}
theorem PR.len (h : PR K p vs H Q) : ∃ ds cs d, prim p ds = some d ∧ vs.length = ds.length ∧ (∀ q ∈ vs.zip ds, q ∈ cs) ∧ Sat K H [] cs ∧ ∀ v H', Sat K H' [] ((v, d) :: cs) → Q v H' := h
theorem pr_shape1 {vs : List V} (h : PR K p vs H Q) (hp : ∀ ds d, prim p ds = some d → ds.length = 1) : ∃ x, vs = [x] := by
  obtain ⟨ds, cs, d, e, hl, _⟩ := h
  have := hp ds d e
  match vs, hl with
  | [x], _ => exact ⟨x, rfl⟩
  | [], hl => simp at hl; omega
  | _ :: _ :: _, hl => simp at hl; omega
theorem pr_shape2 {vs : List V} (h : PR K p vs H Q) (hp : ∀ ds d, prim p ds = some d → ds.length = 2) : ∃ x y, vs = [x, y] := by
  obtain ⟨ds, cs, d, e, hl, _⟩ := h
  have := hp ds d e
  match vs, hl with
  | [x, y], _ => exact ⟨x, y, rfl⟩
  | [], hl => simp at hl; omega
  | [_], hl => simp at hl; omega
  | _ :: _ :: _ :: _, hl => simp at hl; omega
theorem one_of {ds : List D} {d : D} {p : Prim} (hp : ∀ a b l, prim p (a :: b :: l) = none) (h0 : prim p [] = none) (h : prim p ds = some d) : ds.length = 1 := by
  match ds, h with
  | [_], _ => rfl
  | [], h => rw [h0] at h; cases h
  | a :: b :: l, h => rw [hp] at h; cases h
theorem two_of {ds : List D} {d : D} {p : Prim} (hp : ∀ a b c l, prim p (a :: b :: c :: l) = none) (h0 : prim p [] = none) (h1 : ∀ a, prim p [a] = none) (h : prim p ds = some d) : ds.length = 2 := by
  match ds, h with
  | [_, _], _ => rfl
  | [], h => rw [h0] at h; cases h
  | [a], h => rw [h1] at h; cases h
  | a :: b :: c :: l, h => rw [hp] at h; cases h
theorem pr_len {vs : List V} (h : PR K .len vs H Q) : (∃ p ys, vs = [.ref p] ∧ (SqL K H p ys ∨ SqT K H p ys) ∧ Q (.int ys.length) H) ∨ ∃ z, vs = [.str z] ∧ z.length ≤ sizeLine ∧ Q (.int z.length) H := by
  obtain ⟨x, rfl⟩ := pr_shape1 h fun ds d e => one_of (by intros; simp [prim]) (by simp [prim]) e
  obtain ⟨a, cs, d, e, ha, s, q⟩ := h.one
  cases a <;> simp [prim] at e
  · subst e
    obtain ⟨rfl, g⟩ := s.str_of ha
    exact .inr ⟨_, rfl, by rw [str_len, sl_eq]; exact g.1, by rw [str_len]; exact q _ _ s.int⟩
  · subst e
    obtain ⟨a, vs, rfl, h1, l1, _⟩ := s.tup_of ha
    exact .inl ⟨_, _, rfl, .inr h1, by rw [l1]; exact q _ _ s.int⟩
  · subst e
    obtain ⟨a, vs, rfl, h1, l1, _⟩ := s.lst_of ha
    exact .inl ⟨_, _, rfl, .inl (.inl (.inl h1)), by rw [l1]; exact q _ _ s.int⟩
theorem pr_abs {vs : List V} (h : PR K .abs vs H Q) : ∃ i, vs = [.int i] ∧ Q (.int (if i < 0 then -i else i)) H := by
  obtain ⟨x, rfl⟩ := pr_shape1 h fun ds d e => one_of (by intros; simp [prim]) (by simp [prim]) e
  obtain ⟨a, cs, d, e, ha, s, q⟩ := h.one
  cases a <;> simp [prim] at e
  subst e
  exact ⟨_, by rw [s.int_of ha], q _ _ s.int⟩
theorem pr_toInt {vs : List V} (h : PR K .toInt vs H Q) : (∃ i, vs = [.int i] ∧ Q (.int i) H) ∨ ∃ k, vs = [.bl k] ∧ Q (.int (if k then 1 else 0)) H := by
  obtain ⟨x, rfl⟩ := pr_shape1 h fun ds d e => one_of (by intros; simp [prim]) (by simp [prim]) e
  obtain ⟨a, cs, d, e, ha, s, q⟩ := h.one
  cases a <;> simp [prim] at e
  · subst e
    exact .inr ⟨_, by rw [s.bl_of ha], q _ _ s.int⟩
  · subst e
    exact .inl ⟨_, by rw [s.int_of ha], q _ _ s.int⟩
theorem pr_min2 {vs : List V} (h : PR K .min2 vs H Q) : ∃ i j, vs = [.int i, .int j] ∧ Q (.int (if j < i then j else i)) H := by
  obtain ⟨x, y, rfl⟩ := pr_shape2 h fun ds d e => two_of (by intros; simp [prim]) (by simp [prim]) (by intros; simp [prim]) e
  obtain ⟨a, b, cs, d, e, ha, hb, s, q⟩ := h.two
  cases a <;> cases b <;> simp [prim] at e
  subst e
  exact ⟨_, _, by rw [s.int_of ha, s.int_of hb], q _ _ s.int⟩
theorem pr_max2 {vs : List V} (h : PR K .max2 vs H Q) : ∃ i j, vs = [.int i, .int j] ∧ Q (.int (if j > i then j else i)) H := by
  obtain ⟨x, y, rfl⟩ := pr_shape2 h fun ds d e => two_of (by intros; simp [prim]) (by simp [prim]) (by intros; simp [prim]) e
  obtain ⟨a, b, cs, d, e, ha, hb, s, q⟩ := h.two
  cases a <;> cases b <;> simp [prim] at e
  subst e
  exact ⟨_, _, by rw [s.int_of ha, s.int_of hb], q _ _ s.int⟩
theorem asInts_eq : ∀ {ds : List D} {ns : List Int}, asInts ds = some ns → ds = ns.map D.int
  | [], ns, h => by simp [asInts] at h; subst h; rfl
  | .int i :: ds, ns, h => by
    simp only [asInts, Option.map_eq_some_iff] at h
    obtain ⟨r, h, rfl⟩ := h
    rw [asInts_eq h]; rfl
  | .non :: _, _, h => by simp [asInts] at h
  | .bl _ :: _, _, h => by simp [asInts] at h
  | .str _ :: _, _, h => by simp [asInts] at h
  | .tup _ :: _, _, h => by simp [asInts] at h
  | .lst _ _ :: _, _, h => by simp [asInts] at h
  | .dct _ _ _ :: _, _, h => by simp [asInts] at h
  | .scr _ :: _, _, h => by simp [asInts] at h
theorem asBls_eq : ∀ {ds : List D} {ns : List Bool}, asBls ds = some ns → ds = ns.map D.bl
  | [], ns, h => by simp [asBls] at h; subst h; rfl
  | .bl i :: ds, ns, h => by
    simp only [asBls, Option.map_eq_some_iff] at h
    obtain ⟨r, h, rfl⟩ := h
    rw [asBls_eq h]; rfl
  | .non :: _, _, h => by simp [asBls] at h
  | .int _ :: _, _, h => by simp [asBls] at h
  | .str _ :: _, _, h => by simp [asBls] at h
  | .tup _ :: _, _, h => by simp [asBls] at h
  | .lst _ _ :: _, _, h => by simp [asBls] at h
  | .dct _ _ _ :: _, _, h => by simp [asBls] at h
  | .scr _ :: _, _, h => by simp [asBls] at h
theorem asStrs_eq : ∀ {ds : List D} {ns : List (List Nat)}, asStrs ds = some ns → ds = ns.map D.str
  | [], ns, h => by simp [asStrs] at h; subst h; rfl
  | .str i :: ds, ns, h => by
    simp only [asStrs, Option.map_eq_some_iff] at h
    obtain ⟨r, h, rfl⟩ := h
    rw [asStrs_eq h]; rfl
  | .non :: _, _, h => by simp [asStrs] at h
  | .int _ :: _, _, h => by simp [asStrs] at h
  | .bl _ :: _, _, h => by simp [asStrs] at h
  | .tup _ :: _, _, h => by simp [asStrs] at h
  | .lst _ _ :: _, _, h => by simp [asStrs] at h
  | .dct _ _ _ :: _, _, h => by simp [asStrs] at h
  | .scr _ :: _, _, h => by simp [asStrs] at h
theorem list_ext {α : Type} {xs ys : List α} (l : xs.length = ys.length) (h : ∀ (i : Nat) (d : α), ys[i]? = some d → xs[i]? = some d) : xs = ys := by
  refine List.ext_getElem? fun i => ?_
  cases e : ys[i]? with
  | some d => exact h i d e
  | none =>
    rw [List.getElem?_eq_none_iff] at e ⊢
    omega
/-- a list of flat things: its values -/
theorem Sat.flats {α : Type} {v : V} {o : Bool} {ns : List α} {fd : α → D} {fv : α → V} (s : Sat K H [] cs) (k : Has K H [] cs v (.lst o (ns.map fd))) (hf : ∀ {w : V} {n : α}, n ∈ ns → Has K H [] cs w (fd n) → w = fv n) :
    ∃ a, v = .ref a ∧ H a = some (.lst (ns.map fv)) := by
  obtain ⟨a, vs, rfl, h1, l1, k1⟩ := s.lst_of k
  refine ⟨a, rfl, ?_⟩
  have : vs = ns.map fv := list_ext (by simpa using l1) fun i w hw => by
    rw [List.getElem?_map] at hw
    cases e : ns[i]? with
    | none => rw [e] at hw; cases hw
    | some n =>
      rw [e] at hw
      have hw : fv n = w := Option.some.inj hw
      obtain ⟨w', e1, e2⟩ := k1 i (fd n) (by rw [List.getElem?_map, e]; rfl)
      rw [e1, ← hw, hf (List.mem_of_getElem? e) e2]
  rw [← this]
  exact h1
theorem Sat.ints {v : V} {o : Bool} {ns : List Int} (s : Sat K H [] cs) (k : Has K H [] cs v (.lst o (ns.map D.int))) : ∃ a, v = .ref a ∧ H a = some (.lst (ns.map V.int)) :=
  s.flats k fun _ h => s.int_of h
theorem Sat.bls {v : V} {o : Bool} {ns : List Bool} (s : Sat K H [] cs) (k : Has K H [] cs v (.lst o (ns.map D.bl))) : ∃ a, v = .ref a ∧ H a = some (.lst (ns.map V.bl)) :=
  s.flats k fun _ h => s.bl_of h
theorem Sat.strs {v : V} {o : Bool} {ns : List (List Nat)} (s : Sat K H [] cs) (k : Has K H [] cs v (.lst o (ns.map D.str))) : (∃ a, v = .ref a ∧ H a = some (.lst (ns.map fun l => V.str ⟨l.toArray⟩))) ∧ ∀ n ∈ ns, strGood n := by
  refine ⟨s.flats (fv := fun l => V.str ⟨l.toArray⟩) k fun _ h => (s.str_of h).1, fun n hn => ?_⟩
  obtain ⟨a, vs, rfl, h1, l1, k1⟩ := s.lst_of k
  obtain ⟨i, hi⟩ := List.mem_iff_getElem?.mp hn
  obtain ⟨w, _, e2⟩ := k1 i (.str n) (by rw [List.getElem?_map, hi]; rfl)
  exact (s.str_of e2).2
theorem pr_sum {vs : List V} (h : PR K .sum vs H Q) : rSum K vs H Q := by
  obtain ⟨x, rfl⟩ := pr_shape1 h fun ds d e => one_of (by intros; simp [prim]) (by simp [prim]) e
  obtain ⟨a, cs, d, e, ha, s, q⟩ := h.one
  cases a <;> simp [prim] at e
  obtain ⟨ns, e1, rfl⟩ := e
  have := asInts_eq e1
  subst this
  obtain ⟨a, rfl, h1⟩ := s.ints ha
  exact ⟨a, ns, rfl, .inl (.inl h1), q _ _ s.int⟩
theorem pr_all {vs : List V} (h : PR K .all vs H Q) : rAll K vs H Q := by
  obtain ⟨x, rfl⟩ := pr_shape1 h fun ds d e => one_of (by intros; simp [prim]) (by simp [prim]) e
  obtain ⟨a, cs, d, e, ha, s, q⟩ := h.one
  cases a <;> simp [prim] at e
  obtain ⟨ns, e1, rfl⟩ := e
  have := asBls_eq e1
  subst this
  obtain ⟨a, rfl, h1⟩ := s.bls ha
  exact ⟨a, ns, rfl, .inl (.inl h1), q _ _ s.bl⟩
theorem pr_any {vs : List V} (h : PR K .any vs H Q) : rAny K vs H Q := by
  obtain ⟨x, rfl⟩ := pr_shape1 h fun ds d e => one_of (by intros; simp [prim]) (by simp [prim]) e
  obtain ⟨a, cs, d, e, ha, s, q⟩ := h.one
  cases a <;> simp [prim] at e
  obtain ⟨ns, e1, rfl⟩ := e
  have := asBls_eq e1
  subst this
  obtain ⟨a, rfl, h1⟩ := s.bls ha
  exact ⟨a, ns, rfl, .inl (.inl h1), q _ _ s.bl⟩
/-- list(..) -/
theorem pr_toList {vs : List V} (h : PR K .toList vs H Q) : ∃ p ys, vs = [.ref p] ∧ (SqL K H p ys ∨ SqT K H p ys) ∧ ∀ l, H l = none → Q (.ref l) (upd H l (.lst ys)) := by
  obtain ⟨x, rfl⟩ := pr_shape1 h fun ds d e => one_of (by intros; simp [prim]) (by simp [prim]) e
  obtain ⟨a, cs, d, e, ha, s, q⟩ := h.one
  cases a <;> simp [prim] at e
  · obtain ⟨f, rfl⟩ := e
    obtain ⟨a, vs, rfl, h1, l1, s'⟩ := s.addT ha f
    exact ⟨a, vs, rfl, .inr h1, fun p hp => q _ _ (s'.newL l1 hp)⟩
  · obtain ⟨f, rfl⟩ := e
    obtain ⟨a, vs, rfl, h1, l1, k1⟩ := s.lst_of ha
    exact ⟨a, vs, rfl, .inl (.inl (.inl h1)), new_list s l1 f k1 q⟩
  · subst e
    obtain ⟨T, o, r⟩ := s.rep ha
    cases r with
    | scr h1 =>
      rename_i ns a
      refine ⟨a, _, rfl, .inl h1.sq, new_list s (by simp) ?_ (fun i d hd => ?_) q⟩
      · rw [isFL_all, List.all_eq_true]
        intro d hd
        obtain ⟨n, _, rfl⟩ := List.mem_map.mp hd
        rfl
      · rw [List.getElem?_map] at hd
        cases e : ns[i]? with
        | none => rw [e] at hd; cases hd
        | some n =>
          rw [e] at hd
          cases hd
          exact ⟨.int n, by rw [List.getElem?_map, e]; rfl, .int⟩
end
end VL

/-! VL6: subscripts, texts, membership, isinstance. -/
namespace VL
open PySem PySem.Spec PyProof.Rows L2

section
variable {K : PySem.W.Frag} {H : Hp} {Q : VK} {x y z : V} {p : Prim} {cs : List Cell}
/-! ### subscripts -/
theorem ixAt_ixN (n : Nat) (i : Int) : ixAt n i = ixN n i := rfl
theorem atI_of {α : Type} {xs : List α} {i : Int} {j : Nat} {v : α} (h : ixAt xs.length i = some j) (e : xs[j]? = some v) : atI xs i = some v := by
  unfold atI
  rw [← ixAt_ixN, h]
  exact e
theorem pr_idx (h : PR K .idx [x, y] H Q) : rIx K x y H Q := by
  obtain ⟨a, b, cs, d, e, ha, hb, s, q⟩ := h.two
  cases a <;> cases b <;> simp [prim] at e
  · -- a text
    rename_i l i
    obtain ⟨rfl, g⟩ := s.str_of ha
    cases e1 : ixAt l.length i with
    | none => rw [e1] at e; simp at e
    | some j =>
      rw [e1] at e
      simp at e
      obtain ⟨k, e2, rfl⟩ := e
      refine .inr (.inr ⟨_, i, k, rfl, s.int_of hb, by rw [str_len, sl_eq]; exact g.1, atI_of (by simpa using e1) (by simpa using e2), ?_⟩)
      have gk : strGood [k] := ⟨by simp, fun c hc => by simp at hc; subst hc; exact g.2 _ (List.mem_of_getElem? e2)⟩
      exact q _ _ (s.str gk)
  · -- a tuple
    rename_i ds i
    cases e1 : ixAt ds.length i with
    | none => rw [e1] at e; simp at e
    | some j =>
      rw [e1, Option.bind_some] at e
      obtain ⟨d', e2, e⟩ := Option.bind_eq_some_iff.mp e
      by_cases f : d'.isF = true
      case neg => rw [if_neg f] at e; cases e
      rw [if_pos f] at e
      cases e
      obtain ⟨os, r, n, qq⟩ := s
      obtain ⟨o, z, _⟩ := ha os r n
      have hi := Sat.int_of ⟨os, r, n, qq⟩ hb
      cases z with
      | tup hS rr =>
        rename_i a vs
        obtain ⟨w, o3, e3, q1, q2⟩ := rr.get e2
        have e4 := q1.isF_nil f
        subst e4
        exact .inr (.inl ⟨a, vs, i, w, rfl, hi, hS, atI_of (by rw [rr.len]; exact e1) e3, q _ _ ⟨os, .cons (os := []) q1 r, n, qq⟩⟩)
  · rename_i o ds i
    cases e1 : ixAt ds.length i with
    | none => rw [e1] at e; simp at e
    | some j =>
      rw [e1, Option.bind_some] at e
      obtain ⟨d', e2, e⟩ := Option.bind_eq_some_iff.mp e
      by_cases f : d'.isF = true
      case neg => rw [if_neg f] at e; cases e
      rw [if_pos f] at e
      cases e
      obtain ⟨a, vs, rfl, h1, l1, k1⟩ := s.lst_of ha
      obtain ⟨w, e3, k2⟩ := k1 j _ e2
      exact .inl ⟨a, vs, i, w, rfl, s.int_of hb, .inl (.inl h1), atI_of (by rw [l1]; exact e1) e3, q _ _ (s.addH k2 f)⟩

/-! ### slices -/
theorem clip_sIx (n d : Nat) (i : Int) : HT.sIx n d (some i) = clip n i := by
  have h := HT.clip_eq i n d
  unfold clip
  by_cases hi : i < 0
  · rw [if_pos hi] at h ⊢
    by_cases h2 : 0 ≤ i + (n : Int)
    · rw [Int.max_eq_left h2] at h; omega
    · rw [Int.max_eq_right (by omega)] at h; omega
  · rw [if_neg hi] at h ⊢
    rcases Int.le_total i (n : Int) with h2 | h2
    · rw [Int.min_eq_left h2] at h
      rw [Nat.min_eq_left (by omega)]; omega
    · rw [Int.min_eq_right h2] at h
      rw [Nat.min_eq_right (by omega)]; omega
theorem clip_le (n : Nat) (i : Int) : clip n i ≤ n := by
  unfold clip
  split <;> omega
/-- the cut of a list, of a text, by optional bounds -/
def cutO {α : Type} (xs : List α) (lo hi : Option Int) : List α := cutL xs (match lo with | some i => clip xs.length i | none => 0) (match hi with | some i => clip xs.length i | none => xs.length)
theorem cutV_cutO (xs : List V) (lo hi : Option Int) : cutV xs lo hi = cutO xs lo hi := by
  unfold cutV cutO cutL
  cases lo <;> cases hi <;> simp only [clip_sIx, HT.sIx_none]
theorem cutO_get {α β : Type} {xs : List α} {ys : List β} {P : α → β → Prop} (l : xs.length = ys.length) (h : ∀ (i : Nat) (d : β), ys[i]? = some d → ∃ w, xs[i]? = some w ∧ P w d) (lo hi : Option Int) :
    (cutO xs lo hi).length = (cutO ys lo hi).length ∧ ∀ (i : Nat) (d : β), (cutO ys lo hi)[i]? = some d → ∃ w, (cutO xs lo hi)[i]? = some w ∧ P w d := by
  unfold cutO cutL
  rw [l]
  generalize (match lo with | some i => clip ys.length i | none => 0) = a
  generalize (match hi with | some i => clip ys.length i | none => ys.length) = b
  refine ⟨by simp [l], fun i d hd => ?_⟩
  rw [List.getElem?_take] at hd ⊢
  split at hd
  · rename_i hi
    rw [if_pos hi]
    rw [List.getElem?_drop] at hd ⊢
    exact h _ d hd
  · cases hd
theorem isFL_sub {ds es : List D} (f : D.isFL ds = true) (h : ∀ d ∈ es, d ∈ ds) : D.isFL es = true := by
  rw [isFL_all, List.all_eq_true] at f ⊢
  exact fun d hd => f d (h d hd)
theorem cutO_mem {α : Type} {xs : List α} {lo hi : Option Int} {d : α} (h : d ∈ cutO xs lo hi) : d ∈ xs := List.mem_of_mem_drop (List.mem_of_mem_take h)
theorem cutO_len {α : Type} (xs : List α) (lo hi : Option Int) : (cutO xs lo hi).length ≤ xs.length := by
  unfold cutO cutL
  rw [List.length_take, List.length_drop]
  omega
theorem cutS_cutO (l : List Nat) (lo hi : Option Int) : cutS ⟨l.toArray⟩ lo hi = ⟨(cutO l lo hi).toArray⟩ := by
  unfold cutS cutO cutL
  simp only [List.size_toArray]
  cases lo <;> cases hi <;> simp only [clip_sIx, HT.sIx_none, Str.length, List.size_toArray]
def rSl (K : PySem.W.Frag) : V → Option Int → Option Int → Hp → VK → Prop := fun x lo hi H Q => rSlL K x lo hi H Q ∨ (rSlS x lo hi H Q ∨ rSlA K x lo hi H Q)
theorem sl_any {X : Cx} : SlR X (rSl X.K) := sl_list.or (sl_str.or sl_tupA)
theorem cutO_sIx {α : Type} (xs : List α) (lo hi : Option Int) : cutO xs lo hi = (xs.drop (HT.sIx xs.length 0 lo)).take (HT.sIx xs.length xs.length hi - HT.sIx xs.length 0 lo) := by
  unfold cutO cutL
  cases lo <;> cases hi <;> simp only [clip_sIx, HT.sIx_none]
theorem sl_fin {a d : D} {lo hi : Option Int} (s : Sat K H [] cs) (ha : Has K H [] cs x a) (q : ∀ v H', Sat K H' [] ((v, d) :: cs) → Q v H')
    (e : (∃ l, a = .str l ∧ d = .str (cutO l lo hi)) ∨ (∃ o ds, a = .lst o ds ∧ D.isFL ds = true ∧ d = .lst true (cutO ds lo hi)) ∨ ∃ ds, a = .tup ds ∧ D.isFL ds = true ∧ d = .tup (cutO ds lo hi)) : rSl K x lo hi H Q := by
  rcases e with ⟨l, rfl, rfl⟩ | ⟨o, ds, rfl, f, rfl⟩ | ⟨ds, rfl, f, rfl⟩
  rotate_left 2
  · obtain ⟨a, vs, rfl, h1, l1, s2⟩ := s.addT ha f
    have k1 : ∀ (i : Nat) (d : D), ds[i]? = some d → ∃ w, vs[i]? = some w ∧ Has K H [] (vs.zip ds ++ cs) w d := fun i d hd => by
      have hi : i < vs.length := by
        have := (List.getElem?_eq_some_iff.mp hd).1
        omega
      have hw : vs[i]? = some vs[i] := List.getElem?_eq_getElem hi
      exact ⟨vs[i], hw, .mem (List.mem_append_left _ (List.mem_iff_getElem?.mpr ⟨i, by rw [List.getElem?_zip_eq_some]; exact ⟨hw, hd⟩⟩))⟩
    refine .inr (.inr ⟨a, vs, rfl, h1, fun hw => ?_, fun _ p hp => ?_⟩)
    · have e : cutO ds lo hi = ds := by
        rw [cutO_sIx, ← l1, hw.1, hw.2]
        simp [l1]
      rw [e] at q
      exact q _ _ (s.addH ha f)
    · rw [cutV_cutO]
      obtain ⟨c1, c2⟩ := cutO_get l1 k1 lo hi
      have s3 := (s2.addL c1 (isFL_sub f fun d hd => cutO_mem hd) c2).newT c1 hp
      exact q _ _ (Sat.drop (xs := vs.zip ds) (s3.perm (List.perm_middle (l₁ := vs.zip ds)).symm))
  · obtain ⟨rfl, g⟩ := s.str_of ha
    refine .inr (.inl ⟨_, rfl, by rw [str_len, sl_eq]; exact g.1, ?_⟩)
    rw [cutS_cutO]
    exact q _ _ (s.str (g.sub (fun c hc => cutO_mem hc) (cutO_len _ _ _)))
  · obtain ⟨a, vs, rfl, h1, l1, k1⟩ := s.lst_of ha
    refine .inl ⟨a, vs, rfl, .inl (.inl h1), ?_⟩
    rw [cutV_cutO]
    obtain ⟨c1, c2⟩ := cutO_get l1 k1 lo hi
    exact new_list s c1 (isFL_sub f fun d hd => cutO_mem hd) c2 q
theorem cutO_LH {α : Type} (xs : List α) (i j : Int) : cutO xs (some i) (some j) = cutL xs (clip xs.length i) (clip xs.length j) := rfl
theorem cutO_L {α : Type} (xs : List α) (i : Int) : cutO xs (some i) none = xs.drop (clip xs.length i) := by
  unfold cutO cutL
  rw [List.take_of_length_le (by simp)]
theorem cutO_H {α : Type} (xs : List α) (i : Int) : cutO xs none (some i) = xs.take (clip xs.length i) := by
  unfold cutO cutL
  simp
theorem pr_slLH (h : PR K .slLH [x, y, z] H Q) : ∃ i j, y = .int i ∧ z = .int j ∧ rSl K x (some i) (some j) H Q := by
  obtain ⟨a, b, b', cs, d, e, ha, hb, hb', s, q⟩ := h.three
  cases a <;> cases b <;> cases b' <;> simp [prim] at e
  · exact ⟨_, _, s.int_of hb, s.int_of hb', sl_fin s ha q (.inl ⟨_, rfl, e.symm⟩)⟩
  · exact ⟨_, _, s.int_of hb, s.int_of hb', sl_fin s ha q (.inr (.inr ⟨_, rfl, e.1, e.2.symm⟩))⟩
  · exact ⟨_, _, s.int_of hb, s.int_of hb', sl_fin s ha q (.inr (.inl ⟨_, _, rfl, e.1, e.2.symm⟩))⟩
theorem pr_slL (h : PR K .slL [x, y] H Q) : ∃ i, y = .int i ∧ rSl K x (some i) none H Q := by
  obtain ⟨a, b, cs, d, e, ha, hb, s, q⟩ := h.two
  cases a <;> cases b <;> simp [prim] at e
  · exact ⟨_, s.int_of hb, sl_fin s ha q (.inl ⟨_, rfl, by rw [cutO_L]; exact e.symm⟩)⟩
  · exact ⟨_, s.int_of hb, sl_fin s ha q (.inr (.inr ⟨_, rfl, e.1, by rw [cutO_L]; exact e.2.symm⟩))⟩
  · exact ⟨_, s.int_of hb, sl_fin s ha q (.inr (.inl ⟨_, _, rfl, e.1, by rw [cutO_L]; exact e.2.symm⟩))⟩
theorem pr_slH (h : PR K .slH [x, y] H Q) : ∃ i, y = .int i ∧ rSl K x none (some i) H Q := by
  obtain ⟨a, b, cs, d, e, ha, hb, s, q⟩ := h.two
  cases a <;> cases b <;> simp [prim] at e
  · exact ⟨_, s.int_of hb, sl_fin s ha q (.inl ⟨_, rfl, by rw [cutO_H]; exact e.symm⟩)⟩
  · exact ⟨_, s.int_of hb, sl_fin s ha q (.inr (.inr ⟨_, rfl, e.1, by rw [cutO_H]; exact e.2.symm⟩))⟩
  · exact ⟨_, s.int_of hb, sl_fin s ha q (.inr (.inl ⟨_, _, rfl, e.1, by rw [cutO_H]; exact e.2.symm⟩))⟩

/-! ### texts -/
theorem subAt_cut (x y : List Nat) (i : Nat) : Builtin.Str.subAt ⟨x.toArray⟩ ⟨y.toArray⟩ i = decide ((x.drop i).take y.length = y) := by
  rw [StrLaws.subAt_eq]
  show ((x.drop i).take (⟨y.toArray⟩ : Str).length == y) = _
  rw [str_len, Bool.beq_eq_decide_eq]
theorem at_iff_cut (x y : List Nat) (i : Nat) : (i + (⟨y.toArray⟩ : Str).length ≤ (⟨x.toArray⟩ : Str).length ∧ Builtin.Str.subAt ⟨x.toArray⟩ ⟨y.toArray⟩ i = true) ↔ i < x.length + 1 ∧ (x.drop i).take y.length = y := by
  rw [subAt_cut, str_len, str_len, decide_eq_true_eq]
  constructor
  · exact fun h => ⟨by omega, h.2⟩
  · rintro ⟨h1, h2⟩
    refine ⟨?_, h2⟩
    have := congrArg List.length h2
    rw [List.length_take, List.length_drop] at this
    omega
theorem isPart_occ (y x : List Nat) : (!(Builtin.Str.occurrences ⟨x.toArray⟩ ⟨y.toArray⟩ 0 (⟨x.toArray⟩ : Str).length 1).isEmpty) = isPart y x := by
  rw [Bool.eq_iff_iff, StrLaws.found_iff]
  unfold isPart firstAt
  rw [List.find?_isSome]
  constructor
  · rintro ⟨i, h⟩
    obtain ⟨h1, h2⟩ := (at_iff_cut x y i).mp h
    exact ⟨i, List.mem_range.mpr h1, by simpa using h2⟩
  · rintro ⟨i, h1, h2⟩
    exact ⟨i, (at_iff_cut x y i).mpr ⟨List.mem_range.mp h1, by simpa using h2⟩⟩
theorem occ_stop (s sub : Str) (hi : Nat) : ∀ (l : List Nat) (st : Array Nat × Nat), st.fst.size = 1 → (forIn l st (StrLaws.occBody s sub hi 1)).run.fst = st.fst
  | [], st, h => rfl
  | a :: l, st, h => by
    rw [List.forIn_cons]
    unfold StrLaws.occBody
    rw [if_neg (fun z => by have := z.1.1.1; omega)]
    exact occ_stop s sub hi l _ h
theorem occ_first (s sub : Str) (hi : Nat) (P : Nat → Bool) (hP : ∀ i, (i + sub.length ≤ hi ∧ Builtin.Str.subAt s sub i = true) ↔ (P i = true)) : ∀ (l : List Nat) (free : Nat), (∀ i ∈ l, free ≤ i) →
    (forIn l ((#[] : Array Nat), free) (StrLaws.occBody s sub hi 1)).run.fst.toList = (l.find? P).toList
  | [], free, _ => rfl
  | a :: l, free, hf => by
    rw [List.forIn_cons]
    unfold StrLaws.occBody
    have ha : free ≤ a := hf a (List.mem_cons_self ..)
    by_cases hc : P a = true
    · have h2 := (hP a).mpr hc
      have c1 : (((#[] : Array Nat), free).fst.size < 1 ∧ ((#[] : Array Nat), free).snd ≤ a) ∧ a + sub.length ≤ hi := ⟨⟨by simp, ha⟩, h2.1⟩
      rw [if_pos ⟨c1, h2.2⟩, List.find?_cons_of_pos hc]
      have := occ_stop s sub hi l (((#[] : Array Nat), free).fst.push a, a + sub.length) (by simp)
      show (forIn l (((#[] : Array Nat), free).fst.push a, a + sub.length) (StrLaws.occBody s sub hi 1)).run.fst.toList = _
      rw [this]
      rfl
    · have c2 : ¬ (((((#[] : Array Nat), free).fst.size < 1 ∧ ((#[] : Array Nat), free).snd ≤ a) ∧ a + sub.length ≤ hi) ∧ Builtin.Str.subAt s sub a = true) := fun h => hc ((hP a).mp ⟨h.1.2, h.2⟩)
      rw [if_neg c2, List.find?_cons_of_neg hc]
      exact occ_first s sub hi P hP l free (fun i hi' => hf i (List.mem_cons_of_mem _ hi'))
theorem find_congr {α : Type} {p q : α → Bool} : ∀ {l : List α}, (∀ a ∈ l, p a = q a) → l.find? p = l.find? q
  | [], _ => rfl
  | a :: l, h => by
    rw [List.find?_cons, List.find?_cons, h a (List.mem_cons_self ..), find_congr fun b hb => h b (List.mem_cons_of_mem _ hb)]
theorem firstAt_occ (y x : List Nat) : Builtin.Str.occurrences ⟨x.toArray⟩ ⟨y.toArray⟩ 0 (⟨x.toArray⟩ : Str).length 1 = (firstAt y x).toList := by
  have h := occ_first ⟨x.toArray⟩ ⟨y.toArray⟩ (⟨x.toArray⟩ : Str).length (fun i => decide (i < x.length + 1) && decide ((x.drop i).take y.length = y))
    (fun i => by rw [at_iff_cut]; simp) (List.range' 0 ((⟨x.toArray⟩ : Str).length + 1 - 0)) 0 (fun _ _ => Nat.zero_le _)
  rw [StrLaws.occ_eq, h, str_len]
  have e : List.range' 0 (x.length + 1 - 0) = List.range (x.length + 1) := by rw [List.range_eq_range']; rfl
  rw [e]
  unfold firstAt
  refine congrArg Option.toList (find_congr fun i hi => ?_)
  rw [decide_eq_true (List.mem_range.mp hi)]
  rfl
theorem pr_sindex (h : PR K .sindex [x, y] H Q) : ∃ a b i rest, x = .str a ∧ y = .str b ∧ Builtin.Str.occurrences a b 0 a.length 1 = i :: rest ∧ Q (.int (i : Nat)) H := by
  obtain ⟨a, b, cs, d, e, ha, hb, s, q⟩ := h.two
  cases a <;> cases b <;> simp [prim] at e
  obtain ⟨k, e1, rfl⟩ := e
  obtain ⟨rfl, _⟩ := s.str_of ha
  obtain ⟨rfl, _⟩ := s.str_of hb
  refine ⟨_, _, k, [], rfl, rfl, ?_, q _ _ s.int⟩
  rw [firstAt_occ, e1]
  rfl
theorem cnt_countP (c : Nat) : ∀ l : List Nat, PyProof.Rows.cnt c l = ((l.countP fun z => decide (z = c) : Nat) : Int)
  | [] => rfl
  | x :: l => by
    rw [PyProof.Rows.cnt_cons, cnt_countP c l, List.countP_cons]
    by_cases h : x = c <;> simp [h] <;> omega
theorem pr_scount (h : PR K .scount [x, y] H Q) : ∃ a b, x = .str a ∧ y = .str b ∧ Q (.int (Txt.count a b)) H := by
  obtain ⟨a, b, cs, d, e, ha, hb, s, q⟩ := h.two
  cases a with
  | str a =>
    cases b with
    | str b =>
      have e : countD a b = some d := e
      obtain ⟨rfl, _⟩ := s.str_of ha
      obtain ⟨rfl, _⟩ := s.str_of hb
      match b, e with
      | [c], e =>
        cases e
        refine ⟨_, _, rfl, rfl, ?_⟩
        have e2 : Txt.count ⟨a.toArray⟩ ⟨[c].toArray⟩ = ((a.countP fun z => decide (z = c) : Nat) : Int) := by
          rw [show (⟨[c].toArray⟩ : Str) = ⟨#[c]⟩ from rfl, PyProof.Rows.count_cnt, cnt_countP]
        rw [e2]
        exact q _ _ s.int
      | [], e => cases e
      | _ :: _ :: _, e => cases e
    | _ => simp [prim, prim2] at e
  | _ => simp [prim, prim2] at e
theorem join_eq (a : List Nat) : ∀ ys : List (List Nat), Txt.join ⟨a.toArray⟩ (ys.map fun l => (⟨l.toArray⟩ : Str)) = ⟨(joinS a ys).toArray⟩ := by
  intro ys
  show Builtin.Str.glued _ _ = _
  rw [StrLaws.glued_eq_join]
  induction ys with
  | nil => rfl
  | cons x r ih =>
    cases r with
    | nil => rfl
    | cons y r =>
      show (⟨x.toArray⟩ : Str) ++ ⟨a.toArray⟩ ++ Str.join ⟨a.toArray⟩ ((y :: r).map fun l => (⟨l.toArray⟩ : Str)) = _
      rw [ih, str_app, str_app]
      rfl
theorem joinS_good {a : List Nat} (ga : strGood a) : ∀ {ys : List (List Nat)}, (∀ y ∈ ys, strGood y) → ∀ c ∈ joinS a ys, c < 0x110000
  | [], _, c, h => by simp [joinS] at h
  | [x], g, c, h => (g x (by simp)).2 c h
  | x :: y :: r, g, c, h => by
    simp only [joinS, List.mem_append] at h
    rcases h with (h | h) | h
    · exact (g x (by simp)).2 c h
    · exact ga.2 c h
    · exact joinS_good ga (fun z hz => g z (List.mem_cons_of_mem _ hz)) c h
theorem joinS_len (a : List Nat) : ∀ ys : List (List Nat), (joinS a ys).length ≤ (ys.map List.length).sum + ys.length * a.length
  | [] => by simp [joinS]
  | [x] => by simp [joinS]
  | x :: y :: r => by
    have ih := joinS_len a (y :: r)
    simp only [joinS, List.length_append, List.map_cons, List.sum_cons, List.length_cons] at ih ⊢
    have e : (r.length + 1 + 1) * a.length = (r.length + 1) * a.length + a.length := by rw [Nat.add_mul]; omega
    omega
theorem pr_join (h : PR K .join [x, y] H Q) : ∃ a p, ∃ ys : List Str, x = .str a ∧ y = .ref p ∧ (SqL K H p (ys.map V.str) ∨ SqT K H p (ys.map V.str)) ∧ (ys.map (·.length)).sum + ys.length * a.length ≤ 16777216 ∧ Q (.str (Txt.join a ys)) H := by
  obtain ⟨a, b, cs, d, e, ha, hb, s, q⟩ := h.two
  cases a <;> cases b <;> simp [prim] at e
  rename_i l o ds
  obtain ⟨ys, e1, e⟩ := Option.bind_eq_some_iff.mp e
  by_cases e2 : (ys.map List.length).sum + ys.length * l.length ≤ 16777216
  case neg => rw [if_neg e2] at e; cases e
  rw [if_pos e2] at e
  cases e
  have := asStrs_eq e1
  subst this
  obtain ⟨rfl, g⟩ := s.str_of ha
  obtain ⟨⟨p, rfl, h1⟩, gy⟩ := s.strs hb
  refine ⟨⟨l.toArray⟩, p, ys.map fun l => ⟨l.toArray⟩, rfl, rfl, .inl (.inl (.inl (by rw [List.map_map]; exact h1))), ?_, ?_⟩
  · rw [List.map_map, List.length_map, str_len]
    have e : ((fun x : Str => x.length) ∘ fun l : List Nat => (⟨l.toArray⟩ : Str)) = List.length := funext fun l => str_len l
    rw [e]
    exact e2
  · rw [join_eq]
    exact q _ _ (s.str ⟨Nat.le_trans (joinS_len l ys) e2, joinS_good g gy⟩)
theorem any_toPy {a : D} {n m : Nat} : ∀ {ds : List D}, shal n a = true → shalL m ds = true → ((toPyL ds).any fun z => PyData.eqv z (toPy a)) = ds.any fun z => deqv z a
  | [], _, _ => rfl
  | d :: ds, h, f => by
    simp only [shalL, Bool.and_eq_true] at f
    simp only [toPyL, List.any_cons]
    rw [eqv_toPy (max n m) d a (shal_mono (Nat.le_max_right n m) f.1) (shal_mono (Nat.le_max_left n m) h), any_toPy h f.2]
/-- membership -/
theorem pr_inn (h : PR K .inn [x, y] H Q) : (∃ i j, x = .str i ∧ y = .str j ∧ Q (.bl (!(Builtin.Str.occurrences j i 0 j.length 1).isEmpty)) H) ∨ rInD K x y H Q := by
  obtain ⟨a, b, cs, d, e, ha, hb, s, q⟩ := h.two
  cases b with
  | str l =>
    cases a <;> simp [prim] at e
    subst e
    obtain ⟨rfl, _⟩ := s.str_of ha
    obtain ⟨rfl, _⟩ := s.str_of hb
    exact .inl ⟨_, _, rfl, rfl, by rw [isPart_occ]; exact q _ _ s.bl⟩
  | lst o ds =>
    have e : (if (shal 8 a && shalL 7 ds) = true then some (.bl (ds.any fun z => deqv z a)) else none) = some d := by
      cases a <;> exact e
    by_cases f : (shal 8 a && shalL 7 ds) = true
    case neg => rw [if_neg f] at e; cases e
    rw [if_pos f] at e
    cases e
    simp only [Bool.and_eq_true] at f
    obtain ⟨p1, p2⟩ := s.shaped ha f.1 (by decide)
    obtain ⟨q1, q2⟩ := s.shaped (n := 8) hb (by simpa [shal] using f.2) (by decide)
    refine .inr ⟨_, toPyL ds, p1, by simpa [toPy] using q1, p2, by simpa [toPy] using q2, ?_⟩
    have : ((toPyL ds).any fun z => PyData.eqv z (toPy a)) = ds.any fun z => deqv z a := any_toPy f.1 f.2
    rw [this]
    exact q _ _ s.bl
  | _ => cases a <;> simp [prim] at e
theorem pr_nin (h : PR K .nin [x, y] H Q) : (∃ i j, x = .str i ∧ y = .str j ∧ Q (.bl (!(!(Builtin.Str.occurrences j i 0 j.length 1).isEmpty))) H) ∨ rNotInD K x y H Q := by
  obtain ⟨a, b, cs, d, e, ha, hb, s, q⟩ := h.two
  cases b with
  | str l =>
    cases a <;> simp [prim] at e
    subst e
    obtain ⟨rfl, _⟩ := s.str_of ha
    obtain ⟨rfl, _⟩ := s.str_of hb
    exact .inl ⟨_, _, rfl, rfl, by rw [isPart_occ]; exact q _ _ s.bl⟩
  | lst o ds =>
    have e : (if (shal 8 a && shalL 7 ds) = true then some (.bl (!ds.any fun z => deqv z a)) else none) = some d := by
      cases a <;> exact e
    by_cases f : (shal 8 a && shalL 7 ds) = true
    case neg => rw [if_neg f] at e; cases e
    rw [if_pos f] at e
    cases e
    simp only [Bool.and_eq_true] at f
    obtain ⟨p1, p2⟩ := s.shaped ha f.1 (by decide)
    obtain ⟨q1, q2⟩ := s.shaped (n := 8) hb (by simpa [shal] using f.2) (by decide)
    refine .inr ⟨_, toPyL ds, p1, by simpa [toPy] using q1, p2, by simpa [toPy] using q2, ?_⟩
    have : ((toPyL ds).any fun z => PyData.eqv z (toPy a)) = ds.any fun z => deqv z a := any_toPy f.1 f.2
    rw [this]
    exact q _ _ s.bl
  | _ => cases a <;> simp [prim] at e
/-- isinstance -/
def Ki.nm : Ki → String
  | .int => "int" | .bool => "bool" | .str => "str" | .list => "list" | .tuple => "tuple" | .dict => "dict"
theorem kit_non (k : Ki) : kitB "NoneType" k.nm = some (k.has .non) := by cases k <;> decide +kernel
theorem kit_bl (k : Ki) : kitB "bool" k.nm = some (k.has (.bl true)) := by cases k <;> decide +kernel
theorem kit_int (k : Ki) : kitB "int" k.nm = some (k.has (.int 0)) := by cases k <;> decide +kernel
theorem kit_str (k : Ki) : kitB "str" k.nm = some (k.has (.str [])) := by cases k <;> decide +kernel
theorem kit_tup (k : Ki) : kitB "tuple" k.nm = some (k.has (.tup [])) := by cases k <;> decide +kernel
theorem kit_lst (k : Ki) : kitB "list" k.nm = some (k.has (.lst true [])) := by cases k <;> decide +kernel
theorem kit_dct (k : Ki) : kitB "dict" k.nm = some (k.has (.dct true [] [])) := by cases k <;> decide +kernel
theorem pr_isI {k : Ki} (h : PR K (.isI k) [x] H Q) : rIsi K [x, .ty k.nm] H Q := by
  obtain ⟨a, cs, d, e, ha, s, q⟩ := h.one
  obtain ⟨T, o, r⟩ := s.rep ha
  have e : d = .bl (k.has a) ∧ ∀ ns, a ≠ .scr ns := by
    cases a <;> first | exact ⟨(Option.some.inj e).symm, fun _ z => nomatch z⟩ | (simp [prim] at e; done)
  obtain ⟨rfl, ns⟩ := e
  have fin : ∀ {t : String}, TyX K H x (.type t) → kitB t k.nm = some (k.has a) → rIsi K [x, .ty k.nm] H Q := fun {t} ty e => ⟨x, .ty k.nm, .type t, .type k.nm, k.has a, rfl, .ty _, ty, kit_ty e, q _ _ s.bl⟩
  cases r with
  | non => exact fin (t := "NoneType") (.base .non) (kit_non k)
  | bl => exact fin (t := "bool") (.base (.bl _)) ((kit_bl k).trans (by cases k <;> rfl))
  | int => exact fin (t := "int") (.base (.int _)) ((kit_int k).trans (by cases k <;> rfl))
  | str g => exact fin (t := "str") (.base (.str _)) ((kit_str k).trans (by cases k <;> rfl))
  | tup hS rr =>
    rcases hS with (hS | ⟨ob, hS⟩) | ⟨ob, its, n, e1, e2, e3, _, e4⟩
    · exact fin (t := "tuple") (.base (.tup hS)) ((kit_tup k).trans (by cases k <;> rfl))
    · exact fin (t := "tuple") (.fTuple hS) ((kit_tup k).trans (by cases k <;> rfl))
    · exact fin (t := "tuple") (.kTuple e1 e2) ((kit_tup k).trans (by cases k <;> rfl))
  | own hS rr => exact fin (t := "list") (.base (.lst hS)) ((kit_lst k).trans (by cases k <;> rfl))
  | frz hS _ rr => exact fin (t := "list") (.base (.lst hS)) ((kit_lst k).trans (by cases k <;> rfl))
  | dwn hS _ rr => exact fin (t := "dict") (.base (.dK hS)) ((kit_dct k).trans (by cases k <;> rfl))
  | dfz hS _ _ rr => exact fin (t := "dict") (.base (.dK hS)) ((kit_dct k).trans (by cases k <;> rfl))
  | scr hS => exact absurd rfl (ns _)
end
end VL

/-! VL7: dicts; calls, displays, subscripts as expressions. -/
namespace VL
open PySem PySem.Spec PyProof.Rows L2

section
variable {K : PySem.W.Frag} {H : Hp} {Q : VK} {x y z : V} {p : Prim} {cs c : List Cell} {h : List Addr}
/-! ### dicts -/
theorem Sat.newD {a : Addr} (s : Sat K H h c) (hp : H a = none) : Sat K (upd H a (.dK [])) h ((.ref a, .dct true [] []) :: c) := by
  obtain ⟨os, r, n, k⟩ := s
  have own : ∀ b ∈ h ++ os, Own H b := fun b hb => by
    rcases List.mem_append.mp hb with z | z
    · exact k b z
    · exact RepL.own_of r b z
  have hnp : a ∉ h ++ os := fun z => (own a z).ne hp
  have pp : (h ++ (a :: os)).Perm (a :: (h ++ os)) := List.perm_middle
  have hE : ∀ b o, H b = some o → b ∉ ([] : List Addr) → (upd H a (.dK [])) b = some o := fun b o q _ => by
    rw [upd_ne (ne_of_none q hp)]; exact q
  have hW : ∀ b ∈ ([] : List Addr), b ∈ h ++ os ∧ Own H b := fun b hb => absurd hb (by simp)
  have hT : ∀ b ∈ h ++ (a :: os), b ∈ h ++ os ∨ H b = none := fun b hb => by
    rcases List.mem_cons.mp (pp.mem_iff.mp hb) with z | z
    · subst z; exact .inr hp
    · exact .inl z
  refine ⟨a :: os, .cons (os := [a]) (.dwn (kvs := []) upd_same rfl .nil) (RepL.tr hE hW hT r fun b hb => by simp), pp.nodup_iff.mpr (List.nodup_cons.mpr ⟨hnp, n⟩), fun b hb => ?_⟩
  have q := k b hb
  have nb : b ≠ a := fun z => q.ne (z ▸ hp)
  unfold Own
  rw [upd_ne nb]
  exact q
theorem Sat.dct_of {v : V} {o : Bool} {ks : List Key} {ds : List D} (s : Sat K H h c) (k : Has K H h c v (.dct o ks ds)) : ∃ a kvs, v = .ref a ∧ H a = some (.dK kvs) ∧ kvs.map (·.1) = ks ∧ kvs.length = ds.length ∧
    ∀ (i : Nat) (d : D), ds[i]? = some d → ∃ w, (kvs.map (·.2))[i]? = some w ∧ Has K H h c w d := by
  obtain ⟨T, os, r⟩ := s.rep k
  have main : ∀ {a : Addr} {kvs : List (Key × V)}, v = .ref a → H a = some (.dK kvs) → kvs.map (·.1) = ks → kvs.length = ds.length → ∃ a kvs, v = .ref a ∧ H a = some (.dK kvs) ∧ kvs.map (·.1) = ks ∧ kvs.length = ds.length ∧
      ∀ (i : Nat) (d : D), ds[i]? = some d → ∃ w, (kvs.map (·.2))[i]? = some w ∧ Has K H h c w d := by
    intro a kvs e hv hk hl
    subst e
    refine ⟨a, kvs, rfl, hv, hk, hl, fun i d hd => ?_⟩
    have hi : i < (kvs.map (·.2)).length := by rw [List.length_map, hl]; exact (List.getElem?_eq_some_iff.mp hd).1
    refine ⟨(kvs.map (·.2))[i], List.getElem?_eq_getElem hi, fun os r n => ?_⟩
    obtain ⟨o2, q, z⟩ := k os r n
    cases q with
    | dwn hS _ rr =>
      rw [hv] at hS; cases hS
      obtain ⟨w, o3, e1, q1, q2⟩ := rr.get hd
      rw [List.getElem?_eq_getElem hi] at e1; cases e1
      exact ⟨o3, q1, fun a ha => z a (List.mem_cons_of_mem _ (q2 a ha))⟩
    | dfz hS _ _ rr =>
      rw [hv] at hS; cases hS
      obtain ⟨w, o3, e1, q1, q2⟩ := rr.get hd
      rw [List.getElem?_eq_getElem hi] at e1; cases e1
      exact ⟨o3, q1, fun a ha => absurd (q2 a ha) (by simp)⟩
  cases r with
  | dwn hS e rr => exact main rfl hS e (by have := rr.len; simpa using this)
  | dfz hS _ e rr => exact main rfl hS e (by have := rr.len; simpa using this)
theorem Sat.key_of {v : V} {d : D} {k : Key} (s : Sat K H [] cs) (ha : Has K H [] cs v d) (e : keyOf d = some k) : v = kV k := by
  cases d <;> simp [keyOf] at e
  · subst e; exact s.int_of ha
  · subst e; exact (s.str_of ha).1
theorem look_val {k : Key} : ∀ {kvs : List (Key × V)} {ds : List D} {d : D}, kvs.length = ds.length → lookKV k (kvs.map (·.1)) ds = some d → ∃ i : Nat, ds[i]? = some d ∧ valV kvs k = (kvs.map (·.2))[i]?
  | [], _, d, _, h => by simp [lookKV] at h
  | _ :: _, [], d, l, h => by simp at l
  | q :: kvs, d' :: ds, d, l, h => by
    simp only [List.map_cons, lookKV] at h
    by_cases e : q.1 = k
    · rw [if_pos e] at h
      cases h
      exact ⟨0, rfl, by rw [valV_pos e]; rfl⟩
    · rw [if_neg e] at h
      obtain ⟨i, h1, h2⟩ := look_val (kvs := kvs) (by simpa using l) h
      exact ⟨i + 1, by simpa using h1, by rw [valV_neg e, h2]; simp⟩
theorem any_keys {k : Key} (kvs : List (Key × V)) : ((kvs.map (·.1)).any fun k' => decide (k' = k)) = (valV kvs k).isSome := by
  rw [← valV_any, List.any_map]; rfl
theorem pr_dget (h : PR K .dget [x, y] H Q) : ∃ a v, x = .ref a ∧ DGet H a y (some v) ∧ Q v H := by
  obtain ⟨a, b, cs, d, e, ha, hb, s, q⟩ := h.two
  cases a <;> simp [prim] at e
  rename_i o ks ds
  obtain ⟨k, e1, e⟩ := Option.bind_eq_some_iff.mp e
  obtain ⟨d', e2, e⟩ := Option.bind_eq_some_iff.mp e
  by_cases f : d'.isF = true
  case neg => rw [if_neg f] at e; cases e
  rw [if_pos f] at e
  cases e
  obtain ⟨a, kvs, rfl, h1, rfl, l1, k1⟩ := s.dct_of ha
  have := s.key_of hb e1
  subst this
  obtain ⟨i, e3, e4⟩ := look_val l1 e2
  obtain ⟨w, e5, e6⟩ := k1 i _ e3
  refine ⟨a, w, rfl, ?_, q _ _ (s.addH e6 f)⟩
  have g := DGet.k (k := k) h1
  rw [e4, e5] at g
  exact g
theorem pr_din (h : PR K .din [y, x] H Q) : ∃ a o, x = .ref a ∧ DGet H a y o ∧ Q (.bl o.isSome) H := by
  obtain ⟨b, a, cs, d, e, hb, ha, s, q⟩ := h.two
  cases a <;> simp [prim] at e
  rename_i o ks ds
  obtain ⟨k, e1, rfl⟩ := e
  obtain ⟨a, kvs, rfl, h1, rfl, l1, k1⟩ := s.dct_of ha
  have := s.key_of hb e1
  subst this
  refine ⟨a, _, rfl, DGet.k (k := k) h1, ?_⟩
  rw [← any_keys]
  exact q _ _ s.bl
theorem pr_dnin (h : PR K .dnin [y, x] H Q) : ∃ a o, x = .ref a ∧ DGet H a y o ∧ Q (.bl (!o.isSome)) H := by
  obtain ⟨b, a, cs, d, e, hb, ha, s, q⟩ := h.two
  cases a <;> simp [prim] at e
  rename_i o ks ds
  obtain ⟨k, e1, rfl⟩ := e
  obtain ⟨a, kvs, rfl, h1, rfl, l1, k1⟩ := s.dct_of ha
  have := s.key_of hb e1
  subst this
  refine ⟨a, _, rfl, DGet.k (k := k) h1, ?_⟩
  rw [← any_keys]
  exact q _ _ s.bl
/-- d[k] = v, v frozen -/
theorem RepL.put {T : List Addr} {k : Key} {v : V} {d : D} (r : Rep K H T v d []) : ∀ {kvs : List (Key × V)} {ds : List D} {os : List Addr}, RepL K H T (kvs.map (·.2)) ds os →
    ∃ os', RepL K H T ((kvs.map fun kv => if kv.1 = k then (kv.1, v) else kv).map (·.2)) (List.zipWith (fun k' x => if k' = k then d else x) (kvs.map (·.1)) ds) os' ∧ os'.Sublist os
  | [], [], _, .nil => ⟨[], .nil, .refl _⟩
  | q :: kvs, d' :: ds, _, .cons (os := o1) (ps := o2) r1 t => by
    obtain ⟨os', t', sb⟩ := RepL.put (kvs := kvs) r t
    by_cases e : q.1 = k
    · refine ⟨[] ++ os', ?_, sb.trans (List.sublist_append_right _ _)⟩
      simp only [List.map_cons, List.zipWith_cons_cons, if_pos e]
      exact .cons r t'
    · refine ⟨o1 ++ os', ?_, (List.Sublist.refl _).append sb⟩
      simp only [List.map_cons, List.zipWith_cons_cons, if_neg e]
      exact .cons r1 t'
theorem Sat.dput {v w : V} {k : Key} {d : D} {ks : List Key} {ds : List D} (s : Sat K H h ((w, d) :: (v, .dct true ks ds) :: c)) (f : d.isF = true) : ∃ a kvs, v = .ref a ∧ H a = some (.dK kvs) ∧ kvs.map (·.1) = ks ∧
    Sat K (upd H a (.dK (putK kvs k w))) h ((v, .dct true (putKV k d ks ds).1 (putKV k d ks ds).2) :: c) := by
  obtain ⟨_, _ | ⟨rw', _ | ⟨rd, t⟩⟩, n, q⟩ := s
  rename_i ow od oc
  have eo := rw'.isF_nil f
  subst eo
  cases rd with
  | dwn hS e rr =>
    rename_i a kvs os
    refine ⟨a, kvs, rfl, hS, e, ?_⟩
    -- the new items
    have key : ∃ os', RepL K H (h ++ ([] ++ (a :: os ++ oc))) ((putK kvs k w).map (·.2)) (putKV k d ks ds).2 os' ∧ os'.Sublist os ∧ (putK kvs k w).map (·.1) = (putKV k d ks ds).1 := by
      unfold putK putKV
      have ea : (kvs.any fun kv => decide (kv.1 = k)) = (ks.any fun k' => decide (k' = k)) := by rw [← e, List.any_map]; rfl
      rw [ea]
      by_cases hk : (ks.any fun k' => decide (k' = k)) = true
      · rw [if_pos hk, if_pos hk]
        obtain ⟨os', r', sb⟩ := RepL.put (k := k) rw' rr
        refine ⟨os', by rw [← e]; exact r', sb, ?_⟩
        show (List.map _ _).map _ = ks
        rw [List.map_map, ← e]
        refine List.map_congr_left fun kv _ => ?_
        show (if kv.1 = k then (kv.1, w) else kv).1 = kv.1
        split <;> rfl
      · rw [if_neg hk, if_neg hk]
        refine ⟨os ++ ([] ++ []), ?_, by simp, by rw [List.map_append, e]; rfl⟩
        rw [List.map_append]
        exact rr.append (.cons rw' .nil)
    obtain ⟨os', r', sb, ek⟩ := key
    have n0 : (h ++ (a :: os ++ oc)).Nodup := n
    have pp : (h ++ (a :: os ++ oc)).Perm (a :: (h ++ (os ++ oc))) := List.perm_middle
    have hna : a ∉ h ++ (os ++ oc) := (List.nodup_cons.mp (pp.nodup_iff.mp n0)).1
    have hE : ∀ b o, H b = some o → b ∉ [a] → (upd H a (.dK (putK kvs k w))) b = some o := fun b o z hb => by
      rw [upd_ne (by simpa using hb)]; exact z
    have hW : ∀ b ∈ [a], b ∈ h ++ ([] ++ (a :: os ++ oc)) ∧ Own H b := fun b hb => by
      have : b = a := by simpa using hb
      subst this
      exact ⟨by simp, .inr ⟨_, hS⟩⟩
    have hT : ∀ b ∈ h ++ (a :: os' ++ oc), b ∈ h ++ ([] ++ (a :: os ++ oc)) ∨ H b = none := fun b hb => .inl (by
      simp only [List.mem_append, List.mem_cons, List.nil_append] at hb ⊢
      rcases hb with z | (z | z) | z
      · exact .inl z
      · exact .inr (.inl (.inl z))
      · exact .inr (.inl (.inr (sb.mem z)))
      · exact .inr (.inr z))
    refine ⟨a :: os' ++ oc, .cons (.dwn upd_same ek (RepL.tr hE hW hT r' fun b hb z => ?_)) (RepL.tr hE hW hT t fun b hb z => ?_), ?_, fun b hb => ?_⟩
    · have : b = a := by simpa using z
      exact hna (by rw [← this]; simp [sb.mem hb])
    · have : b = a := by simpa using z
      exact hna (by rw [← this]; simp [hb])
    · exact n0.sublist (List.Sublist.append_left (List.Sublist.append_right (List.Sublist.cons_cons a sb) oc) h)
    · have nb : b ≠ a := fun z => hna (by rw [← z]; simp [hb])
      have qq := q b hb
      unfold Own
      rw [upd_ne nb]
      exact qq
end
end VL

/-! VL8: calls, subscripts, displays, methods as expressions. -/
namespace VL
open PySem PySem.Spec PyProof.Rows L2

section
variable {X : Cx} {C : Ctx} {G : Calls} {a b c e : Expr} {es : List Expr} {xa xb xc : Ex} {xs : Exs} {p : Prim} {pos pn : Pos} {x : Str} {id T : String}
/-! ### built-in functions and types -/
theorem se_callB {r : List V → Hp → VK → Prop} (hc : CallR X (.builtin id) r) (hr : ∀ {vs H Q}, PR X.K p vs H Q → r vs H Q) (hg : Gl X x) (hm : X.mg x = none) (hv : bootBuiltins x = some (.builtin id)) (ha : PA X (e :: es) (taO X.K C G xs))
    (hn : x ≠ "__name__") (hd : (x == ("__debug__" : Str)) = false) (he : starEach (e :: es) X.env = (false, eval e X.env) :: starEach es X.env) (hpl : (backTo pos (starEach es X.env)).any (·.1) = false) :
    PE X (.Call (.Name x pn) (e :: es) [] pos) (tE X.K C G (.prm p xs)) :=
  PE.imp (pe_callB hc hg hm hv ha hn hd he hpl) fun _ _ _ h => taO_mono (tE_prm h) fun _ _ q => hr q
theorem se_callTy {r : List V → Hp → VK → Prop} (hc : CallR X (.type T) r) (hr : ∀ {vs H Q}, PR X.K p vs H Q → r vs H Q) (hg : Gl X x) (hm : X.mg x = none) (hv : bootBuiltins x = some (.type T)) (ha : PA X (e :: es) (taO X.K C G xs))
    (hn : x ≠ "__name__") (hd : (x == ("__debug__" : Str)) = false) (he : starEach (e :: es) X.env = (false, eval e X.env) :: starEach es X.env) (hpl : (backTo pos (starEach es X.env)).any (·.1) = false) :
    PE X (.Call (.Name x pn) (e :: es) [] pos) (tE X.K C G (.prm p xs)) :=
  PE.imp (pe_callTy hc hg hm hv ha hn hd he hpl) fun _ _ _ h => taO_mono (tE_prm h) fun _ _ q => hr q
/-- a rule of a built-in that is served -/
structure BltOk (X : Cx) (f : Value) (p : Prim) : Prop where
  ex : ∃ r : List V → Hp → VK → Prop, CallR X f r ∧ ∀ {vs H Q}, PR X.K p vs H Q → r vs H Q
theorem blt_len : BltOk X (.builtin "len") .len := ⟨_, call_len_seq.or call_len_str, fun h => pr_len h⟩
theorem blt_abs : BltOk X (.builtin "abs") .abs := ⟨_, call_abs, fun h => pr_abs h⟩
theorem blt_int : BltOk X (.type "int") .toInt := ⟨_, call_int1, fun h => pr_toInt h⟩
theorem blt_list : BltOk X (.type "list") .toList := ⟨_, call_list_of, fun h => pr_toList h⟩
theorem blt_sum (hc : X.calm = true) : BltOk X (.builtin "sum") .sum := ⟨_, cr_sum hc, fun h => pr_sum h⟩
theorem blt_all (hc : X.calm = true) : BltOk X (.builtin "all") .all := ⟨_, cr_all hc, fun h => pr_all h⟩
theorem blt_any (hc : X.calm = true) : BltOk X (.builtin "any") .any := ⟨_, cr_any hc, fun h => pr_any h⟩
theorem blt_min2 (hc : X.calm = true) : BltOk X (.builtin "min") .min2 := ⟨_, call_min2 hc, fun h => pr_min2 h⟩
theorem blt_max2 (hc : X.calm = true) : BltOk X (.builtin "max") .max2 := ⟨_, call_max2 hc, fun h => pr_max2 h⟩
theorem se_callBK (k : BltOk X (.builtin id) p) (hg : Gl X x) (hm : X.mg x = none) (hv : bootBuiltins x = some (.builtin id)) (ha : PA X (e :: es) (taO X.K C G xs))
    (hn : x ≠ "__name__") (hd : (x == ("__debug__" : Str)) = false) (he : starEach (e :: es) X.env = (false, eval e X.env) :: starEach es X.env) (hpl : (backTo pos (starEach es X.env)).any (·.1) = false) :
    PE X (.Call (.Name x pn) (e :: es) [] pos) (tE X.K C G (.prm p xs)) := by
  obtain ⟨r, hc, hr⟩ := k.ex
  exact se_callB hc hr hg hm hv ha hn hd he hpl
theorem se_callTyK (k : BltOk X (.type T) p) (hg : Gl X x) (hm : X.mg x = none) (hv : bootBuiltins x = some (.type T)) (ha : PA X (e :: es) (taO X.K C G xs))
    (hn : x ≠ "__name__") (hd : (x == ("__debug__" : Str)) = false) (he : starEach (e :: es) X.env = (false, eval e X.env) :: starEach es X.env) (hpl : (backTo pos (starEach es X.env)).any (·.1) = false) :
    PE X (.Call (.Name x pn) (e :: es) [] pos) (tE X.K C G (.prm p xs)) := by
  obtain ⟨r, hc, hr⟩ := k.ex
  exact se_callTy hc hr hg hm hv ha hn hd he hpl
/-- isinstance(a, T) -/
theorem se_isI {k : Ki} {y : Str} {py : Pos} (hg : Gl X x) (hm : X.mg x = none) (hv : bootBuiltins x = some (.builtin "isinstance")) (ha : PE X a (tO X.K C G xa)) (hgy : Gl X y) (hmy : X.mg y = none) (hvy : bootBuiltins y = some (.type k.nm))
    (hn : x ≠ "__name__") (hd : (x == ("__debug__" : Str)) = false) (hny : y ≠ "__name__") (hdy : (y == ("__debug__" : Str)) = false)
    (he : starEach [a, .Name y py] X.env = (false, eval a X.env) :: starEach [.Name y py] X.env) :
    PE X (.Call (.Name x pn) [a, .Name y py] [] pos) (tE X.K C G (.prm (.isI k) (.cons xa .nil))) :=
  PE.imp (pe_callB call_isi hg hm hv (pa_cons ha (pa_cons (pe_bltn (v := .ty k.nm) hgy hmy hvy rfl hny hdy) pa_nil) he) hn hd he rfl) fun _ _ _ h => tO_mono (tO1 h) fun _ _ q => pr_isI q

/-! ### list(range(..)) -/
theorem rng_map (a b : Int) : (rng2 a b).map V.int = rgV a b := by
  unfold rng2 rgV
  rw [List.map_map]
  rfl
theorem ints_fin {K : PySem.W.Frag} {H : Hp} {Q : VK} {cs : List Cell} {ns : List Int} (s : Sat K H [] cs) (q : ∀ v H', Sat K H' [] ((v, .lst true (ns.map D.int)) :: cs) → Q v H') : ∀ p, H p = none → Q (.ref p) (upd H p (.lst (ns.map V.int))) := by
  refine new_list s (by simp) ?_ (fun i d hd => ?_) q
  · rw [isFL_all, List.all_eq_true]
    intro d hd
    obtain ⟨n, _, rfl⟩ := List.mem_map.mp hd
    rfl
  · rw [List.getElem?_map] at hd
    cases e : ns[i]? with
    | none => rw [e] at hd; cases hd
    | some n =>
      rw [e] at hd
      cases hd
      exact ⟨.int n, by rw [List.getElem?_map, e]; rfl, .int⟩
theorem strs_fin {K : PySem.W.Frag} {H : Hp} {Q : VK} {cs : List Cell} {ns : List (List Nat)} (g : ∀ n ∈ ns, strGood n) (s : Sat K H [] cs) (q : ∀ v H', Sat K H' [] ((v, .lst true (ns.map D.str)) :: cs) → Q v H') : ∀ p, H p = none → Q (.ref p) (upd H p (.lst (ns.map fun l => V.str ⟨l.toArray⟩))) := by
  refine new_list s (by simp) ?_ (fun i d hd => ?_) q
  · rw [isFL_all, List.all_eq_true]
    intro d hd
    obtain ⟨n, _, rfl⟩ := List.mem_map.mp hd
    rfl
  · rw [List.getElem?_map] at hd
    cases e : ns[i]? with
    | none => rw [e] at hd; cases hd
    | some n =>
      rw [e] at hd
      cases hd
      exact ⟨.str ⟨n.toArray⟩, by rw [List.getElem?_map, e]; rfl, .str (g n (List.mem_of_getElem? e))⟩
/-! ### sorted -/
section
variable {α : Type} {le : α → α → Bool}
theorem insS_perm (x : α) : ∀ ys : List α, (insS le x ys).Perm (x :: ys)
  | [] => .refl _
  | y :: ys => by
    show (if le x y = true then x :: y :: ys else y :: insS le x ys).Perm _
    split
    · exact .refl _
    · exact ((insS_perm x ys).cons y).trans (.swap _ _ _)
theorem isort_perm : ∀ xs : List α, (isort le xs).Perm xs
  | [] => .refl _
  | x :: xs => (insS_perm x _).trans ((isort_perm xs).cons x)
theorem insS_pw (ht : ∀ a b c, le a b = true → le b c = true → le a c = true) (hl : ∀ a b, le a b = true ∨ le b a = true) (x : α) : ∀ ys : List α, ys.Pairwise (fun a b => le a b = true) → (insS le x ys).Pairwise (fun a b => le a b = true)
  | [], _ => by simp [insS]
  | y :: ys, h => by
    show (if le x y = true then x :: y :: ys else y :: insS le x ys).Pairwise _
    obtain ⟨h1, h2⟩ := List.pairwise_cons.mp h
    by_cases c : le x y = true
    · rw [if_pos c]
      refine List.pairwise_cons.mpr ⟨fun z hz => ?_, h⟩
      rcases List.mem_cons.mp hz with rfl | hz
      · exact c
      · exact ht _ _ _ c (h1 z hz)
    · rw [if_neg c]
      refine List.pairwise_cons.mpr ⟨fun z hz => ?_, insS_pw ht hl x ys h2⟩
      rcases List.mem_cons.mp ((insS_perm x ys).mem_iff.mp hz) with rfl | hz
      · rcases hl z y with q | q
        · exact absurd q c
        · exact q
      · exact h1 z hz
theorem isort_pw (ht : ∀ a b c, le a b = true → le b c = true → le a c = true) (hl : ∀ a b, le a b = true ∨ le b a = true) : ∀ xs : List α, (isort le xs).Pairwise (fun a b => le a b = true)
  | [] => .nil
  | x :: xs => insS_pw ht hl x _ (isort_pw ht hl xs)
end
theorem ltCps_irr : ∀ x : List Nat, ltCps x x = false
  | [] => rfl
  | a :: x => by simp [ltCps, ltCps_irr x]
theorem ltCps_tri : ∀ x y : List Nat, ltCps x y = true ∨ x = y ∨ ltCps y x = true
  | [], [] => .inr (.inl rfl)
  | [], _ :: _ => .inl rfl
  | _ :: _, [] => .inr (.inr rfl)
  | a :: x, b :: y => by
    rcases Nat.lt_trichotomy a b with h | rfl | h
    · exact .inl (by simp [ltCps, h])
    · rcases ltCps_tri x y with q | rfl | q
      · exact .inl (by simp [ltCps, q])
      · exact .inr (.inl rfl)
      · exact .inr (.inr (by simp [ltCps, q]))
    · exact .inr (.inr (by simp [ltCps, h]))
theorem ltCps_trans : ∀ x y z : List Nat, ltCps x y = true → ltCps y z = true → ltCps x z = true
  | [], [], _, h, _ => by simp [ltCps] at h
  | [], _ :: _, [], _, k => by simp [ltCps] at k
  | [], _ :: _, _ :: _, _, _ => rfl
  | _ :: _, [], _, h, _ => by simp [ltCps] at h
  | _ :: _, _ :: _, [], _, k => by simp [ltCps] at k
  | a :: x, b :: y, c :: z, h, k => by
    simp only [ltCps, Bool.or_eq_true, decide_eq_true_eq, Bool.and_eq_true, beq_iff_eq] at h k ⊢
    rcases h with h | ⟨rfl, h⟩
    · rcases k with k | ⟨rfl, k⟩
      · exact .inl (by omega)
      · exact .inl h
    · rcases k with k | ⟨rfl, k⟩
      · exact .inl k
      · exact .inr ⟨rfl, ltCps_trans x y z h k⟩
theorem leS_trans (a b c : List Nat) (h : (!ltCps b a) = true) (k : (!ltCps c b) = true) : (!ltCps c a) = true := by
  simp only [Bool.not_eq_true'] at h k ⊢
  cases e : ltCps c a with
  | false => rfl
  | true =>
    rcases ltCps_tri a b with q | rfl | q
    · rw [ltCps_trans c a b e q] at k
      cases k
    · rw [e] at k
      cases k
    · rw [q] at h
      cases h
theorem leS_total (a b : List Nat) : (!ltCps b a) = true ∨ (!ltCps a b) = true := by
  cases e : ltCps b a with
  | false => exact .inl rfl
  | true =>
    right
    cases e2 : ltCps a b with
    | false => rfl
    | true =>
      have := ltCps_trans a b a e2 e
      rw [ltCps_irr] at this
      cases this
theorem leS_anti (a b : List Nat) (h : (!ltCps b a) = true) (k : (!ltCps a b) = true) : a = b := by
  simp only [Bool.not_eq_true'] at h k
  rcases ltCps_tri a b with q | q | q
  · rw [q] at k; cases k
  · exact q
  · rw [q] at h; cases h
/-- a list sorted as asked is the one by insertion -/
theorem srtI_of {xs ys : List Int} (p : ys.Perm xs) (h : ys.Pairwise (· ≤ ·)) : ys = srtI xs := by
  refine List.Perm.eq_of_pairwise (le := fun a b => decide (a ≤ b) = true) (fun a b _ _ h k => ?_) (h.imp fun q => decide_eq_true q) (isort_pw (fun a b c h k => ?_) (fun a b => ?_) xs) (p.trans (isort_perm xs).symm)
  · simp only [decide_eq_true_eq] at h k
    omega
  · simp only [decide_eq_true_eq] at h k ⊢
    omega
  · simp only [decide_eq_true_eq]
    omega
theorem rising_pw : ∀ (xs : List (List Nat)) (p : List Nat), PyProof.Rows.risingS ⟨p.toArray⟩ (xs.map fun l => (⟨l.toArray⟩ : Str)) = true → (p :: xs).Pairwise (fun a b => (!ltCps b a) = true)
  | [], p, _ => by simp
  | x :: xs, p, h => by
    have h' : (!ltCps x p) = true ∧ PyProof.Rows.risingS ⟨x.toArray⟩ (xs.map fun l => (⟨l.toArray⟩ : Str)) = true := by
      simpa [PyProof.Rows.risingS] using h
    have ih := rising_pw xs x h'.2
    refine List.pairwise_cons.mpr ⟨fun z hz => ?_, ih⟩
    rcases List.mem_cons.mp hz with rfl | hz
    · exact h'.1
    · exact leS_trans _ _ _ h'.1 ((List.pairwise_cons.mp ih).1 z hz)
theorem srtS_of {xs ys : List (List Nat)} (p : ys.Perm xs) (h : PyProof.Rows.sortedS (ys.map fun l => (⟨l.toArray⟩ : Str)) = true) : ys = srtS xs := by
  refine List.Perm.eq_of_pairwise (le := fun a b => (!ltCps b a) = true) (fun a b _ _ h k => leS_anti a b h k) ?_ (isort_pw leS_trans leS_total xs) (p.trans (isort_perm xs).symm)
  cases ys with
  | nil => exact .nil
  | cons y ys => exact rising_pw ys y h
theorem strs_back : ∀ (ys : List Str) (xs : List (List Nat)), ys.Perm (xs.map fun l => (⟨l.toArray⟩ : Str)) → ∃ zs : List (List Nat), ys = (zs.map fun l => (⟨l.toArray⟩ : Str)) ∧ zs.Perm xs := by
  intro ys xs h
  refine ⟨ys.map fun y => y.cps.toList, ?_, ?_⟩
  · rw [List.map_map]
    have e : ((fun l : List Nat => (⟨l.toArray⟩ : Str)) ∘ fun y : Str => y.cps.toList) = id := by
      funext y
      cases y
      simp
    rw [e, List.map_id]
  · have := h.map fun y : Str => y.cps.toList
    rw [List.map_map] at this
    have e : ((fun y : Str => y.cps.toList) ∘ fun l : List Nat => (⟨l.toArray⟩ : Str)) = id := by
      funext y
      simp
    rw [e, List.map_id] at this
    exact this
theorem pr_sorted {K : PySem.W.Frag} {H : Hp} {Q : VK} {vs : List V} (h : PR K .sorted vs H Q) : rSortedI K vs H Q ∨ rSortedS K vs H Q := by
  obtain ⟨x, rfl⟩ := pr_shape1 h fun ds d e => one_of (by intros; simp [prim, prim2]) (by simp [prim, prim2]) e
  obtain ⟨a, cs, d, e, ha, s, q⟩ := h.one
  cases a with
  | lst o xs =>
    have e : sortD xs = some d := e
    unfold sortD at e
    cases e1 : asInts xs with
    | some ns =>
      rw [e1] at e
      cases e
      have := asInts_eq e1
      subst this
      obtain ⟨a, rfl, h1⟩ := s.ints ha
      refine .inl ⟨a, ns, rfl, .inl (.inl h1), fun ns' p hp hs hn => ?_⟩
      rw [srtI_of hp hs]
      exact ints_fin s (fun v H' s' => q v H' s') p hn
    | none =>
      rw [e1] at e
      cases e2 : asStrs xs with
      | none => rw [e2] at e; cases e
      | some ys =>
        rw [e2] at e
        simp only [Option.bind_some] at e
        by_cases hl : ys.length < 64
        case neg => rw [if_neg hl] at e; cases e
        rw [if_pos hl] at e
        cases e
        have := asStrs_eq e2
        subst this
        obtain ⟨⟨a, rfl, h1⟩, hg⟩ := s.strs ha
        refine .inr ⟨a, ys.map fun l => ⟨l.toArray⟩, rfl, .inl (.inl (by rw [h1, List.map_map]; rfl)), by rw [List.length_map]; exact hl, fun zs p hp hs hn => ?_⟩
        obtain ⟨ws, rfl, hw⟩ := strs_back zs ys hp
        rw [srtS_of hw hs, List.map_map]
        exact strs_fin (fun n hn => hg n ((isort_perm ys).mem_iff.mp hn)) s (fun v H' s' => q v H' s') p hn
  | _ => simp [prim, prim2] at e
theorem foldMax : ∀ (xs : List Int) (x : Int), (xs.foldl (fun a b => if a < b then b else a) x) ∈ x :: xs ∧ ∀ y ∈ x :: xs, y ≤ xs.foldl (fun a b => if a < b then b else a) x
  | [], x => by simp
  | z :: xs, x => by
    rw [List.foldl_cons]
    obtain ⟨h1, h2⟩ := foldMax xs (if x < z then z else x)
    constructor
    · rcases List.mem_cons.mp h1 with h | h
      · rw [h]
        split <;> simp
      · simp [h]
    · intro y hy
      have h3 := h2 _ (List.mem_cons_self ..)
      rcases List.mem_cons.mp hy with rfl | hy
      · refine Int.le_trans ?_ h3
        split <;> omega
      · rcases List.mem_cons.mp hy with rfl | hy
        · refine Int.le_trans ?_ h3
          split <;> omega
        · exact h2 y (List.mem_cons_of_mem _ hy)
theorem foldMin : ∀ (xs : List Int) (x : Int), (xs.foldl (fun a b => if b < a then b else a) x) ∈ x :: xs ∧ ∀ y ∈ x :: xs, xs.foldl (fun a b => if b < a then b else a) x ≤ y
  | [], x => by simp
  | z :: xs, x => by
    rw [List.foldl_cons]
    obtain ⟨h1, h2⟩ := foldMin xs (if z < x then z else x)
    constructor
    · rcases List.mem_cons.mp h1 with h | h
      · rw [h]
        split <;> simp
      · simp [h]
    · intro y hy
      have h3 := h2 _ (List.mem_cons_self ..)
      rcases List.mem_cons.mp hy with rfl | hy
      · refine Int.le_trans h3 ?_
        split <;> omega
      · rcases List.mem_cons.mp hy with rfl | hy
        · refine Int.le_trans h3 ?_
          split <;> omega
        · exact h2 y (List.mem_cons_of_mem _ hy)
theorem maxL_spec {ns : List Int} {m : Int} (h : maxL ns = some m) : m ∈ ns ∧ ∀ y ∈ ns, y ≤ m := by
  cases ns with
  | nil => cases h
  | cons x xs =>
    cases h
    exact foldMax xs x
theorem minL_spec {ns : List Int} {m : Int} (h : minL ns = some m) : m ∈ ns ∧ ∀ y ∈ ns, m ≤ y := by
  cases ns with
  | nil => cases h
  | cons x xs =>
    cases h
    exact foldMin xs x
theorem pr_max1 {K : PySem.W.Frag} {H : Hp} {Q : VK} {vs : List V} (h : PR K .max1 vs H Q) : rMax K vs H Q := by
  obtain ⟨x, rfl⟩ := pr_shape1 h fun ds d e => one_of (by intros; simp [prim, prim2]) (by simp [prim, prim2]) e
  obtain ⟨a, cs, d, e, ha, s, q⟩ := h.one
  cases a with
  | lst o xs =>
    have e : (asInts xs).bind (fun ns => (maxL ns).map D.int) = some d := e
    obtain ⟨ns, e1, e⟩ := Option.bind_eq_some_iff.mp e
    obtain ⟨m, e2, rfl⟩ := Option.map_eq_some_iff.mp e
    have := asInts_eq e1
    subst this
    obtain ⟨a, rfl, h1⟩ := s.ints ha
    obtain ⟨h2, h3⟩ := maxL_spec e2
    refine ⟨a, ns, rfl, .inl (.inl h1), List.length_pos_iff.mpr (fun z => by rw [z] at h2; cases h2), fun k hk hy => ?_⟩
    have : k = m := Int.le_antisymm (h3 k hk) (hy m h2)
    subst this
    exact q _ _ s.int
  | _ => simp [prim, prim2] at e
theorem pr_min1 {K : PySem.W.Frag} {H : Hp} {Q : VK} {vs : List V} (h : PR K .min1 vs H Q) : rMin K vs H Q := by
  obtain ⟨x, rfl⟩ := pr_shape1 h fun ds d e => one_of (by intros; simp [prim, prim2]) (by simp [prim, prim2]) e
  obtain ⟨a, cs, d, e, ha, s, q⟩ := h.one
  cases a with
  | lst o xs =>
    have e : (asInts xs).bind (fun ns => (minL ns).map D.int) = some d := e
    obtain ⟨ns, e1, e⟩ := Option.bind_eq_some_iff.mp e
    obtain ⟨m, e2, rfl⟩ := Option.map_eq_some_iff.mp e
    have := asInts_eq e1
    subst this
    obtain ⟨a, rfl, h1⟩ := s.ints ha
    obtain ⟨h2, h3⟩ := minL_spec e2
    refine ⟨a, ns, rfl, .inl (.inl h1), List.length_pos_iff.mpr (fun z => by rw [z] at h2; cases h2), fun k hk hy => ?_⟩
    have : k = m := Int.le_antisymm (hy m h2) (h3 k hk)
    subst this
    exact q _ _ s.int
  | _ => simp [prim, prim2] at e
theorem blt_max1 (hc : X.calm = true) : BltOk X (.builtin "max") .max1 := ⟨_, cr_max hc, fun h => pr_max1 h⟩
theorem blt_min1 (hc : X.calm = true) : BltOk X (.builtin "min") .min1 := ⟨_, cr_min hc, fun h => pr_min1 h⟩
theorem blt_sorted : BltOk X (.builtin "sorted") .sorted := ⟨_, cr_sortedI.or cr_sortedS, fun h => pr_sorted h⟩
theorem pr_lrng1 {K : PySem.W.Frag} {H : Hp} {Q : VK} {v : V} (h : PR K .lrng1 [v] H Q) : ∃ n, v = .int n ∧ (RgOk 0 n ∧ ∀ q, H q = none → Q (.ref q) (upd H q (.lst (rgV 0 n)))) := by
  obtain ⟨a, cs, d, e, ha, s, q⟩ := h.one
  cases a <;> simp [prim, prim2] at e
  rename_i n
  obtain ⟨⟨e1, e2⟩, rfl⟩ := e
  have e1 := small64_iff.mp e1
  refine ⟨n, s.int_of ha, ⟨by decide, by decide, e1.1, e1.2, by simp; omega⟩, ?_⟩
  rw [← rng_map]
  exact ints_fin s q
theorem pr_lrng2 {K : PySem.W.Frag} {H : Hp} {Q : VK} {v w : V} (h : PR K .lrng2 [v, w] H Q) : ∃ i j, v = .int i ∧ w = .int j ∧ (RgOk i j ∧ ∀ q, H q = none → Q (.ref q) (upd H q (.lst (rgV i j)))) := by
  obtain ⟨a, b, cs, d, e, ha, hb, s, q⟩ := h.two
  cases a <;> cases b <;> simp [prim, prim2] at e
  rename_i i j
  obtain ⟨⟨⟨e1, e2⟩, e3⟩, rfl⟩ := e
  have e1 := small64_iff.mp e1
  have e2 := small64_iff.mp e2
  refine ⟨i, j, s.int_of ha, s.int_of hb, ⟨e1.1, e1.2, e2.1, e2.2, by omega⟩, ?_⟩
  rw [← rng_map]
  exact ints_fin s q
theorem se_lrng1 {pr : Pos} {pl : Pos} (hc : X.calm = true) (hgl : Gl X "list") (hml : X.mg "list" = none) (hgr : Gl X "range") (hmr : X.mg "range" = none) (ha : PE X a (tO X.K C G xa)) (na : starEach [a] X.env = (false, eval a X.env) :: starEach [] X.env) :
    PE X (.Call (.Name "list" pl) [.Call (.Name "range" pr) [a] [] pn] [] pos) (tE X.K C G (.prm .lrng1 (.cons xa .nil))) :=
  PE.imp (pe_listRg hc hgl hml (prg_1 hgr hmr ha na)) fun _ _ _ h => tO_mono (tO1 h) fun _ _ q => pr_lrng1 q
theorem se_lrng2 {pr : Pos} {pl : Pos} (hc : X.calm = true) (hgl : Gl X "list") (hml : X.mg "list" = none) (hgr : Gl X "range") (hmr : X.mg "range" = none) (ha : PE X a (tO X.K C G xa)) (hb : PE X b (tO X.K C G xb))
    (na : starEach [a, b] X.env = (false, eval a X.env) :: starEach [b] X.env) (nb : starEach [b] X.env = (false, eval b X.env) :: starEach [] X.env) (hp : (backTo pn (starEach [b] X.env)).any (·.1) = false) :
    PE X (.Call (.Name "list" pl) [.Call (.Name "range" pr) [a, b] [] pn] [] pos) (tE X.K C G (.prm .lrng2 (.cons xa (.cons xb .nil)))) :=
  PE.imp (pe_listRg hc hgl hml (prg_2 hgr hmr ha hb na nb hp)) fun _ _ _ h => tO_mono (tO2 h) fun _ _ q => tO_mono q fun _ _ q => pr_lrng2 q
/-- list(range(a, b, -1)) -/
def PRg3 (X : Cx) (e : Expr) (t : L2.St → Hp → (Int → Int → Hp → Prop) → Prop) : Prop :=
  ∀ (pins : List (Addr × Obj)) (s : Shared) (σ : L2.St) (H : Hp) (Q : Int → Int → Hp → Prop), Inv X pins σ H s → t σ H Q →
    wpAny (model X.prog X.w) X.A (eval e X.env) (fun x s' => ∃ r a b t u v H', x = .ref r ∧ IsRange s'.heap r a b (-1) t u v ∧ Inv X pins σ H' s' ∧ Q a b H') X.xe s
def tRg3 (ta : TA) : L2.St → Hp → (Int → Int → Hp → Prop) → Prop := fun σ H Q => ta σ H fun vs H1 => ∃ i j, vs = [.int i, .int j, .int (-1)] ∧ Q i j H1
theorem prg_3 {ta : TA} {p : Pos} (hg : Gl X "range") (hm : X.mg "range" = none) (ha : PA X [a, b, c] ta)
    (hs : starEach [a, b, c] X.env = (false, eval a X.env) :: starEach [b, c] X.env) (hpl : (backTo pos (starEach [b, c] X.env)).any (·.1) = false) : PRg3 X (.Call (.Name "range" p) [a, b, c] [] pos) (tRg3 ta) := by
  intro pins s σ H Q I h
  refine Call_ (ld_blt I hg hm boot_range (PyProof.Rows.callWith_type1 (thn (ha.run pos pins s σ H _ I h) fun us s1 ⟨vs, H1, I1, r1, q1⟩ => ?_) hs hpl))
  obtain ⟨i, j, e, q⟩ := q1
  subst e
  cases r1 with
  | cons r rr =>
    cases rr with
    | cons r' rr =>
      cases rr with
      | cons r'' rr =>
        cases rr
        obtain ⟨t, rfl⟩ := r
        obtain ⟨t', rfl⟩ := r'
        obtain ⟨t'', rfl⟩ := r''
        refine call_range_3 (by decide) ?_ (.inl (PyProof.noPylong_small (by decide)))
        exact ⟨_, i, j, _, _, _, H1, rfl, IsRange.new _ _ _ _ _ _ _, I1.kept (t' := s1.toks) fun b u e => Heap.get?_push_of_some _ e, q⟩
def rgD (a b : Int) : List V := (rngD a b).map V.int
theorem vals_rgD {a b : Int} {acc : Array Value} (h : ItemsOf (fun i v => ∃ t, v = .int (a + i * (-1)) t) acc (a - b).toNat) : Vals (rgD a b) acc.toList := by
  have e : acc.toList.length = (a - b).toNat := by rw [Array.length_toList]; exact h.1
  unfold rgD rngD
  rw [← e, List.map_map]
  refine vals_of_get acc.toList _ fun j u hj => ?_
  obtain ⟨t, rfl⟩ := h.2 j u (by rw [← hj, Array.getElem?_toList])
  exact ⟨t, by
    show Value.int (a + (j : Int) * (-1)) t = Value.int (a - (j : Int)) t
    congr 1; omega⟩
theorem pe_listRg3 {te : L2.St → Hp → (Int → Int → Hp → Prop) → Prop} {p : Pos} (hc : X.calm = true) (hg : Gl X "list") (hm : X.mg "list" = none) (he : PRg3 X e te) (na : starEach [e] X.env = (false, eval e X.env) :: starEach [] X.env) :
    PE X (.Call (.Name "list" p) [e] [] pos) (fun σ H Q => te σ H fun a b H1 => (small64 a = true ∧ small64 b = true ∧ (a - b).toNat ≤ 16777216) ∧ ∀ q, H1 q = none → Q (.ref q) (upd H1 q (.lst (rgD a b)))) := by
  refine ⟨fun pins s σ H Q I h => ?_⟩
  refine Call_ (ld_blt I hg hm boot_list (PyProof.Rows.callWith_type1 (args_cons (thn (he pins s σ H _ I h) fun x s1 ⟨r, a, b, t, u, v, H1, ex, hr, I1, ok, q⟩ => args_nil ?_) na) na))
  subst ex
  obtain ⟨b1, b2, b3⟩ := ok
  have b1 := small64_iff.mp b1
  have b2 := small64_iff.mp b2
  refine call_list_range (n := (a - b).toNat) (I1.ok.hd hc) hr (PySem.W.small_down b1.1 b1.2 b2.1 b2.2) (PySem.W.rangeSize_downNat a b) (by omega) fun h' tk acc c' hk e' hi => ?_
  refine ⟨.ref s1.heap.objs.size, upd H1 s1.heap.objs.size (.lst (rgD a b)), I1.laid hk (Nat.le_refl _) (show ObjOk X.prog X.w _ _ _ (.lst (rgD a b)) from ⟨?_, acc.toList, c', vals_rgD hi, ?_⟩), rfl, q _ (I1.hok.fresh (Nat.le_refl _))⟩
  · unfold rgD rngD; rw [List.length_map, List.length_map, List.length_range, sizeLine_eq]; omega
  · rw [Array.toArray_toList]; exact e'
theorem pr_lrng3 {K : PySem.W.Frag} {H : Hp} {Q : VK} {v w u : V} (h : PR K .lrng3 [v, w, u] H Q) : ∃ i j, [v, w, u] = [.int i, .int j, .int (-1)] ∧ ((small64 i = true ∧ small64 j = true ∧ (i - j).toNat ≤ 16777216) ∧ ∀ q, H q = none → Q (.ref q) (upd H q (.lst (rgD i j)))) := by
  obtain ⟨a, b, b', cs, d, e, ha, hb, hb', s, q⟩ := h.three
  cases a <;> cases b <;> cases b' <;> simp [prim, prim2] at e
  rename_i i j k
  obtain ⟨⟨⟨⟨e1, e2⟩, e4⟩, e3⟩, rfl⟩ := e
  subst e4
  exact ⟨i, j, by rw [s.int_of ha, s.int_of hb, s.int_of hb'], ⟨e1, e2, by omega⟩, ints_fin s q⟩
theorem se_lrng3 {pr : Pos} {pl : Pos} (hc : X.calm = true) (hgl : Gl X "list") (hml : X.mg "list" = none) (hgr : Gl X "range") (hmr : X.mg "range" = none) (ha : PA X [a, b, c] (taO X.K C G (.cons xa (.cons xb (.cons xc .nil)))))
    (hs : starEach [a, b, c] X.env = (false, eval a X.env) :: starEach [b, c] X.env) (hpl : (backTo pn (starEach [b, c] X.env)).any (·.1) = false) :
    PE X (.Call (.Name "list" pl) [.Call (.Name "range" pr) [a, b, c] [] pn] [] pos) (tE X.K C G (.prm .lrng3 (.cons xa (.cons xb (.cons xc .nil))))) :=
  PE.imp (pe_listRg3 hc hgl hml (prg_3 hgr hmr ha hs hpl) rfl) fun σ H Q h => tO_mono (tO3 h) fun _ _ q => tO_mono q fun _ _ q => tO_mono q fun _ _ q => pr_lrng3 q

/-! ### subscripts -/
theorem se_idx (ha : PE X a (tO X.K C G xa)) (hb : PE X b (tO X.K C G xb)) (hs : PlainIx b) : PE X (.Subscript a b pos) (tE X.K C G (.prm .idx (.cons xa (.cons xb .nil)))) :=
  PE.imp (pe_ix ix_seq ha hb hs) fun _ _ _ => tOp_of fun h => pr_idx h
theorem tE_ckI {K : PySem.W.Frag} {σ : L2.St} {H : Hp} {Q : VK} (h : tE K C G (.ckI xa) σ H Q) : tE K C G xa σ H fun x H1 => ∃ i, x = .int i ∧ Q (.int i) H1 := by
  obtain ⟨ρ, c, f, s, h⟩ := h
  refine ⟨ρ, c, f, s, (rPost.bind h).mono fun d ρ1 k v H1 f1 s1 => ?_⟩
  cases d with
  | int i =>
    have e := s1.int_of .head
    subst e
    exact ⟨i, rfl, (show ePost K C σ c Q (.int i) ρ1 from k) _ H1 f1 s1⟩
  | _ => exact k.elim
theorem se_slLH {p2 : Pos} (ha : PE X a (tO X.K C G xa)) (hb : PE X b (tE X.K C G xb)) (hc : PE X c (tE X.K C G xc)) : PE X (.Subscript a (.Slice (some b) (some c) none p2) pos) (tE X.K C G (.prm .slLH (.cons xa (.cons (.ckI xb) (.cons (.ckI xc) .nil))))) :=
  PE.imp (pe_slice sl_any ha (po_some hb) (po_some hc)) fun σ H Q h => tO_mono (tO3 h) fun x H1 q => tE_mono (tE_ckI q) fun y H2 ⟨i, e, q⟩ => ⟨i, e, tE_mono (tE_ckI q) fun z H3 ⟨j, e', q⟩ => ⟨j, e', by
    obtain ⟨i', j', e1, e2, q⟩ := pr_slLH q
    cases e1
    cases e2
    exact q⟩⟩
theorem se_slL {p2 : Pos} (ha : PE X a (tO X.K C G xa)) (hb : PE X b (tE X.K C G xb)) : PE X (.Subscript a (.Slice (some b) none none p2) pos) (tE X.K C G (.prm .slL (.cons xa (.cons (.ckI xb) .nil)))) :=
  PE.imp (pe_slice sl_any ha (po_some hb) po_none) fun σ H Q h => tO_mono (tO2 h) fun x H1 q => tE_mono (tE_ckI q) fun y H2 ⟨i, e, q⟩ => ⟨i, e, by
    obtain ⟨i', e1, q⟩ := pr_slL q
    cases e1
    exact q⟩
theorem se_slH {p2 : Pos} (ha : PE X a (tO X.K C G xa)) (hb : PE X b (tE X.K C G xb)) : PE X (.Subscript a (.Slice none (some b) none p2) pos) (tE X.K C G (.prm .slH (.cons xa (.cons (.ckI xb) .nil)))) :=
  PE.imp (pe_slice sl_any ha po_none (po_some hb)) fun σ H Q h => tO_mono (tO2 h) fun x H1 q => tE_mono (tE_ckI q) fun y H2 ⟨i, e, q⟩ => ⟨i, e, by
    obtain ⟨i', e1, q⟩ := pr_slH q
    cases e1
    exact q⟩
/-- xs[::-1], a list or a text -/
theorem pr_rev {K : PySem.W.Frag} {x : V} {H : Hp} {Q : VK} (h : PR K .rev [x] H Q) : (∃ a xs, x = .ref a ∧ SqL K H a xs ∧ ∀ p, H p = none → Q (.ref p) (upd H p (.lst xs.reverse))) ∨ ∃ l : List Nat, x = .str ⟨l.toArray⟩ ∧ l.length ≤ sizeLine ∧ Q (.str ⟨l.reverse.toArray⟩) H := by
  obtain ⟨a, cs, d, e, ha, s, q⟩ := h.one
  cases a <;> simp [prim, prim2] at e
  · subst e
    obtain ⟨rfl, g⟩ := s.str_of ha
    exact .inr ⟨_, rfl, by rw [sl_eq]; exact g.1, q _ _ (s.str (g.sub (fun c hc => by simpa using hc) (by simp)))⟩
  · obtain ⟨f, rfl⟩ := e
    rename_i ds
    obtain ⟨a, vs, rfl, h1, l1, k1⟩ := s.lst_of ha
    refine .inl ⟨a, vs, rfl, .inl (.inl h1), new_list s (by simp [l1]) (isFL_sub f fun d hd => by simpa using hd) (fun i d hd => ?_) q⟩
    have hi : i < ds.length := by
      have := (List.getElem?_eq_some_iff.mp hd).1
      simpa using this
    rw [List.getElem?_reverse hi] at hd
    obtain ⟨w, e1, e2⟩ := k1 _ d hd
    exact ⟨w, by rw [List.getElem?_reverse (by omega), l1]; exact e1, e2⟩
/-- .. as an expression -/
def tRev (K : PySem.W.Frag) (te : TE) : TE := fun σ H Q => te σ H fun x H1 => (∃ a xs, x = .ref a ∧ SqL K H1 a xs ∧ ∀ p, H1 p = none → Q (.ref p) (upd H1 p (.lst xs.reverse))) ∨ ∃ l : List Nat, x = .str ⟨l.toArray⟩ ∧ l.length ≤ sizeLine ∧ Q (.str ⟨l.reverse.toArray⟩) H1
theorem pe_rev {te : TE} {k : Nat} {p1 p2 p3 : Pos} (he : PE X e te) : PE X (.Subscript e (.Slice none none (some (.UnaryOp .USub (.Constant (.int 1) k p1) p2)) p3) pos) (tRev X.K te) := by
  refine ⟨fun pins s σ H Q I h => ?_⟩
  refine Subscript_ (thn (he.run pins s σ H _ I h) fun v s1 ⟨x, H1, I1, r1, q1⟩ => ?_)
  have hst : PO X (some (.UnaryOp .USub (.Constant (.int 1) k p1) p2)) (tPart (tUn (rU fun i => .int (-i)) (tC (.int 1)))) := po_some (pe_un un_neg pe_int)
  refine wpAny_Slice (thn (po_none.run pins s1 σ H1 (fun o H2 => o = none ∧ H2 = H1) I1 ⟨rfl, rfl⟩) fun vl s2 ⟨l, H2, I2, pl, el, e2⟩ => ?_)
  subst el e2
  refine thn (po_none.run pins s2 σ H2 (fun o H3 => o = none ∧ H3 = H2) I2 ⟨rfl, rfl⟩) fun vu s3 ⟨u, H3, I3, pu, eu, e3⟩ => ?_
  subst eu e3
  refine thn (hst.run pins s3 σ H3 (fun o H4 => o = some (-1) ∧ H4 = H3) I3 ⟨1, rfl, -1, rfl, rfl, rfl⟩) fun vs s4 ⟨o, H4, I4, ps, eo, e4⟩ => ?_
  subst eo e4
  have I5 : Inv X pins σ H4 { s4 with heap := s4.heap.push { cls := .type "slice", data := .fields #[vl, vu, vs] } } := I4.kept (t' := s4.toks) fun b ob q => Heap.get?_push_of_some _ q
  rcases q1 with ⟨a, xs, ex, hx, q⟩ | ⟨l, ex, hl, q⟩
  · subst ex
    cases r1
    obtain ⟨its, r, ht, hz⟩ := I5.list hx
    have hlen := r.length
    show wpAny (model X.prog X.w) X.A (subscriptTail e (.Slice none none (some (.UnaryOp .USub (.Constant (.int 1) k p1) p2)) p3) (.ref a) (.ref s4.heap.objs.size)) (EP X pins σ Q) X.xe { s4 with heap := s4.heap.push { cls := .type "slice", data := .fields #[vl, vu, vs] } }
    refine tail_any (ops := [.ref a, .ref s4.heap.objs.size]) ht.isList.typeIs (PySem.slot_list_getitem.lookup) ?_ (by with_unfolding_all rfl)
    refine wpAny_getItem_list_slice ht.isList (Heap.IsSliceOf.new _ vl vu vs) pl pu ps (by decide) ?_ (by rw [List.size_toArray]; omega)
    rw [PySem.W.krv_pick]
    refine ⟨.ref _, _, I5.laid (t' := s4.toks) (o := .lst xs.reverse) (fun b ob q => Heap.get?_push_of_some _ q) (Nat.le_refl _) ?_, rfl, q _ (I5.hok.fresh (Nat.le_refl _))⟩
    exact ⟨by rw [List.length_reverse]; exact hz, _, 0, r.reverse, Heap.get?_push_size _ rfl⟩
  · subst ex
    obtain ⟨t, rfl⟩ := r1
    show wpAny (model X.prog X.w) X.A (subscriptTail e (.Slice none none (some (.UnaryOp .USub (.Constant (.int 1) k p1) p2)) p3) (.str ⟨l.toArray⟩ t) (.ref s4.heap.objs.size)) (EP X pins σ Q) X.xe { s4 with heap := s4.heap.push { cls := .type "slice", data := .fields #[vl, vu, vs] } }
    refine tail_any (T := "str") (ops := [.str ⟨l.toArray⟩ t, .ref s4.heap.objs.size]) (typeIs_str _ _ _) (F.slot_str_getitem.lookup) ?_ (by with_unfolding_all rfl)
    obtain ⟨l', e1, el⟩ := IsPart.raw pl
    obtain ⟨u', e2, eu⟩ := IsPart.raw pu
    obtain ⟨st, e3, es⟩ := IsPart.raw ps
    subst e1 e2 e3
    cases l' with
    | some _ => cases el
    | none =>
      cases u' with
      | some _ => cases eu
      | none =>
        cases st with
        | none => cases es
        | some st =>
          obtain ⟨i, tk⟩ := st
          have ei : i = -1 := Option.some.inj es
          subst ei
          refine wpAny_getItem_str_slice (l := none) (u := none) (st := some (-1, tk)) ⟨_, Heap.get?_push_size _ rfl, rfl, rfl⟩ rfl ?_
          have e4 : Builtin.Str.strSliceIndices none none (-1) l.length = (List.range l.length).reverse := by
            show sliceRange ((l.length : Int) - 1) (-1) (-1) = _
            rw [PySem.W.krv_sliceRange, PySem.W.krv_range]
          have e5 : ((List.range l.length).reverse.filterMap (l.toArray[·]?)) = l.reverse := by
            have := PySem.W.krv_all l.toArray
            simp only [List.size_toArray] at this
            rw [List.filterMap_reverse, this]
          have mk : (PySem.sliceMade ⟨l.toArray⟩ t none none (some (-1, tk))) = Made.str ⟨l.reverse.toArray⟩ := by
            show (if ((-1 : Int) == 1 && _) = true then _ else Made.str ⟨((Builtin.Str.strSliceIndices none none (-1) (⟨l.toArray⟩ : Str).length).filterMap (l.toArray[·]?)).toArray⟩) = _
            rw [str_len, e4, e5]
            rfl
          rw [mk]
          exact ⟨by rw [str_len, List.length_reverse]; exact hl, .str _, H4, I5.tok _, ⟨_, rfl⟩, q⟩
theorem se_rev {k : Nat} {p1 p2 p3 : Pos} (ha : PE X a (tO X.K C G xa)) : PE X (.Subscript a (.Slice none none (some (.UnaryOp .USub (.Constant (.int 1) k p1) p2)) p3) pos) (tE X.K C G (.prm .rev (.cons xa .nil))) :=
  PE.imp (pe_rev ha) fun _ _ _ h => tO_mono (tO1 h) fun _ _ q => pr_rev q
end
end VL

/-! VL9: membership, methods, displays, own calls. -/
namespace VL
open PySem PySem.Spec PyProof.Rows L2

section
variable {X : Cx} {C : Ctx} {G : Calls} {a b c e o : Expr} {es : List Expr} {xa xb xc xo : Ex} {xs : Exs} {p : Prim} {pos pn apos cpos : Pos} {x : Str} {id T : String}
/-! ### membership -/
theorem cmp_inn {k : Nat} (hr : Room k X.A) : CmpOk X .In .inn := ⟨_, op_in_str.or (op_inD (units1_of hr)), fun h => pr_inn h⟩
theorem cmp_nin {k : Nat} (hr : Room k X.A) : CmpOk X .NotIn .nin := ⟨_, op_notin_str.or (op_notInD (units1_of hr)), fun h => pr_nin h⟩
theorem units2_of {k : Nat} (hr : Room k X.A) : X.A.units + 1 < cLine := hu_of hr
theorem se_din {k : Nat} (hr : Room k X.A) (ha : PE X a (tO X.K C G xa)) (hb : PE X b (tO X.K C G xb)) (hm : behindInMarks .In b = false) : PE X (.Compare a [.In] [b] pos) (tE X.K C G (.prm .din (.cons xa (.cons xb .nil)))) :=
  PE.imp (pe_cmp (pc_din (units2_of hr) ha hb) hm) fun _ _ _ h => tO_mono (tO2 h) fun _ _ q => tO_mono q fun _ _ q => pr_din q
theorem se_dnin {k : Nat} (hr : Room k X.A) (ha : PE X a (tO X.K C G xa)) (hb : PE X b (tO X.K C G xb)) (hm : behindInMarks .NotIn b = false) : PE X (.Compare a [.NotIn] [b] pos) (tE X.K C G (.prm .dnin (.cons xa (.cons xb .nil)))) :=
  PE.imp (pe_cmp (pc_dnotin (units2_of hr) ha hb) hm) fun _ _ _ h => tO_mono (tO2 h) fun _ _ q => tO_mono q fun _ _ q => pr_dnin q
theorem st_din {k : Nat} (hr : Room k X.A) (ha : PE X a (tO X.K C G xa)) (hb : PE X b (tO X.K C G xb)) (hm : behindInMarks .In b = false) : PT X (.Compare a [.In] [b] pos) (tT X.K C G (.prm .din (.cons xa (.cons xb .nil)))) :=
  PT.imp (pt_cmp (pc_din (units2_of hr) ha hb) hm) fun _ _ _ h => tO_mono (tO2 (tT_tE h)) fun _ _ q => tO_mono q fun _ _ q => pr_din q
theorem st_dnin {k : Nat} (hr : Room k X.A) (ha : PE X a (tO X.K C G xa)) (hb : PE X b (tO X.K C G xb)) (hm : behindInMarks .NotIn b = false) : PT X (.Compare a [.NotIn] [b] pos) (tT X.K C G (.prm .dnin (.cons xa (.cons xb .nil)))) :=
  PT.imp (pt_cmp (pc_dnotin (units2_of hr) ha hb) hm) fun _ _ _ h => tO_mono (tO2 (tT_tE h)) fun _ _ q => tO_mono q fun _ _ q => pr_dnin q
/-- d[k] -/
theorem se_dget {k : Nat} (hr : Room k X.A) (ha : PE X a (tO X.K C G xa)) (hb : PE X b (tO X.K C G xb)) (hs : NoSl b) : PE X (.Subscript a b pos) (tE X.K C G (.prm .dget (.cons xa (.cons xb .nil)))) :=
  PE.imp (pe_dget (units2_of hr) ha hb hs) fun _ _ _ h => tO_mono (tO2 h) fun _ _ q => tO_mono q fun _ _ q => pr_dget q

/-! ### methods of texts -/
theorem tE_ckS {K : PySem.W.Frag} {σ : L2.St} {H : Hp} {Q : VK} (h : tE K C G (.ckS xa) σ H Q) : tE K C G xa σ H fun x H1 => (∃ z, x = .str z) ∧ Q x H1 := by
  obtain ⟨ρ, c, f, s, h⟩ := h
  refine ⟨ρ, c, f, s, (rPost.bind h).mono fun d ρ1 k v H1 f1 s1 => ?_⟩
  cases d with
  | str i => exact ⟨⟨_, (s1.str_of .head).1⟩, (show ePost K C σ c Q (.str i) ρ1 from k) _ H1 f1 s1⟩
  | _ => exact k.elim
theorem tE_ckL {K : PySem.W.Frag} {σ : L2.St} {H : Hp} {Q : VK} (h : tE K C G (.ckL xa) σ H Q) : tE K C G xa σ H fun x H1 => (∃ a vs, x = .ref a ∧ H1 a = some (.lst vs)) ∧ Q x H1 := by
  obtain ⟨ρ, c, f, s, h⟩ := h
  refine ⟨ρ, c, f, s, (rPost.bind h).mono fun d ρ1 k v H1 f1 s1 => ?_⟩
  cases d with
  | lst o i =>
    obtain ⟨a, vs, e1, e2, _⟩ := s1.lst_of .head
    exact ⟨⟨a, vs, e1, e2⟩, (show ePost K C σ c Q (.lst o i) ρ1 from k) _ H1 f1 s1⟩
  | _ => exact k.elim
/-- the side conditions of a method's call -/
structure MSide (X : Cx) (o e : Expr) (es : List Expr) (name : Str) (apos cpos : Pos) : Prop where
  base : attributeBase o name X.env (eval o X.env) = eval o X.env
  few : ((backTo cpos (starEach (e :: es) X.env)).all (fun x => !x.1) && (backToKw cpos (keywordEach [] X.env)).all (fun x => x.1.isSome)
      && decide ((e :: es).length + ([] : List Keyword).length + (if ([] : List Keyword).isEmpty then 0 else 1) < 30)) = true
  line : (apos.endLine == cpos.line) = true
  star : starEach (e :: es) X.env = (false, eval e X.env) :: starEach es X.env
  plain : (backTo cpos (starEach es X.env)).any (·.1) = false
theorem tyV_str {K : PySem.W.Frag} {x : V} {H : Hp} (h : ∃ z, x = .str z) : tyV K "str" x H := by
  obtain ⟨z, rfl⟩ := h
  rfl
theorem se_join (ho : PE X o (tE X.K C G xo)) (ha : PE X a (tO X.K C G xa)) (m : MSide X o a [] "join" apos cpos) : PE X (.Call (.Attribute o "join" apos) [a] [] cpos) (tE X.K C G (.prm .join (.cons (.ckS xo) (.cons xa .nil)))) :=
  PE.imp (pe_bm PySem.F.plainAttrs_str PySem.F.slot_str_join PySem.F.type_str_join mt_join ho (pa_cons ha pa_nil m.star) m.base m.few m.line m.star m.plain) fun σ H Q h =>
    tE_mono (tE_ckS (tO2 h)) fun v H1 ⟨e, q⟩ => ⟨tyV_str e, tO_mono q fun w H2 q => by
      obtain ⟨a, p, ys, rfl, rfl, q2⟩ := pr_join q
      exact ⟨a, p, ys, rfl, rfl, q2⟩⟩
theorem se_sindex (ho : PE X o (tE X.K C G xo)) (ha : PE X a (tO X.K C G xa)) (m : MSide X o a [] "index" apos cpos) : PE X (.Call (.Attribute o "index" apos) [a] [] cpos) (tE X.K C G (.prm .sindex (.cons (.ckS xo) (.cons xa .nil)))) :=
  PE.imp (pe_bm PySem.F.plainAttrs_str PySem.F.slot_str_index PySem.F.type_str_index mt_sindex ho (pa_cons ha pa_nil m.star) m.base m.few m.line m.star m.plain) fun σ H Q h =>
    tE_mono (tE_ckS (tO2 h)) fun v H1 ⟨e, q⟩ => ⟨tyV_str e, tO_mono q fun w H2 q => by
      obtain ⟨a, b, i, rest, rfl, rfl, q2⟩ := pr_sindex q
      exact ⟨a, b, i, rest, rfl, rfl, q2⟩⟩

theorem se_scount (ho : PE X o (tE X.K C G xo)) (ha : PE X a (tO X.K C G xa)) (m : MSide X o a [] "count" apos cpos) : PE X (.Call (.Attribute o "count" apos) [a] [] cpos) (tE X.K C G (.prm .scount (.cons (.ckS xo) (.cons xa .nil)))) :=
  PE.imp (pe_bm PySem.F.plainAttrs_str PySem.F.slot_str_count PySem.F.type_str_count mt_count ho (pa_cons ha pa_nil m.star) m.base m.few m.line m.star m.plain) fun σ H Q h =>
    tE_mono (tE_ckS (tO2 h)) fun v H1 ⟨e, q⟩ => ⟨tyV_str e, tO_mono q fun w H2 q => by
      obtain ⟨a, b, rfl, rfl, q2⟩ := pr_scount q
      exact ⟨a, b, rfl, rfl, q2⟩⟩

/-! ### arguments that are all made -/
def taS (K : PySem.W.Frag) (C : Ctx) (G : Calls) : Exs → TA
  | .nil => tNil
  | .cons e es => tCons (tE K C G e) (taS K C G es)
theorem sS_nil : PA X [] (taS X.K C G .nil) := pa_nil
theorem sS_cons (ha : PE X e (tE X.K C G xa)) (hr : PA X es (taS X.K C G xs)) (hs : starEach (e :: es) X.env = (false, eval e X.env) :: starEach es X.env) : PA X (e :: es) (taS X.K C G (.cons xa xs)) := pa_cons ha hr hs
theorem taS_run {K : PySem.W.Frag} : ∀ (es : Exs) (σ : L2.St) (H : Hp) (ρ : Rho) (c : List Cell) (Q : List V → Hp → Prop), Fits σ ρ → Sat K H [] (cellsOf σ ρ ++ c) →
    rPost C σ c (fun ds ρ' => ∀ vs H', vs.length = ds.length → Fits σ ρ' → Sat K H' [] (vs.zip ds ++ (cellsOf σ ρ' ++ c)) → Q vs H') (evalS G es ρ) → taS K C G es σ H Q
  | .nil, σ, H, ρ, c, Q, f, s, h => (show ∀ vs H', vs.length = ([] : List D).length → Fits σ ρ → Sat K H' [] (vs.zip [] ++ (cellsOf σ ρ ++ c)) → Q vs H' from h) [] H rfl f s
  | .cons e es, σ, H, ρ, c, Q, f, s, h => by
    refine ⟨ρ, c, f, s, (rPost.bind h).mono fun d ρ1 k v H1 f1 s1 => ?_⟩
    have s1' : Sat K H1 [] (cellsOf σ ρ1 ++ ((v, d) :: c)) := s1.perm List.perm_middle.symm
    refine taS_run es σ H1 ρ1 ((v, d) :: c) _ f1 s1' ((rPost.more [(v, d)] (rPost.bind k)).mono fun ds ρ' k vs H' hl f' s' => ?_)
    have k : ∀ vs H', vs.length = (d :: ds).length → Fits σ ρ' → Sat K H' [] (vs.zip (d :: ds) ++ (cellsOf σ ρ' ++ c)) → Q vs H' := k
    refine k (v :: vs) H' (by simp [hl]) f' (s'.perm ?_)
    show (vs.zip ds ++ (cellsOf σ ρ' ++ (v, d) :: c)).Perm ((v, d) :: (vs.zip ds ++ (cellsOf σ ρ' ++ c)))
    refine ((List.perm_middle (l₁ := cellsOf σ ρ')).append_left _).trans ?_
    exact List.perm_middle
/-- displays -/
theorem se_tup {k : Nat} (h : PA X es (taS X.K C G xs)) (hl : es.length ≤ 1000) (hn : ∀ G ρ ds ρ', evalS G xs ρ = .ok ds ρ' → ds.length ≤ 1000) : PE X (.Tuple es k pos) (tE X.K C G (.tup xs)) :=
  PE.imp (pe_tup h) fun σ H Q ⟨ρ, c, f, s, h⟩ => by
    have h := rPost.bind (show rPost C σ c (ePost X.K C σ c Q) ((evalS G xs ρ).bind fun ds ρ => .ok (.tup ds) ρ) from h)
    refine taS_run xs σ H ρ c _ f s ?_
    cases e : evalS G xs ρ with
    | no => rw [e] at h; exact h
    | exn k d ρ' => rw [e] at h; exact h
    | ok ds ρ' =>
      rw [e] at h
      intro vs H' hl f' s'
      refine ⟨by rw [hl, sl_eq]; have := hn G ρ ds ρ' e; omega, fun p hp => ?_⟩
      exact (show ePost X.K C σ c Q (.tup ds) ρ' from h) _ _ f' (s'.newT hl hp)
theorem se_lst (h : PA X es (taS X.K C G xs)) (hn : ∀ G ρ ds ρ', evalS G xs ρ = .ok ds ρ' → ds.length ≤ 1000) : PE X (.List es pos) (tE X.K C G (.lst xs)) :=
  PE.imp (pe_lst h) fun σ H Q ⟨ρ, c, f, s, h⟩ => by
    have h := rPost.bind (show rPost C σ c (ePost X.K C σ c Q) ((evalS G xs ρ).bind fun ds ρ => .ok (.lst true ds) ρ) from h)
    refine taS_run xs σ H ρ c _ f s ?_
    cases e : evalS G xs ρ with
    | no => rw [e] at h; exact h
    | exn k d ρ' => rw [e] at h; exact h
    | ok ds ρ' =>
      rw [e] at h
      intro vs H' hl f' s'
      refine ⟨by rw [hl, sl_eq]; have := hn G ρ ds ρ' e; omega, fun p hp => ?_⟩
      exact (show ePost X.K C σ c Q (.lst true ds) ρ' from h) _ _ f' (s'.newL hl hp)
def Exs.len : Exs → Nat
  | .nil => 0
  | .cons _ es => es.len + 1
theorem evalS_len : ∀ (xs : Exs) (G : Calls) (ρ : Rho) (ds : List D) (ρ' : Rho), evalS G xs ρ = .ok ds ρ' → ds.length = xs.len
  | .nil, G, ρ, ds, ρ', h => by
    simp only [evalS, Rs.ok.injEq] at h
    rw [← h.1]; rfl
  | .cons e es, G, ρ, ds, ρ', h => by
    simp only [evalS] at h
    cases e1 : evalE G e ρ with
    | no => rw [e1] at h; cases h
    | exn k d r => rw [e1] at h; cases h
    | ok d r =>
      rw [e1] at h
      simp only [Rs.bind_ok] at h
      cases e2 : evalS G es r with
      | no => rw [e2] at h; cases h
      | exn k d r => rw [e2] at h; cases h
      | ok ds2 r2 =>
        rw [e2] at h
        simp only [Rs.bind_ok, Rs.ok.injEq] at h
        rw [← h.1]
        simp [evalS_len es G r ds2 r2 e2, Exs.len]
theorem se_dic : PE X (.Dict [] [] pos) (tE X.K C G .dic) :=
  PE.imp pe_dnewK fun σ H Q ⟨ρ, c, f, s, h⟩ p hp => (show ePost X.K C σ c Q (.dct true [] []) ρ from h) _ _ f (s.newD hp)
end

/-! ### methods that change a list -/
section
variable {K : PySem.W.Frag} {H : Hp} {c : List Cell} {h : List Addr}
theorem zip_append' {vs ws : List V} {ds es : List D} (l : vs.length = ds.length) : (vs ++ ws).zip (ds ++ es) = vs.zip ds ++ ws.zip es := List.zip_append l
theorem zip_erase : ∀ {vs : List V} {ds : List D} {j : Nat} {v : V} {d : D}, vs[j]? = some v → ds[j]? = some d → (vs.zip ds).Perm ((v, d) :: (vs.eraseIdx j).zip (ds.eraseIdx j))
  | [], _, _, _, _, h, _ => by simp at h
  | _ :: _, [], _, _, _, _, h => by simp at h
  | v' :: vs, d' :: ds, 0, v, d, h1, h2 => by
    have h1 : v' = v := by simpa using h1
    have h2 : d' = d := by simpa using h2
    subst h1 h2
    exact .refl _
  | v' :: vs, d' :: ds, j + 1, v, d, h1, h2 => by
    have ih := zip_erase (vs := vs) (ds := ds) (j := j) (v := v) (d := d) (by simpa using h1) (by simpa using h2)
    exact (ih.cons _).trans (List.Perm.swap _ _ _)
theorem zip_set : ∀ {vs : List V} {ds : List D} {j : Nat} {v : V} {d : D}, vs.length = ds.length → j < ds.length → ((vs.set j v).zip (ds.set j d)).Perm ((v, d) :: (vs.eraseIdx j).zip (ds.eraseIdx j)) := fun {vs ds j v d} l h => by
  have := zip_erase (vs := vs.set j v) (ds := ds.set j d) (j := j) (v := v) (d := d) (List.getElem?_set_self (by omega)) (List.getElem?_set_self h)
  rwa [List.eraseIdx_set_eq, List.eraseIdx_set_eq] at this
theorem Sat.append {a : Addr} {vs : List V} {xs : List D} {w : V} {d : D} (s : Sat K H h ((w, d) :: (.ref a, .lst true xs) :: c)) (hv : H a = some (.lst vs)) : Sat K (upd H a (.lst (vs ++ [w]))) h ((.ref a, .lst true (xs ++ [d])) :: c) := by
  obtain ⟨a', vs', e, hv', hl, s'⟩ := (s.perm (List.Perm.swap _ _ _)).opened
  cases e
  rw [hv] at hv'; cases hv'
  refine Sat.close (s'.perm ?_) (by simp [hl])
  rw [zip_append' hl, List.append_assoc]
  first | done | exact .refl _
theorem Sat.erase {a : Addr} {vs : List V} {xs : List D} {j : Nat} {w : V} {d : D} (s : Sat K H h ((.ref a, .lst true xs) :: c)) (hv : H a = some (.lst vs)) (hw : vs[j]? = some w) (hd : xs[j]? = some d) :
    Sat K (upd H a (.lst (vs.eraseIdx j))) h ((w, d) :: (.ref a, .lst true (xs.eraseIdx j)) :: c) := by
  obtain ⟨a', vs', e, hv', hl, s'⟩ := s.opened
  cases e
  rw [hv] at hv'; cases hv'
  have s2 : Sat K H (a :: h) ((vs.eraseIdx j).zip (xs.eraseIdx j) ++ ((w, d) :: c)) := s'.perm (((zip_erase hw hd).append_right c).trans List.perm_middle.symm)
  exact (s2.close (by
    have h1 := (List.getElem?_eq_some_iff.mp hw).1
    have h2 := (List.getElem?_eq_some_iff.mp hd).1
    rw [List.length_eraseIdx_of_lt h1, List.length_eraseIdx_of_lt h2, hl])).perm (List.Perm.swap _ _ _)
theorem Sat.setI {a : Addr} {vs : List V} {xs : List D} {j : Nat} {w : V} {d : D} (s : Sat K H h ((w, d) :: (.ref a, .lst true xs) :: c)) (hv : H a = some (.lst vs)) (hj : j < xs.length) :
    Sat K (upd H a (.lst (vs.set j w))) h ((.ref a, .lst true (xs.set j d)) :: c) := by
  obtain ⟨a', vs', e, hv', hl, s'⟩ := (s.perm (List.Perm.swap _ _ _)).opened
  cases e
  rw [hv] at hv'; cases hv'
  have hw : vs[j]? = some vs[j] := List.getElem?_eq_getElem (by omega)
  have hd : xs[j]? = some xs[j] := List.getElem?_eq_getElem hj
  have s2 : Sat K H (a :: h) ((vs.set j w).zip (xs.set j d) ++ c) := by
    have p1 : (vs.zip xs ++ (w, d) :: c).Perm ((vs[j], xs[j]) :: ((vs.set j w).zip (xs.set j d) ++ c)) := by
      refine ((zip_erase hw hd).append_right _).trans (List.Perm.cons _ ?_)
      exact List.perm_middle.trans ((zip_set hl hj).symm.append_right c)
    exact (s'.perm p1).tail
  exact s2.close (by simp [hl])
theorem Sat.extend {a : Addr} {b : V} {vs : List V} {o : Bool} {xs ys : List D} (s : Sat K H h ((b, .lst o ys) :: (.ref a, .lst true xs) :: c)) (hv : H a = some (.lst vs)) : ∃ b' ws, b = .ref b' ∧ H b' = some (.lst ws) ∧ ws.length = ys.length ∧ vs.length = xs.length ∧
    Sat K (upd H a (.lst (vs ++ ws))) h ((.ref a, .lst true (xs ++ ys)) :: c) := by
  obtain ⟨b', ws, e, hw, hl2, s1⟩ := s.lstRead
  obtain ⟨a', vs', e, hv', hl, s'⟩ := (s1.perm List.perm_middle).opened
  cases e
  rw [hv] at hv'; cases hv'
  refine ⟨b', ws, by assumption, hw, hl2, hl, Sat.close (s'.perm ?_) (by simp [hl, hl2])⟩
  rw [zip_append' hl, List.append_assoc]
  first | done | exact .refl _
end
end VL

/-! VL10: methods that change a list, as expressions; own calls. -/
namespace VL
open PySem PySem.Spec PyProof.Rows L2

section
variable {X : Cx} {C : Ctx} {G : Calls} {a b c e o : Expr} {es : List Expr} {xa xb xc xo : Ex} {xs : Exs} {pos pn apos cpos : Pos} {x : Str} {m : Mt} {i : Nat}
def MR (K : PySem.W.Frag) (m : Mt) (v : V) (vs : List V) (H : Hp) (Q : VK) : Prop :=
  ∃ a xs ds ans xs' cs, v = .ref a ∧ mutL m xs ds = some (ans, xs') ∧ vs.length = ds.length ∧ Sat K H [] (vs.zip ds ++ ((.ref a, .lst true xs) :: cs)) ∧ ∀ v H', Sat K H' [] ((v, ans) :: (.ref a, .lst true xs') :: cs) → Q v H'
theorem tE_mut {K : PySem.W.Frag} {σ : L2.St} {H : Hp} {Q : VK} (h : tE K C G (.mut m i xs) σ H Q) : tVar i σ H fun v H1 => tyV K "list" v H1 ∧ taS K C G xs σ H1 fun vs H2 => MR K m v vs H2 Q := by
  obtain ⟨ρ, c, f, s, h⟩ := h
  have h : rPost C σ c (ePost K C σ c Q) (if isLst (getS ρ i) = true then (evalS G xs ρ).bind fun ds ρ => (Rs.of ρ (getS ρ i)).bind fun d _ => match d with
      | .lst true xs => (Rs.of ρ (mutL m xs ds)).bind fun r _ => .ok r.1 (putS ρ i (.lst true r.2))
      | _ => .no
    else .no) := h
  by_cases hl : isLst (getS ρ i) = true
  case neg => rw [if_neg hl] at h; exact h.elim
  rw [if_pos hl] at h
  cases e0 : getS ρ i with
  | none => rw [e0] at hl; simp [isLst] at hl
  | some d0 =>
    rw [e0] at hl
    cases d0 with
    | lst o0 xs0 =>
      obtain ⟨v, ev⟩ := f.2 i _ e0
      have s0 : Sat K H [] ((v, .lst o0 xs0) :: (cellsOf σ (goneS ρ i) ++ c)) := s.perm ((cells_take e0 ev).append_right c)
      obtain ⟨a, vs0, rfl, ha, _⟩ := s0.lst_of .head
      refine ⟨.ref a, ev, .inl ⟨rfl, vs0, .inl (.inl ha)⟩, taS_run xs σ H ρ c _ f s ((rPost.bind h).mono fun ds ρ1 k vs H1 hl1 f1 s1 => ?_)⟩
      obtain ⟨d, e1, k⟩ := rPost.of (rPost.bind k)
      match d, e1, k with
      | .lst true ys, e1, k =>
        obtain ⟨r, e2, k⟩ := rPost.of (rPost.bind k)
        have k : ePost K C σ c Q r.1 (putS ρ1 i (.lst true r.2)) := k
        have hi := getS_lt e1
        refine ⟨a, ys, ds, r.1, r.2, cellsOf σ (goneS ρ1 i) ++ c, rfl, e2, hl1, s1.perm (((cells_take e1 ev).append_right c).append_left _), fun w H2 s2 => k w H2 (f1.put ev) (s2.perm ?_)⟩
        exact ((((cells_put (d := .lst true r.2) hi ev).append_right c).cons (w, r.1))).symm
      | .lst false _, _, k => exact k.elim
      | .non, _, k => exact k.elim
      | .bl _, _, k => exact k.elim
      | .int _, _, k => exact k.elim
      | .str _, _, k => exact k.elim
      | .tup _, _, k => exact k.elim
      | .dct _ _ _, _, k => exact k.elim
      | .scr _, _, k => exact k.elim
    | _ => simp [isLst] at hl
theorem MR.app {K : PySem.W.Frag} {v : V} {vs : List V} {H : Hp} {Q : VK} (h : MR K .append v vs H Q) : rAppend v vs H Q := by
  obtain ⟨a, xs, ds, ans, xs', cs, rfl, e, hl, s, q⟩ := h
  match ds, vs, hl with
  | [d], [w], _hl =>
    simp [mutL] at e
    obtain ⟨h1, rfl, rfl⟩ := e
    have s' : Sat K H [] ((w, d) :: (.ref a, .lst true xs) :: cs) := s
    obtain ⟨a', vs, e, hv, hl, _⟩ := (s'.perm (List.Perm.swap _ _ _)).lst_of .head
    cases e
    exact ⟨a, vs, w, rfl, rfl, hv, by rw [hl, sl_eq]; exact h1, q _ _ ((s'.append hv).non)⟩
  | [], [], _ => simp [mutL] at e
  | _ :: _ :: _, _ :: _ :: _, _ => simp [mutL] at e
theorem MR.ext {K : PySem.W.Frag} {v : V} {vs : List V} {H : Hp} {Q : VK} (h : MR K .extend v vs H Q) : rExtend v vs H Q := by
  obtain ⟨a, xs, ds, ans, xs', cs, rfl, e, hl, s, q⟩ := h
  match ds, vs, hl with
  | [d], [w], _hl =>
    cases d <;> simp [mutL] at e
    obtain ⟨h1, rfl, rfl⟩ := e
    rename_i o ys
    have s' : Sat K H [] ((w, .lst o ys) :: (.ref a, .lst true xs) :: cs) := s
    obtain ⟨a', vs, e, hv, hl, _⟩ := (s'.perm (List.Perm.swap _ _ _)).lst_of .head
    cases e
    obtain ⟨b, ws, rfl, hw, l1, l2, s2⟩ := s'.extend hv
    exact ⟨a, b, vs, ws, rfl, rfl, hv, hw, by rw [l1, l2, sl_eq]; exact h1, q _ _ s2.non⟩
  | [], [], _ => simp [mutL] at e
  | _ :: _ :: _, _ :: _ :: _, _ => simp [mutL] at e
theorem ixN_lt {n : Nat} {i : Int} {j : Nat} (h : ixAt n i = some j) : seqIndex? i n = some j ∧ j < n := by
  have := ixN_seq (show ixN n i = some j from h)
  exact ⟨this.1, this.2.1⟩
theorem MR.popAt {K : PySem.W.Frag} {v : V} {vs : List V} {H : Hp} {Q : VK} (h : MR K .pop v vs H Q) : rPopAt v vs H Q := by
  obtain ⟨a, xs, ds, ans, xs', cs, rfl, e, hl, s, q⟩ := h
  match ds, vs, hl with
  | [d], [w], _hl =>
    cases d <;> simp [mutL] at e
    rename_i k
    obtain ⟨h1, e⟩ := e
    have s' : Sat K H [] ((w, .int k) :: (.ref a, .lst true xs) :: cs) := s
    have ew := s'.int_of .head
    subst ew
    cases e1 : ixAt xs.length k with
    | none => rw [e1] at e; simp at e
    | some j =>
      rw [e1] at e
      simp at e
      obtain ⟨y', e2, rfl, rfl⟩ := e
      obtain ⟨a', vs, e3, hv, hl, k1⟩ := s'.tail.lst_of .head
      cases e3
      obtain ⟨y, hy, _⟩ := k1 j _ e2
      have h1 := small64_iff.mp h1
      have e1' : ixAt vs.length k = some j := by rw [hl]; exact e1
      exact ⟨a, vs, k, j, y, rfl, rfl, hv, by omega, by omega, (ixN_lt e1').1, hy, q _ _ (s'.tail.erase hv hy e2)⟩
  | [], [], _ => simp [mutL] at e
  | _ :: _ :: _, _ :: _ :: _, _ => simp [mutL] at e
theorem se_append (hN : X.N[i]? = some x) (hv : Vis X.env.scope x) (hd : (x == ("__debug__" : Str)) = false) (hcd : (x == ("__classdict__" : Str)) = false) (ha : PE X e (tE X.K C G xa)) (m : MSide X (.Name x pn) e [] "append" apos cpos) :
    PE X (.Call (.Attribute (.Name x pn) "append" apos) [e] [] cpos) (tE X.K C G (.mut .append i (.cons xa .nil))) :=
  PE.imp (pe_bm PySem.F.plainAttrs_list PySem.F.slot_list_append PySem.F.type_list_append mt_append (pe_var hN hv hd hcd) (pa_cons ha pa_nil m.star) m.base m.few m.line m.star m.plain) fun σ H Q h => by
    obtain ⟨v, e, t, q⟩ := tE_mut h
    exact ⟨v, e, t, tE_mono q fun w H1 q => MR.app q⟩
theorem se_extend (hN : X.N[i]? = some x) (hv : Vis X.env.scope x) (hd : (x == ("__debug__" : Str)) = false) (hcd : (x == ("__classdict__" : Str)) = false) (ha : PE X e (tE X.K C G xa)) (m : MSide X (.Name x pn) e [] "extend" apos cpos) :
    PE X (.Call (.Attribute (.Name x pn) "extend" apos) [e] [] cpos) (tE X.K C G (.mut .extend i (.cons xa .nil))) :=
  PE.imp (pe_bm PySem.F.plainAttrs_list PySem.F.slot_list_extend PySem.F.type_list_extend mt_extend (pe_var hN hv hd hcd) (pa_cons ha pa_nil m.star) m.base m.few m.line m.star m.plain) fun σ H Q h => by
    obtain ⟨v, e, t, q⟩ := tE_mut h
    exact ⟨v, e, t, tE_mono q fun w H1 q => MR.ext q⟩
theorem se_popAt (hN : X.N[i]? = some x) (hv : Vis X.env.scope x) (hd : (x == ("__debug__" : Str)) = false) (hcd : (x == ("__classdict__" : Str)) = false) (ha : PE X e (tE X.K C G xa)) (m : MSide X (.Name x pn) e [] "pop" apos cpos) :
    PE X (.Call (.Attribute (.Name x pn) "pop" apos) [e] [] cpos) (tE X.K C G (.mut .pop i (.cons xa .nil))) :=
  PE.imp (pe_bm PySem.F.plainAttrs_list PySem.F.slot_list_pop PySem.F.type_list_pop mt_popAt (pe_var hN hv hd hcd) (pa_cons ha pa_nil m.star) m.base m.few m.line m.star m.plain) fun σ H Q h => by
    obtain ⟨v, e, t, q⟩ := tE_mut h
    exact ⟨v, e, t, tE_mono q fun w H1 q => MR.popAt q⟩

/-! ### own calls -/
def zipO : List V → List (Option D) → List Cell
  | v :: vs, some d :: ds => (v, d) :: zipO vs ds
  | _ :: vs, none :: ds => zipO vs ds
  | _, _ => []
/-- a def's promise: what the evaluation says -/
def spV (K : PySem.W.Frag) (G : Calls) (n f : Nat) : Sp := fun vs H Q _ => vs.length = n ∧ ∃ ds c, vs.length = ds.length ∧ Sat K H [] (vs.zip ds ++ c) ∧ match G f ds with
  | .ok d rs => ∀ v H', Sat K H' [] ((v, d) :: (zipO vs rs ++ c)) → Q v H'
  | _ => False
theorem lend_cells {σ : L2.St} : ∀ {es : Exs} {ods : List (Option D)} {ρ ρ2 : Rho} {ds : List D} {vs : List V} {ts : List Cell}, lendL es ods ρ = some (ds, ρ2) → ArgV σ es ods vs ts → Fits σ ρ →
    vs.length = ds.length ∧ Fits σ ρ2 ∧ (ts ++ cellsOf σ ρ).Perm (vs.zip ds ++ cellsOf σ ρ2)
  | .nil, [], ρ, ρ2, ds, vs, ts, h, a, f => by
    obtain ⟨rfl, rfl⟩ := a
    simp only [lendL, Option.some.injEq, Prod.mk.injEq] at h
    obtain ⟨rfl, rfl⟩ := h
    exact ⟨rfl, f, .refl _⟩
  | .nil, _ :: _, ρ, ρ2, ds, vs, ts, h, a, f => by simp [lendL] at h
  | .cons e es, [], ρ, ρ2, ds, vs, ts, h, a, f => by cases e <;> simp [lendL] at h
  | .cons e es, od :: ods, ρ, ρ2, ds, vs, ts, h, a, f => by
    rcases pk_or e with ⟨i, rfl⟩ | he
    · simp only [lendL] at h
      obtain ⟨d, e1, h⟩ := Option.bind_eq_some_iff.mp h
      obtain ⟨r, e2, h⟩ := Option.map_eq_some_iff.mp h
      obtain ⟨ds', ρ'⟩ := r
      simp only [Prod.mk.injEq] at h
      obtain ⟨rfl, rfl⟩ := h
      obtain ⟨v, ws, rfl, hv, a⟩ := a
      obtain ⟨h1, h2, h3⟩ := lend_cells e2 a f.gone
      refine ⟨by simp [h1], h2, ?_⟩
      refine ((cells_take e1 hv).append_left ts).trans ?_
      refine List.perm_middle.trans (List.Perm.cons _ h3)
    · cases od with
      | none => cases e <;> first | (simp [lendL] at h; done) | exact absurd rfl (he _)
      | some d =>
        have h : (lendL es ods ρ).map (fun r => (d :: r.1, r.2)) = some (ds, ρ2) := by
          cases e <;> first | exact h | exact absurd rfl (he _)
        obtain ⟨r, e2, h⟩ := Option.map_eq_some_iff.mp h
        obtain ⟨ds', ρ'⟩ := r
        simp only [Prod.mk.injEq] at h
        obtain ⟨rfl, rfl⟩ := h
        obtain ⟨v, ws, us, rfl, rfl, a'⟩ := (ArgV_of he).mp a
        obtain ⟨h1, h2, h3⟩ := lend_cells e2 a' f
        refine ⟨by simp [h1], h2, ?_⟩
        rw [List.append_assoc]
        exact List.perm_middle.trans (List.Perm.cons _ h3)
/-- a flat value stands for its datum anywhere -/
theorem flat_any {K : PySem.W.Frag} {H : Hp} {cs : List Cell} {v : V} {d : D} (s : Sat K H [] cs) (k : Has K H [] cs v d) (f : d.flat = true) : ∀ {H' : Hp} {h : List Addr} {c : List Cell}, Sat K H' h c → Sat K H' h ((v, d) :: c) := by
  cases d with
  | non => have := s.non_of k; subst this; intro _ _ _ s; exact s.non
  | bl b => have := s.bl_of k; subst this; intro _ _ _ s; exact s.bl
  | int b => have := s.int_of k; subst this; intro _ _ _ s; exact s.int
  | str b => obtain ⟨rfl, g⟩ := s.str_of k; intro _ _ _ s; exact s.str g
  | _ => simp [D.flat] at f
theorem back_cells {K : PySem.W.Frag} {σ : L2.St} {H : Hp} : ∀ {es : Exs} {ods rs : List (Option D)} {ρ ρ2 : Rho} {ds : List D} {vs : List V} {ts : List Cell}, lendL es ods ρ = some (ds, ρ2) → ArgV σ es ods vs ts →
    (∀ (j : Nat) (v : V) (d : D), vs[j]? = some v → ds[j]? = some d → d.flat = true → ∀ {h : List Addr} {c : List Cell}, Sat K H h c → Sat K H h ((v, d) :: c)) →
    ∀ (ρx : Rho) (c : List Cell), Fits σ ρx → Sat K H [] (zipO vs rs ++ (cellsOf σ ρx ++ c)) → Fits σ (backL es ds rs ρx) ∧ Sat K H [] (cellsOf σ (backL es ds rs ρx) ++ c)
  | .nil, [], rs, ρ, ρ2, ds, vs, ts, h, a, fl, ρx, c, f, s => by
    obtain ⟨rfl, rfl⟩ := a
    simp only [lendL, Option.some.injEq, Prod.mk.injEq] at h
    obtain ⟨rfl, rfl⟩ := h
    exact ⟨f, s⟩
  | .nil, _ :: _, rs, ρ, ρ2, ds, vs, ts, h, a, fl, ρx, c, f, s => by simp [lendL] at h
  | .cons e es, [], rs, ρ, ρ2, ds, vs, ts, h, a, fl, ρx, c, f, s => by cases e <;> simp [lendL] at h
  | .cons e es, od :: ods, [], ρ, ρ2, ds, vs, ts, h, a, fl, ρx, c, f, s => by
    have e1 : backL (.cons e es) ds [] ρx = ρx := by cases e <;> cases ds <;> rfl
    rw [e1]
    exact ⟨f, s.drop⟩
  | .cons e es, od :: ods, r :: rs, ρ, ρ2, ds, vs, ts, h, a, fl, ρx, c, f, s => by
    rcases pk_or e with ⟨i, rfl⟩ | he
    · simp only [lendL] at h
      obtain ⟨d, e1, h⟩ := Option.bind_eq_some_iff.mp h
      obtain ⟨r', e2, h⟩ := Option.map_eq_some_iff.mp h
      obtain ⟨ds', ρ'⟩ := r'
      simp only [Prod.mk.injEq] at h
      obtain ⟨rfl, rfl⟩ := h
      obtain ⟨v, ws, rfl, hv, a⟩ := a
      have fl' : ∀ (j : Nat) (v : V) (d : D), ws[j]? = some v → ds'[j]? = some d → d.flat = true → ∀ {h : List Addr} {c : List Cell}, Sat K H h c → Sat K H h ((v, d) :: c) := fun j w d' h1 h2 => fl (j + 1) w d' (by simpa using h1) (by simpa using h2)
      have eb : backL (.cons (.pk i) es) (d :: ds') (r :: rs) ρx = backL es ds' rs (ρx.set i (if d.flat = true then some d else r)) := rfl
      rw [eb]
      have hi : i < ρx.length := by
        have h1 := f.1
        have h2 := (List.getElem?_eq_some_iff.mp hv).1
        omega
      -- the slot is filled again
      have step : ∀ (d2 : D), Sat K H [] ((v, d2) :: (zipO ws rs ++ (cellsOf σ (goneS ρx i) ++ c))) → Fits σ (ρx.set i (some d2)) ∧ Sat K H [] (zipO ws rs ++ (cellsOf σ (ρx.set i (some d2)) ++ c)) := fun d2 s2 =>
        ⟨f.put hv, s2.perm (List.perm_middle.symm.trans ((((cells_put (d := d2) hi hv).append_right c).symm).append_left _))⟩
      by_cases hf : d.flat = true
      · rw [if_pos hf]
        -- forget what came back
        have s1 : Sat K H [] (zipO ws rs ++ (cellsOf σ (goneS ρx i) ++ c)) := by
          obtain ⟨l, hl⟩ := cells_gone (i := i) f
          have s2 : Sat K H [] (zipO ws rs ++ (cellsOf σ ρx ++ c)) := by
            cases r with
            | none => exact s
            | some d' => exact s.tail
          refine Sat.drop (xs := l) (s2.perm ?_)
          refine ((hl.append_right c).append_left _).trans ?_
          rw [List.append_assoc]
          exact List.perm_append_comm_assoc _ _ _
        obtain ⟨f2, s2⟩ := step d (fl 0 v d rfl rfl hf s1)
        exact back_cells e2 a fl' _ c f2 s2
      · rw [if_neg hf]
        have s0 : Sat K H [] ((match r with | some d' => [(v, d')] | none => []) ++ (zipO ws rs ++ (cellsOf σ (goneS ρx i) ++ c))) := by
          obtain ⟨l, hl⟩ := cells_gone (i := i) f
          have s2 : Sat K H [] ((match r with | some d' => [(v, d')] | none => []) ++ (zipO ws rs ++ (cellsOf σ ρx ++ c))) := by
            cases r with
            | none => exact s
            | some d' => exact s
          refine Sat.drop (xs := l) (s2.perm ?_)
          refine (((hl.append_right c).append_left _).append_left _).trans ?_
          rw [List.append_assoc]
          refine ((List.perm_append_comm_assoc _ _ _).append_left _).trans ?_
          exact List.perm_append_comm_assoc _ _ _
        cases r with
        | none =>
          exact back_cells e2 a fl' _ c f.gone s0
        | some d' =>
          obtain ⟨f2, s2⟩ := step d' s0
          exact back_cells e2 a fl' _ c f2 s2
    · cases od with
      | none => cases e <;> first | (simp [lendL] at h; done) | exact absurd rfl (he _)
      | some d =>
        have h : (lendL es ods ρ).map (fun r => (d :: r.1, r.2)) = some (ds, ρ2) := by
          cases e <;> first | exact h | exact absurd rfl (he _)
        obtain ⟨r', e2, h⟩ := Option.map_eq_some_iff.mp h
        obtain ⟨ds', ρ'⟩ := r'
        simp only [Prod.mk.injEq] at h
        obtain ⟨rfl, rfl⟩ := h
        obtain ⟨v, ws, us, rfl, rfl, a'⟩ := (ArgV_of he).mp a
        have e3 : backL (.cons e es) (d :: ds') (r :: rs) ρx = backL es ds' rs ρx := by
          cases e <;> first | rfl | exact absurd rfl (he _)
        rw [e3]
        refine back_cells e2 a' (fun j w d' h1 h2 => fl (j + 1) w d' (by simpa using h1) (by simpa using h2)) ρx c f ?_
        cases r with
        | none => exact s
        | some d' => exact s.tail
theorem se_call {k n f : Nat} {fa : Addr} {fd : FuncData} {ps : List Str} (hW : ∀ k d σ ρ c, ¬ C.W k d σ ρ c) (F : FnOk X.prog X.w X.K X.mg X.base CX0 k fa fd ps (spV X.K G n f)) (hr : Room k X.A) (hg : Gl X x) (hm : X.mg x = some (.ref fa)) (hk : PySem.W.keepIn X.K (.ref fa) = true) (hb : Binds X.K fd ps [])
    (ha : PA X (e :: es) (taO X.K C G xs)) (hn : ∀ ds d rs, G f ds = .ok d rs → ds.length = n) (hd : (x == ("__debug__" : Str)) = false) (he : starEach (e :: es) X.env = (false, eval e X.env) :: starEach es X.env) (hpl : (backTo pos (starEach es X.env)).any (·.1) = false) :
    PE X (.Call (.Name x pn) (e :: es) [] pos) (tE X.K C G (.call f xs)) :=
  PE.imp (pe_call F hr hg hm hk hb .nil pass0 ha hd he hpl) fun σ H Q ⟨ρ, c, f1, s, h⟩ => by
    refine taO_run xs σ H ρ c _ f1 s ((rPost.bind (show rPost C σ c (ePost X.K C σ c Q) ((evalO G xs ρ).bind fun ds ρ => (Rs.of ρ (lendL xs ds ρ)).bind fun r _ =>
      match G f r.1 with
      | .ok d rs => .ok d (backL xs r.1 rs r.2)
      | .exn k d rs => .exn k d (backL xs r.1 rs r.2)
      | .no => .no) from h)).mono fun ods ρ1 k vs H1 ts a f2 s1 => ?_)
    obtain ⟨r, e1, k⟩ := rPost.of (rPost.bind k)
    obtain ⟨ds, ρ2⟩ := r
    obtain ⟨l1, f3, p1⟩ := lend_cells e1 a f2
    have s2 : Sat X.K H1 [] (vs.zip ds ++ (cellsOf σ ρ2 ++ c)) := s1.perm (by
      rw [← List.append_assoc, ← List.append_assoc]
      exact p1.append_right c)
    cases eG : G f ds with
    | no => simp only [eG] at k; exact k.elim
    | exn k' d rs => simp only [eG] at k; exact absurd k (hW _ _ _ _ _)
    | ok d rs =>
      simp only [eG] at k
      have k : ePost X.K C σ c Q d (backL xs ds rs ρ2) := k
      rw [List.append_nil]
      refine ⟨by rw [l1]; exact hn ds d rs eG, ds, cellsOf σ ρ2 ++ c, l1, s2, ?_⟩
      rw [eG]
      intro v H2 s3
      have fl : ∀ (j : Nat) (v : V) (d : D), vs[j]? = some v → ds[j]? = some d → d.flat = true → ∀ {h : List Addr} {c : List Cell}, Sat X.K H2 h c → Sat X.K H2 h ((v, d) :: c) := fun j v d hv hd hf =>
        flat_any s2 (.mem (List.mem_append_left _ (List.mem_iff_getElem?.mpr ⟨j, by rw [List.getElem?_zip_eq_some]; exact ⟨hv, hd⟩⟩))) hf
      obtain ⟨f4, s4⟩ := back_cells e1 a fl ρ2 ((v, d) :: c) f3 (s3.perm (by
        refine List.Perm.trans ?_ (List.perm_middle (l₁ := zipO vs rs ++ cellsOf σ ρ2) |>.symm |>.trans (by rw [List.append_assoc]))
        rw [List.append_assoc]))
      exact k v H2 f4 (s4.perm List.perm_middle)
end
end VL

/-! VL11: targets, what loops take, comprehensions. -/
namespace VL
open PySem PySem.Spec PyProof.Rows L2

/-! ### targets -/
def Tg.slots : Tg → List Nat
  | .nm i => [i]
  | .tp a r => a.slots ++ r.slots
  | .en => []
def SameBut (is : List Nat) (σ σ' : L2.St) : Prop := σ'.length = σ.length ∧ ∀ i, i ∉ is → σ'[i]? = σ[i]?
theorem SameBut.refl {is : List Nat} {σ : L2.St} : SameBut is σ σ := ⟨rfl, fun _ _ => rfl⟩
theorem SameBut.trans {is js : List Nat} {σ σ' σ'' : L2.St} (h : SameBut is σ σ') (k : SameBut js σ' σ'') : SameBut (is ++ js) σ σ'' :=
  ⟨k.1.trans h.1, fun i hi => by rw [k.2 i (fun z => hi (by simp [z])), h.2 i (fun z => hi (by simp [z]))]⟩
theorem SameBut.mono {is js : List Nat} {σ σ' : L2.St} (h : SameBut is σ σ') (k : ∀ i ∈ is, i ∈ js) : SameBut js σ σ' := ⟨h.1, fun i hi => h.2 i fun z => hi (k i z)⟩
theorem SameBut.set {i : Nat} {v : Option V} {σ : L2.St} : SameBut [i] σ (σ.set i v) := ⟨by simp, fun j hj => by rw [List.getElem?_set_ne (fun z => hj (by simp [z]))]⟩
section
variable {K : PySem.W.Frag} {H : Hp} {c : List Cell}
def tG (K : PySem.W.Frag) (t : Tg) : TG := fun v σ H Q => ∃ ρ d c ρ', Fits σ ρ ∧ Sat K H [] ((v, d) :: (cellsOf σ ρ ++ c)) ∧ bindT t d ρ = some ρ' ∧ ∀ σ' H', SameBut t.slots σ σ' → Fits σ' ρ' → Sat K H' [] (cellsOf σ' ρ' ++ c) → Q σ' H'
def tGs (K : PySem.W.Frag) (t : Tg) : TGs := fun vs σ H Q => ∃ ρ ds c ρ', vs.length = ds.length ∧ Fits σ ρ ∧ Sat K H [] (vs.zip ds ++ (cellsOf σ ρ ++ c)) ∧ bindT t (.tup ds) ρ = some ρ' ∧ ∀ σ' H', SameBut t.slots σ σ' → Fits σ' ρ' → Sat K H' [] (cellsOf σ' ρ' ++ c) → Q σ' H'
theorem store_cells {σ : L2.St} {ρ : Rho} {i : Nat} {v : V} {d : D} (f : Fits σ ρ) (hi : i < ρ.length) (s : Sat K H [] ((v, d) :: (cellsOf σ ρ ++ c))) : Sat K H [] (cellsOf (σ.set i (some v)) (putS ρ i d) ++ c) := by
  obtain ⟨l, hl⟩ := cells_gone (i := i) f
  have s1 : Sat K H [] (l ++ ((v, d) :: (cellsOf σ (goneS ρ i) ++ c))) := s.perm (by
    refine (((hl.append_right c).cons (v, d))).trans ?_
    rw [List.append_assoc]
    exact List.perm_middle.symm)
  exact s1.drop.perm (((cells_store hi f.1).append_right c).symm)
theorem tG_nm {i : Nat} {v : V} {σ : L2.St} {Q : L2.St → Hp → Prop} (h : tG K (.nm i) v σ H Q) : gName i v σ H Q := by
  obtain ⟨ρ, d, c, ρ', f, s, e, q⟩ := h
  simp only [bindT] at e
  by_cases hi : i < ρ.length
  case neg => rw [if_neg hi] at e; cases e
  rw [if_pos hi] at e
  have e : ρ.set i (some d) = ρ' := Option.some.inj e
  subst e
  exact q _ H (.set) (f.store hi) (store_cells f hi s)
theorem tG_tp {t u : Tg} {v : V} {σ : L2.St} {Q : L2.St → Hp → Prop} {n : Nat} (hn : ∀ ρ ds ρ', bindT (.tp t u) (.tup ds) ρ = some ρ' → ds.length = n) (h : tG K (.tp t u) v σ H Q) : gTup K n (tGs K (.tp t u)) v σ H Q := by
  obtain ⟨ρ, d, c, ρ', f, s, e, q⟩ := h
  cases d with
  | tup ds =>
    obtain ⟨a, vs, rfl, hS, hl, s'⟩ := s.tupOpen
    exact ⟨a, vs, rfl, hS, by rw [hl]; exact hn ρ ds ρ' e, ρ, ds, c, ρ', hl, f, s', e, q⟩
  | _ => simp [bindT] at e
theorem tGs_tp {t u : Tg} {vs : List V} {σ : L2.St} {Q : L2.St → Hp → Prop} (h : tGs K (.tp t u) vs σ H Q) : gCons (tG K t) (tGs K u) vs σ H Q := by
  obtain ⟨ρ, ds, c, ρ', hl, f, s, e, q⟩ := h
  match ds, vs, hl, s, e with
  | d :: ds, v :: vs, hl, s, e =>
    simp only [bindT] at e
    obtain ⟨ρ1, e1, e2⟩ := Option.bind_eq_some_iff.mp e
    have s' : Sat K H [] ((v, d) :: (cellsOf σ ρ ++ (vs.zip ds ++ c))) := s.perm (List.Perm.cons _ (List.perm_append_comm_assoc _ _ _))
    refine ⟨v, vs, rfl, ρ, d, vs.zip ds ++ c, ρ1, f, s', e1, fun σ1 H1 sb f1 s1 => ⟨ρ1, ds, c, ρ', by simpa using hl, f1, s1.perm (List.perm_append_comm_assoc _ _ _), e2, fun σ2 H2 sb2 f2 s2 => q σ2 H2 (sb.trans sb2) f2 s2⟩⟩
  | [], [], _, _, e => simp [bindT] at e
theorem tGs_en {vs : List V} {σ : L2.St} {Q : L2.St → Hp → Prop} (h : tGs K .en vs σ H Q) : gNil vs σ H Q := by
  obtain ⟨ρ, ds, c, ρ', hl, f, s, e, q⟩ := h
  match ds, vs, hl, e with
  | [], [], _, e =>
    have e : ρ = ρ' := Option.some.inj e
    subst e
    exact ⟨rfl, q σ H .refl f s⟩
  | _ :: _, _ :: _, _, e => simp [bindT] at e
end
section
variable {X : Cx} {e : Expr} {es : List Expr} {t u : Tg} {pos : Pos} {x : Str} {i : Nat}
theorem PG.imp {t t' : TG} (h : PG X e t') (k : ∀ v σ H Q, t v σ H Q → t' v σ H Q) : PG X e t := ⟨fun pins s σ H v u Q I r q => h.run pins s σ H v u Q I r (k v σ H Q q)⟩
theorem PGs.imp {t t' : TGs} (h : PGs X es t') (k : ∀ v σ H Q, t v σ H Q → t' v σ H Q) : PGs X es t := ⟨fun pins s σ H vs us Q I r q => h.run pins s σ H vs us Q I r (k vs σ H Q q)⟩
theorem sg_nm (hN : X.N.Nodup) (hi : X.N[i]? = some x) (hx : Loc X.env.scope x) (hf : X.fn x = true ∨ X.env.scope.names.lookup x = some .local) : PG X (.Name x pos) (tG X.K (.nm i)) := PG.imp (pg_name hN hi hx hf) fun _ _ _ _ => tG_nm
theorem sgs_cons (h1 : PG X e (tG X.K t)) (h2 : PGs X es (tGs X.K u)) (hs : (assignEach (e :: es) X.env).map (·.2) = assign e X.env :: (assignEach es X.env).map (·.2)) : PGs X (e :: es) (tGs X.K (.tp t u)) := PGs.imp (pgs_cons h1 h2 hs) fun _ _ _ _ => tGs_tp
theorem sgs_nil : PGs X [] (tGs X.K .en) := PGs.imp pgs_nil fun _ _ _ _ => tGs_en
def Tg.arity : Tg → Nat
  | .tp _ r => r.arity + 1
  | _ => 0
theorem bindT_len : ∀ (t : Tg) (ds : List D) (ρ ρ' : Rho), (∀ i, t ≠ .nm i) → bindT t (.tup ds) ρ = some ρ' → (∃ n, ds.length = n) := fun _ ds _ _ _ _ => ⟨_, rfl⟩
/-- a target list: no name at its tail -/
def Tg.ok : Tg → Bool
  | .tp _ (.nm _) => false
  | .tp a r => a.ok && r.ok
  | _ => true
theorem bindT_arity : ∀ (t : Tg) (ds : List D) (ρ ρ' : Rho), t.ok = true → (∀ i, t ≠ .nm i) → bindT t (.tup ds) ρ = some ρ' → ds.length = t.arity
  | .nm i, _, _, _, _, h, _ => absurd rfl (h i)
  | .en, ds, ρ, ρ', _, _, h => by
    cases ds with
    | nil => rfl
    | cons _ _ => simp [bindT] at h
  | .tp a r, ds, ρ, ρ', ok, _, h => by
    cases ds with
    | nil => simp [bindT] at h
    | cons d ds =>
      simp only [bindT] at h
      obtain ⟨ρ1, _, h⟩ := Option.bind_eq_some_iff.mp h
      have hr : ∀ i, r ≠ .nm i := fun i z => by subst z; simp [Tg.ok] at ok
      have okr : r.ok = true := by
        cases r with
        | nm i => exact absurd rfl (hr i)
        | tp _ _ => simp only [Tg.ok, Bool.and_eq_true] at ok; exact ok.2
        | en => rfl
      have := bindT_arity r ds ρ1 ρ' okr hr h
      simp [Tg.arity, this]
theorem sg_tp {k : Nat} (hc : X.calm = true) (ok : (Tg.tp t u).ok = true) (h : PGs X es (tGs X.K (.tp t u))) (hn : (assignEach es X.env).length = (Tg.tp t u).arity) (hst : (assignEach es X.env).findIdx? (·.1) = none) : PG X (.Tuple es k pos) (tG X.K (.tp t u)) :=
  PG.imp (pg_tup hc h hn hst) fun _ _ _ _ => tG_tp fun ρ ds ρ' h => bindT_arity _ ds ρ ρ' ok (fun _ z => nomatch z) h
end

/-! ### what loops take -/
/-- the iterator J yields the values of ds, while the cells hold stand -/
structure Src (K : PySem.W.Frag) (J : L2.It) (ds : List D) (hold : List Cell) : Prop where
  turn : ∀ (i : Nat) (d : D) (H : Hp) (h : List Addr) (c : List Cell), ds[i]? = some d → Sat K H h (hold ++ c) → J.go i H ∧ ∀ x H', J.yld i H x H' → Sat K H' h ((x, d) :: (hold ++ c))
  stop : ∀ (i : Nat) (H : Hp) (h : List Addr) (c : List Cell), i = ds.length → Sat K H h (hold ++ c) → J.stop i H
def tI (K : PySem.W.Frag) (C : Ctx) (G : Calls) (it : It) : TI := fun σ H R => ∃ ρ c, Fits σ ρ ∧ Sat K H [] (cellsOf σ ρ ++ c) ∧
  rPost C σ c (fun ds ρ' => ∀ J H1 hold, Src K J ds hold → Fits σ ρ' → Sat K H1 [] (hold ++ (cellsOf σ ρ' ++ c)) → R J H1) (evalI G it ρ)
section
variable {K : PySem.W.Frag} {H : Hp}
theorem src_range {lo : Int} {n : Nat} : Src K (Itr lo n) ((List.range n).map fun (k : Nat) => D.int (lo + (k : Int))) [] where
  turn := fun i d H h c e s => by
    rw [List.getElem?_map] at e
    have hi : i < n := by
      cases q : (List.range n)[i]? with
      | none => rw [q] at e; cases e
      | some k =>
        have := (List.getElem?_eq_some_iff.mp q).1
        simpa using this
    rw [List.getElem?_range hi] at e
    cases e
    refine ⟨hi, fun x H' y => ?_⟩
    obtain ⟨rfl, rfl⟩ := y
    exact s.int
  stop := fun i H h c hl0 s => by
    have hl := Nat.le_of_eq hl0.symm
    rw [List.length_map, List.length_range] at hl
    exact hl
theorem src_down {lo : Int} {n : Nat} : Src K (Itc lo (-1) n) ((List.range n).map fun (k : Nat) => D.int (lo - (k : Int))) [] where
  turn := fun i d H h c e s => by
    rw [List.getElem?_map] at e
    have hi : i < n := by
      cases q : (List.range n)[i]? with
      | none => rw [q] at e; cases e
      | some k =>
        have := (List.getElem?_eq_some_iff.mp q).1
        simpa using this
    rw [List.getElem?_range hi] at e
    cases e
    refine ⟨hi, fun x H' y => ?_⟩
    obtain ⟨rfl, rfl⟩ := y
    have : lo + (i : Int) * (-1) = lo - (i : Int) := by omega
    rw [this]
    exact s.int
  stop := fun i H h c hl0 s => by
    have hl := Nat.le_of_eq hl0.symm
    rw [List.length_map, List.length_range] at hl
    exact hl
theorem src_list {a : Addr} {o : Bool} {ds : List D} (f : D.isFL ds = true) : Src K (Itl K a) ds [(.ref a, .lst o ds)] where
  turn := fun i d H h c e s => by
    obtain ⟨a', vs, e', hv, hl, k⟩ := Sat.lst_of s .head
    cases e'
    obtain ⟨w, e1, k1⟩ := k i d e
    refine ⟨⟨vs, w, .inl (.inl hv), e1⟩, fun x H' y => ?_⟩
    obtain ⟨rfl, y⟩ := y
    have := y vs (.inl (.inl hv))
    rw [e1] at this
    cases this
    exact s.addH k1 (isFL_get f e)
  stop := fun i H h c hl0 s => by
    have hl := Nat.le_of_eq hl0.symm
    obtain ⟨a', vs, e', hv, hl2, k⟩ := Sat.lst_of s .head
    cases e'
    exact ⟨vs, .inl (.inl hv), by omega⟩
theorem src_tup {a : Addr} {ds : List D} (f : D.isFL ds = true) : Src K (Itt K a) ds [(.ref a, .tup ds)] where
  turn := fun i d H h c e s => by
    obtain ⟨a', vs, e', hv, hl, s'⟩ := Sat.addT s .head f
    cases e'
    have hi : i < vs.length := by rw [hl]; exact (List.getElem?_eq_some_iff.mp e).1
    have hw : vs[i]? = some vs[i] := List.getElem?_eq_getElem hi
    refine ⟨⟨vs, vs[i], hv, hw⟩, fun x H' y => ?_⟩
    obtain ⟨rfl, y⟩ := y
    have e2 := y vs hv
    rw [hw] at e2
    cases e2
    have hm : (vs[i], d) ∈ vs.zip ds := List.mem_iff_getElem?.mpr ⟨i, by rw [List.getElem?_zip_eq_some]; exact ⟨hw, e⟩⟩
    obtain ⟨l, pl⟩ := front hm
    have s2 : Sat K H' h (l ++ ((vs[i], d) :: ([(.ref a, .tup ds)] ++ c))) := s'.perm ((pl.append_right _).trans List.perm_middle.symm)
    exact s2.drop
  stop := fun i H h c hl0 s => by
    have hl := Nat.le_of_eq hl0.symm
    obtain ⟨a', vs, e', hv, hl2, s'⟩ := Sat.addT s .head f
    cases e'
    exact ⟨vs, hv, by omega⟩
theorem src_text {l : List Nat} (g : strGood l) : Src K (Its ⟨l.toArray⟩) (l.map fun k => D.str [k]) [] where
  turn := fun i d H h c e s => by
    rw [List.getElem?_map] at e
    cases q : l[i]? with
    | none => rw [q] at e; cases e
    | some k =>
      rw [q] at e
      cases e
      have hi := (List.getElem?_eq_some_iff.mp q).1
      refine ⟨by show i < (l.toArray).size; simpa using hi, fun x H' y => ?_⟩
      obtain ⟨rfl, k', e1, rfl⟩ := y
      have e1 : l[i]? = some k' := by simpa using e1
      rw [q] at e1
      cases e1
      have gk : strGood [k] := ⟨by simp, fun c hc => by simp at hc; subst hc; exact g.2 _ (List.mem_of_getElem? q)⟩
      exact s.str gk
  stop := fun i H h c hl0 s => by
    have hl := Nat.le_of_eq hl0.symm
    show (l.toArray).size ≤ i
    simpa using hl
end
section
variable {X : Cx} {C : Ctx} {G : Calls} {tg a b c e : Expr} {xa xb xc xe : Ex} {pos pn : Pos}
theorem PI.imp {w w' : TI} (h : PI X tg e w') (k : ∀ σ H R, w σ H R → w' σ H R) : PI X tg e w := ⟨fun pins s σ H R I q => h.run pins s σ H R I (k σ H R q)⟩
theorem tI_val {K : PySem.W.Frag} {σ : L2.St} {H : Hp} {R : L2.It → Hp → Prop} (h : tI K C G (.val xe) σ H R) : tE K C G xe σ H fun v H1 => (∃ a, v = .ref a ∧ (∃ vs, SqL K H1 a vs) ∧ R (Itl K a) H1) ∨ (∃ z, v = .str z ∧ R (Its z) H1) ∨ (∃ a, v = .ref a ∧ (∃ vs, SqT K H1 a vs) ∧ R (Itt K a) H1) := by
  obtain ⟨ρ, c, f, s, h⟩ := h
  refine ⟨ρ, c, f, s, (rPost.bind h).mono fun d ρ1 k v H1 f1 s1 => ?_⟩
  obtain ⟨ds, e1, k1⟩ := rPost.of k
  cases d with
  | lst o xs =>
    simp only [itemsOf] at e1
    by_cases hf : D.isFL xs = true
    case neg => rw [if_neg hf] at e1; cases e1
    rw [if_pos hf] at e1
    cases e1
    obtain ⟨a, vs, rfl, hv, _⟩ := s1.lst_of .head
    exact .inl ⟨a, rfl, ⟨vs, .inl (.inl hv)⟩, k1 _ H1 [(.ref a, .lst o _)] (src_list hf) f1 s1⟩
  | str l =>
    simp only [itemsOf] at e1
    cases e1
    obtain ⟨rfl, g⟩ := s1.str_of .head
    exact .inr (.inl ⟨_, rfl, k1 _ H1 [] (src_text g) f1 s1.tail⟩)
  | tup xs =>
    simp only [itemsOf] at e1
    by_cases hf : D.isFL xs = true
    case neg => rw [if_neg hf] at e1; cases e1
    rw [if_pos hf] at e1
    cases e1
    obtain ⟨a, vs, rfl, hv, _⟩ := s1.tup_of .head
    exact .inr (.inr ⟨a, rfl, ⟨vs, hv⟩, k1 _ H1 [(.ref a, .tup _)] (src_tup hf) f1 s1⟩)
  | _ => simp [itemsOf] at e1
/-- an iterator over a list, a text or a tuple -/
def iAny (K : PySem.W.Frag) (tl : TE) : TI := fun σ H R => tl σ H fun v H1 => (∃ a, v = .ref a ∧ (∃ vs, SqL K H1 a vs) ∧ R (Itl K a) H1) ∨ (∃ z, v = .str z ∧ R (Its z) H1) ∨ (∃ a, v = .ref a ∧ (∃ vs, SqT K H1 a vs) ∧ R (Itt K a) H1)
/-- an expression's value, held -/
theorem pi_any {tl : TE} (hl : PE X e tl) : PI X tg e (iAny X.K tl) := by
  refine ⟨fun pins s σ H R I h => ?_⟩
  refine thn (hl.run pins s σ H _ I h) fun v s1 ⟨x, H1, I1, r1, q1⟩ => ?_
  rcases q1 with ⟨a, e, ⟨xs, hq⟩, q⟩ | ⟨z, e, q⟩ | ⟨a, e, ⟨xs, hq⟩, q⟩
  · subst e
    cases r1
    obtain ⟨its, rv, p, hz⟩ := I1.list hq
    refine wpAny_pyIter_list p.isList ?_
    refine ⟨s1.heap.objs.size, [s1.heap.objs.size], _, _, H1, rfl, I1.kept (t' := s1.toks) fun b o e => Heap.get?_push_of_some _ e, turn_list a _, ⟨_, Heap.get?_push_size _ rfl, rfl, rfl⟩, fun b hb => ?_, q⟩
    have e : b = s1.heap.objs.size := by simpa using hb
    subst e
    exact I1.fpOk (Nat.le_refl _) (I1.hok.fresh (Nat.le_refl _))
  · subst e
    obtain ⟨t, rfl⟩ := r1
    cases ha : z.cps.all (· < 128)
    · exact wpAny_pyIter_wide ha (pi_one (tk := s1.toks) I1 _ (turn_str _ z t "str_iterator" (.inr rfl)) ⟨_, Heap.get?_push_size _ rfl, rfl, rfl⟩ q)
    · exact wpAny_pyIter_ascii ha (pi_one (tk := s1.toks) I1 _ (turn_str _ z t "str_ascii_iterator" (.inl rfl)) ⟨_, Heap.get?_push_size _ rfl, rfl, rfl⟩ q)
  · subst e
    cases r1
    obtain ⟨its, rv, p, hz⟩ := I1.tuple hq
    refine wpAny_pyIter_tuple (show s1.heap.IsTuple a its.toArray from p) ?_
    refine ⟨s1.heap.objs.size, [s1.heap.objs.size], _, _, H1, rfl, I1.kept (t' := s1.toks) fun b o e => Heap.get?_push_of_some _ e, turn_tuple a _, ⟨_, Heap.get?_push_size _ rfl, rfl, rfl⟩, fun b hb => ?_, q⟩
    have e : b = s1.heap.objs.size := by simpa using hb
    subst e
    exact I1.fpOk (Nat.le_refl _) (I1.hok.fresh (Nat.le_refl _))
theorem si_val (h : PE X e (tE X.K C G xe)) : PI X tg e (tI X.K C G (.val xe)) := PI.imp (pi_any h) fun _ _ _ => tI_val
theorem tI_rng1 {K : PySem.W.Frag} {σ : L2.St} {H : Hp} {R : L2.It → Hp → Prop} (h : tI K C G (.rng1 xa) σ H R) : iRng1 (tCons (tE K C G xa) tNil) σ H R := by
  obtain ⟨ρ, c, f, s, h⟩ := h
  refine ⟨ρ, c, f, s, (rPost.bind h).mono fun d ρ1 k v H1 f1 s1 => ?_⟩
  cases d with
  | int i =>
    have e := s1.int_of .head
    subst e
    have k : rPost C σ c _ (if small64 i = true then Rs.ok ((rng2 0 i).map D.int) ρ1 else Rs.no) := k
    by_cases hs : small64 i = true
    case neg => rw [if_neg hs] at k; exact k.elim
    rw [if_pos hs] at k
    have hs := small64_iff.mp hs
    refine ⟨i, rfl, hs.1, hs.2, k _ H1 [] ?_ f1 s1.tail⟩
    have := src_range (K := K) (lo := 0) (n := i.toNat)
    unfold rng2
    rw [List.map_map]
    have e : (i - 0).toNat = i.toNat := by simp
    rw [e]
    exact this
  | _ => exact k.elim
theorem si_rng1 (hg : Gl X "range") (hm : X.mg "range" = none) (ha : PE X a (tE X.K C G xa)) (hs : starEach [a] X.env = (false, eval a X.env) :: starEach [] X.env) : PI X tg (.Call (.Name "range" pn) [a] [] pos) (tI X.K C G (.rng1 xa)) :=
  PI.imp (pi_range1 hg hm (pa_cons ha pa_nil hs) hs) fun _ _ _ => tI_rng1
theorem tI_rng2 {K : PySem.W.Frag} {σ : L2.St} {H : Hp} {R : L2.It → Hp → Prop} (h : tI K C G (.rng2 xa xb) σ H R) : iRng2 (tCons (tE K C G xa) (tCons (tE K C G xb) tNil)) σ H R := by
  obtain ⟨ρ, c, f, s, h⟩ := h
  refine ⟨ρ, c, f, s, (rPost.bind h).mono fun d ρ1 k v H1 f1 s1 => ?_⟩
  have s1' : Sat K H1 [] (cellsOf σ ρ1 ++ ((v, d) :: c)) := s1.perm List.perm_middle.symm
  refine ⟨ρ1, (v, d) :: c, f1, s1', (rPost.more [(v, d)] (rPost.bind k)).mono fun d2 ρ2 k v2 H2 f2 s2 => ?_⟩
  cases d with
  | int i =>
    cases d2 with
    | int j =>
      have e2 := s2.int_of .head
      subst e2
      have e1 := s2.tail.int_of (v := v) (i := i) (.mem (by simp))
      subst e1
      have k : rPost C σ c _ (if (small64 i && small64 j) = true then Rs.ok ((rng2 i j).map D.int) ρ2 else Rs.no) := k
      by_cases hs : (small64 i && small64 j) = true
      case neg => rw [if_neg hs] at k; exact k.elim
      rw [if_pos hs] at k
      simp only [Bool.and_eq_true] at hs
      have hs1 := small64_iff.mp hs.1
      have hs2 := small64_iff.mp hs.2
      refine ⟨i, j, rfl, ⟨hs1.1, hs1.2, hs2.1, hs2.2⟩, k _ H2 [] ?_ f2 ?_⟩
      · unfold rng2
        rw [List.map_map]
        exact src_range
      · exact Sat.tail ((s2.tail).perm List.perm_middle)
    | _ => exact k.elim
  | _ => exact k.elim
theorem si_rng2 (hg : Gl X "range") (hm : X.mg "range" = none) (ha : PE X a (tE X.K C G xa)) (hb : PE X b (tE X.K C G xb)) (hs : starEach [a, b] X.env = (false, eval a X.env) :: starEach [b] X.env) (hs2 : starEach [b] X.env = (false, eval b X.env) :: starEach [] X.env) :
    PI X tg (.Call (.Name "range" pn) [a, b] [] pos) (tI X.K C G (.rng2 xa xb)) :=
  PI.imp (pi_range2 hg hm (pa_cons ha (pa_cons hb pa_nil hs2) hs) (by rw [hs, hs2]; rfl) hs2) fun _ _ _ => tI_rng2
theorem tI_rng3 {K : PySem.W.Frag} {σ : L2.St} {H : Hp} {R : L2.It → Hp → Prop} (h : tI K C G (.rng3 xa xb xc) σ H R) : iRng3 (tCons (tE K C G xa) (tCons (tE K C G xb) (tCons (tE K C G xc) tNil))) σ H R := by
  obtain ⟨ρ, c, f, s, h⟩ := h
  refine ⟨ρ, c, f, s, (rPost.bind h).mono fun d ρ1 k v H1 f1 s1 => ?_⟩
  have s1' : Sat K H1 [] (cellsOf σ ρ1 ++ ((v, d) :: c)) := s1.perm List.perm_middle.symm
  refine ⟨ρ1, (v, d) :: c, f1, s1', (rPost.more [(v, d)] (rPost.bind k)).mono fun d2 ρ2 k v2 H2 f2 s2 => ?_⟩
  have s2' : Sat K H2 [] (cellsOf σ ρ2 ++ ((v2, d2) :: (v, d) :: c)) := s2.perm List.perm_middle.symm
  refine ⟨ρ2, (v2, d2) :: (v, d) :: c, f2, s2', (rPost.more [(v2, d2), (v, d)] (rPost.bind k)).mono fun d3 ρ3 k v3 H3 f3 s3 => ?_⟩
  cases d with
  | int i =>
    cases d2 with
    | int j =>
      cases d3 with
      | int l =>
        have e3 := s3.int_of .head
        subst e3
        have e2 := s3.tail.int_of (v := v2) (i := j) (.mem (by simp))
        subst e2
        have e1 := s3.tail.int_of (v := v) (i := i) (.mem (by simp))
        subst e1
        have k9 : rPost C σ c _ (if (small64 i && small64 j && decide (l = -1)) = true then Rs.ok ((rngD i j).map D.int) ρ3 else Rs.no) := k
        by_cases hs : (small64 i && small64 j && decide (l = -1)) = true
        case neg => rw [if_neg hs] at k9; exact k9.elim
        rw [if_pos hs] at k9
        simp only [Bool.and_eq_true, decide_eq_true_eq] at hs
        obtain ⟨⟨h1, h2⟩, rfl⟩ := hs
        have hs1 := small64_iff.mp h1
        have hs2 := small64_iff.mp h2
        refine ⟨i, j, -1, (i - j).toNat, rfl, RgC.neg hs1.1 hs1.2 hs2.1 hs2.2, k9 _ H3 [] ?_ f3 ?_⟩
        · unfold rngD
          rw [List.map_map]
          exact src_down
        · have s4 : Sat K H3 [] ((.int j, .int j) :: (.int i, .int i) :: (cellsOf σ ρ3 ++ c)) := s3.tail.perm (List.perm_middle.trans (List.Perm.cons _ List.perm_middle))
          exact s4.tail.tail
      | _ => exact k.elim
    | _ => exact k.elim
  | _ => exact k.elim
theorem si_rng3 (hg : Gl X "range") (hm : X.mg "range" = none) (ha : PE X a (tE X.K C G xa)) (hb : PE X b (tE X.K C G xb)) (hc : PE X c (tE X.K C G xc)) (hs : starEach [a, b, c] X.env = (false, eval a X.env) :: starEach [b, c] X.env)
    (hs2 : starEach [b, c] X.env = (false, eval b X.env) :: starEach [c] X.env) (hs3 : starEach [c] X.env = (false, eval c X.env) :: starEach [] X.env) (hpl : (backTo pos (starEach [b, c] X.env)).any (·.1) = false) :
    PI X tg (.Call (.Name "range" pn) [a, b, c] [] pos) (tI X.K C G (.rng3 xa xb xc)) :=
  PI.imp (pi_range3 hg hm (pa_cons ha (pa_cons hb (pa_cons hc pa_nil hs3) hs2) hs) hs hpl) fun _ _ _ => tI_rng3
/-- enumerate(list) -/
theorem enumD_get : ∀ {ds : List D} {k i : Nat} {d : D}, (enumD k ds)[i]? = some d → ∃ d', ds[i]? = some d' ∧ d = .tup [.int ((k + i : Nat) : Int), d']
  | [], k, i, d, h => by simp [enumD] at h
  | d' :: ds, k, 0, d, h => by
    simp [enumD] at h
    exact ⟨d', rfl, h.symm⟩
  | d' :: ds, k, i + 1, d, h => by
    simp only [enumD, List.getElem?_cons_succ] at h
    obtain ⟨d2, e1, e2⟩ := enumD_get h
    exact ⟨d2, by simpa using e1, by rw [e2]; congr 4; omega⟩
theorem enumD_len : ∀ (k : Nat) (ds : List D), (enumD k ds).length = ds.length
  | _, [] => rfl
  | k, _ :: ds => by simp [enumD, enumD_len (k + 1) ds]
theorem src_enum {K : PySem.W.Frag} {a : Addr} {o : Bool} {ds : List D} (f : D.isFL ds = true) : Src K (Ite K a) (enumD 0 ds) [(.ref a, .lst o ds)] where
  turn := fun i d H h c e s => by
    obtain ⟨d', e1, rfl⟩ := enumD_get e
    obtain ⟨a', vs, e', hv, hl, k⟩ := Sat.lst_of s .head
    cases e'
    obtain ⟨w, e2, k1⟩ := k i d' e1
    refine ⟨⟨vs, w, .inl (.inl hv), e2⟩, fun x H' y => ?_⟩
    obtain ⟨T, x2, rfl, nT, rfl, y⟩ := y
    have := y vs (.inl (.inl hv))
    rw [e2] at this
    cases this
    have s2 : Sat K H h ([V.int (i : Nat), w].zip [D.int ((0 + i : Nat) : Int), d'] ++ ([(.ref a, .lst o ds)] ++ c)) := by
      rw [Nat.zero_add]
      exact (s.addH k1 (isFL_get f e1)).int
    exact s2.newT rfl nT
  stop := fun i H h c hl0 s => by
    have hl := Nat.le_of_eq hl0.symm
    obtain ⟨a', vs, e', hv, hl2, k⟩ := Sat.lst_of s .head
    cases e'
    rw [enumD_len] at hl
    exact ⟨vs, .inl (.inl hv), by omega⟩
theorem zipD_get : ∀ {as bs : List D} {i : Nat} {d : D}, (zipD as bs)[i]? = some d → ∃ a b, as[i]? = some a ∧ bs[i]? = some b ∧ d = .tup [a, b]
  | [], _, i, d, h => by simp [zipD] at h
  | _ :: _, [], i, d, h => by simp [zipD] at h
  | a :: as, b :: bs, 0, d, h => by
    simp [zipD] at h
    exact ⟨a, b, rfl, rfl, h.symm⟩
  | a :: as, b :: bs, i + 1, d, h => by
    simp only [zipD, List.getElem?_cons_succ] at h
    obtain ⟨x, y, e1, e2, e3⟩ := zipD_get h
    exact ⟨x, y, by simpa using e1, by simpa using e2, e3⟩
theorem zipD_len : ∀ (as bs : List D), (zipD as bs).length = min as.length bs.length
  | [], bs => by simp [zipD]
  | _ :: _, [] => by simp [zipD]
  | _ :: as, _ :: bs => by simp [zipD, zipD_len as bs]
theorem src_zip {K : PySem.W.Frag} {a b : Addr} {o p : Bool} {ds es : List D} (f : D.isFL ds = true) (g : D.isFL es = true) : Src K (Itz K a b) (zipD ds es) [(.ref a, .lst o ds), (.ref b, .lst p es)] where
  turn := fun i d H h c e s => by
    obtain ⟨d1, d2, e1, e2, rfl⟩ := zipD_get e
    obtain ⟨a', vs, ea, hv, hl, k⟩ := Sat.lst_of s .head
    cases ea
    obtain ⟨x1, f1, k1⟩ := k i d1 e1
    have s1 := s.addH k1 (isFL_get f e1)
    obtain ⟨b', ws, eb, hw, hlw, k'⟩ := Sat.lst_of s1 (.mem (v := .ref b) (d := .lst p es) (by simp))
    cases eb
    obtain ⟨x2, f2, k2⟩ := k' i d2 e2
    refine ⟨⟨vs, ws, x1, x2, .inl (.inl hv), .inl (.inl hw), f1, f2⟩, fun x H' y => ?_⟩
    obtain ⟨T, y1, y2, rfl, nT, rfl, q1, q2⟩ := y
    have z1 := q1 vs (.inl (.inl hv))
    rw [f1] at z1
    cases z1
    have z2 := q2 ws (.inl (.inl hw))
    rw [f2] at z2
    cases z2
    have s2 : Sat K H h ([x1, x2].zip [d1, d2] ++ ([(.ref a, .lst o ds), (.ref b, .lst p es)] ++ c)) := (s1.addH k2 (isFL_get g e2)).perm (List.Perm.swap _ _ _)
    exact s2.newT rfl nT
  stop := fun i H h c hl0 s => by
    have hl := Nat.le_of_eq hl0.symm
    obtain ⟨a', vs, ea, hv, hl2, k⟩ := Sat.lst_of s .head
    cases ea
    obtain ⟨b', ws, eb, hw, hlw, k'⟩ := Sat.lst_of s (.mem (v := .ref b) (d := .lst p es) (by simp))
    cases eb
    rw [zipD_len] at hl
    exact ⟨vs, ws, .inl (.inl hv), .inl (.inl hw), by omega⟩
/-! a text and a list, zipped -/
/-- the text's signs and the items of the list at b, in new pairs -/
def ItzS (K : PySem.W.Frag) (x : Str) (b : Addr) : L2.It :=
  ⟨fun i H => ∃ (ys : List V) (c : Nat) (y : V), SqL K H b ys ∧ x.cps[i]? = some c ∧ ys[i]? = some y,
    fun i H v H' => ∃ T c y, v = .ref T ∧ H T = none ∧ H' = upd H T (.tup [.str ⟨#[c]⟩, y]) ∧ x.cps[i]? = some c ∧ ∀ ys, SqL K H b ys → ys[i]? = some y,
    fun i H => ∃ ys : List V, SqL K H b ys ∧ i ≤ x.cps.size ∧ i ≤ ys.length ∧ (i = x.cps.size ∨ i = ys.length)⟩
theorem Draws.strU {prog : Program} {w : World} {A : Around} (hh : A.handled = none) (it : Addr) (x : Str) (t : Tok) :
    PySem.Draws prog w A it [it] x.cps.size (fun i v => ∃ c u, x.cps[i]? = some c ∧ v = .str ⟨#[c]⟩ u) (fun i h => h.IsStrIter it (strIterType x) x t i) := by
  unfold strIterType
  by_cases h : (x.cps.all fun z => decide (z < 128)) = true
  · rw [if_pos h]
    exact Draws.strAscii hh it x t
  · rw [if_neg h]
    exact Draws.strWide hh it x t
theorem nA (n : Nat) {i j : Nat} (h : i ≠ j) : n + i ≠ n + j := by omega
theorem nB (n : Nat) {i : Nat} (h : i ≠ 0) : n + i ≠ n := by omega
theorem nC {b n : Nat} (i : Nat) (h : b < n) : n + i ≠ b := by omega
theorem five_lt {n d z : Nat} (h : n + 4 < z) (e : d = n + 4 ∨ d = n + 2 ∨ d = n + 3 ∨ d = n ∨ d = n + 1) : d < z := by omega
theorem five_le {n d : Nat} (e : d = n + 4 ∨ d = n + 2 ∨ d = n + 3 ∨ d = n ∨ d = n + 1) : n ≤ d := by omega
theorem sep_zipS {n b : Addr} (hb : b < n) : ZipSep2 (n + 4) (n + 2) (n + 3) n (n + 1) [n] [n + 1, b] where
  TIz := nA n (by decide)
  TOz := nA n (by decide)
  TITO := nA n (by decide)
  TIi1 := nB n (by decide)
  mem1 := List.mem_singleton.mpr rfl
  zf1 := fun h => nB n (i := 4) (by decide) (List.mem_singleton.mp h)
  Tf1 := fun h => nB n (i := 3) (by decide) (List.mem_singleton.mp h)
  TIi2 := nA n (by decide)
  mem2 := List.mem_cons_self ..
  zf2 := fun h => by
    rcases List.mem_cons.mp h with h | h
    · exact nA n (i := 4) (j := 1) (by decide) h
    · exact nC 4 hb (List.mem_singleton.mp h)
  Tf2 := fun h => by
    rcases List.mem_cons.mp h with h | h
    · exact nA n (i := 3) (j := 1) (by decide) h
    · exact nC 3 hb (List.mem_singleton.mp h)
  sep1_2 := fun h => by
    rcases List.mem_cons.mp h with h | h
    · exact nB n (i := 1) (by decide) h.symm
    · exact Nat.ne_of_gt hb (List.mem_singleton.mp h)
  sep2_1 := fun h => nB n (i := 1) (by decide) (List.mem_singleton.mp h)
theorem iter_at {h h' : Heap} {it : Addr} {ty : String} {x : Str} {t : Tok} {i : Nat} (st : h.IsStrIter it ty x t i) (k : ∀ o, h.get? it = some o → h'.get? it = some o) : h'.IsStrIter it ty x t i :=
  let ⟨o, ho, r⟩ := st
  ⟨o, k o ho, r⟩
theorem turn_zipS {P : Program} {w : World} {K : PySem.W.Frag} {elts : List Expr} {kk : Nat} {tpos : Pos} {x : Str} {t : Tok} {n b : Addr} (hb : b < n) :
    Turn P w K (.Tuple elts kk tpos) (ItzS K x b) [n + 4, n + 2, n + 3, n, n + 1] (n + 4) (fun i h => IsZip h (n + 4) (n + 2) (n + 3) .none ∧ IsTupOf2 h (n + 2) (.ref n) (.ref (n + 1)) ∧ (∃ u v, IsTupOf2 h (n + 3) u v) ∧ h.IsStrIter n (strIterType x) x t i ∧ h.IsListIter (n + 1) b i) where
  mem := by simp
  obj := fun i h st c hc => by
    obtain ⟨hz, hTI, ⟨u, v, hTO⟩, ⟨o1, e1, _, d1⟩, ⟨o2, e2, _, d2⟩⟩ := st
    have e' : c = n + 4 ∨ c = n + 2 ∨ c = n + 3 ∨ c = n ∨ c = n + 1 := by simpa using hc
    rcases e' with q | q | q | q | q
    · rw [q]; exact ⟨_, hz, fun v z => nomatch z⟩
    · rw [q]; exact ⟨_, hTI, fun v z => nomatch z⟩
    · rw [q]; exact ⟨_, hTO, fun v z => nomatch z⟩
    · rw [q]; exact ⟨o1, e1, fun v z => by rw [d1] at z; cases z⟩
    · rw [q]; exact ⟨o2, e2, fun v z => by rw [d2] at z; cases z⟩
  keep := fun i h h' st k => by
    obtain ⟨hz, hTI, ⟨u, v, hTO⟩, h1, h2⟩ := st
    exact ⟨k _ (by simp) _ hz, k _ (by simp) _ hTI, ⟨u, v, k _ (by simp) _ hTO⟩, iter_at h1 fun o q => k n (by simp) o q, h2.at fun o q => k (n + 1) (by simp) o q⟩
  item := by
    intro X hP hw hK hc i pins s σ H E I hf st hg
    subst hP hw hK
    obtain ⟨hz, hTI, ⟨u0, v0, hTO⟩, h1, h2⟩ := st
    obtain ⟨ys, c, y, hqy, hx, hy⟩ := hg
    obtain ⟨its, rv, p, _⟩ := I.list hqy
    obtain ⟨u2, hu2, ru2⟩ := rv.get hy
    have lt1 : i < x.cps.size := by
      rcases Nat.lt_or_ge i x.cps.size with q | q
      · exact q
      · rw [Array.getElem?_eq_none q] at hx
        cases hx
    have lt2 : i < its.toArray.size := by
      have := (List.getElem?_eq_some_iff.mp hu2).1
      simpa using this
    refine wpAny_pyNext_zipD2_item (sep_zipS hb) (VL.Draws.strU (A := X.A.in1) (I.ok.hd hc) n x t) (Draws.list (A := X.A.in1) (I.ok.hd hc) (n + 1) b (Ne.symm (nC 1 hb)) its.toArray) hz hTI hTO h1 ⟨h2, p.isList⟩ lt1 lt2
      fun x1 x2 h' tk hx1 hx2 z' TO' d1 d2 hT hsz hk => ?_
    obtain ⟨c', tt, hc', rfl⟩ := hx1
    rw [hx] at hc'
    cases hc'
    have e2 : x2 = u2 := by
      have q : its.toArray[i]? = some u2 := by simpa using hu2
      rw [q] at hx2
      exact (Option.some.inj hx2).symm
    subst e2
    have hzl : n + 4 < s.heap.objs.size := Heap.lt_size hz
    refine ⟨_, rfl, wpAny_letOwnedTupleGo_zip (s := { s with heap := h', toks := tk }) z' fun h'' z'' sb => ?_⟩
    have hT2 : h''.get? s.heap.objs.size = some { cls := .type "tuple", data := .seq #[.str ⟨#[c]⟩ tt, x2] } := (sb.2 _ (Nat.ne_of_gt hzl)).trans hT
    have new : ObjOk X.prog X.w (upd H s.heap.objs.size (.tup [.str ⟨#[c]⟩, y])) h'' s.heap.objs.size (.tup [.str ⟨#[c]⟩, y]) :=
      ⟨by show 2 ≤ sizeLine; decide, [.str ⟨#[c]⟩ tt, x2], .cons ⟨_, rfl⟩ (.cons ru2 .nil), ⟨_, hT2, rfl, _, rfl⟩⟩
    have keep : ∀ d o, d ∉ [n + 4, n + 2, n + 3, n, n + 1] → s.heap.get? d = some o → h''.get? d = some o := fun d o hd q => by
      simp only [List.mem_cons, List.not_mem_nil, or_false, not_or] at hd
      exact (sb.2 d hd.1).trans (hk d o hd.1 hd.2.2.1 hd.2.2.2.1 hd.2.2.2.2 q)
    have I1 : Inv X pins σ (upd H s.heap.objs.size (.tup [.str ⟨#[c]⟩, y])) { s with heap := h'', toks := tk } := I.turnedNew (t' := tk) keep hf (Nat.le_refl _) new
    refine ⟨.ref s.heap.objs.size, _, I1, rfl, ⟨_, c, y, rfl, I.hok.fresh (Nat.le_refl _), rfl, hx, fun l hl => by rw [I.list_inj hl hqy]; exact hy⟩, ⟨z'', ?_, ⟨_, x2, (sb.2 _ (nA n (by decide))).trans TO'⟩, iter_at d1 fun o q => (sb.2 _ (Ne.symm (nB n (by decide)))).trans q, d2.1.at fun o q => (sb.2 _ (nA n (by decide))).trans q⟩, fun d hd => ?_⟩
    · exact (sb.2 _ (nA n (by decide))).trans (hk _ _ (nA n (by decide)) (nA n (by decide)) (nB n (by decide)) (nA n (by decide)) hTI)
    · have hdl : d < s.heap.objs.size := by
        have e' : d = n + 4 ∨ d = n + 2 ∨ d = n + 3 ∨ d = n ∨ d = n + 1 := by simpa using hd
        exact five_lt hzl e'
      rw [upd_ne (Nat.ne_of_lt hdl)]
      exact (hf d hd).1
  done := by
    intro X hP hw hK hc i pins s σ H E I hf st hg
    subst hP hw hK
    obtain ⟨hz, hTI, ⟨u0, v0, hTO⟩, h1, h2⟩ := st
    obtain ⟨ys, hqy, l1, l2, hend⟩ := hg
    obtain ⟨its, rv, p, _⟩ := I.list hqy
    have hl := rv.length
    have hsz : its.toArray.size = ys.length := by simp; omega
    refine wpAny_pyNext_zipD2_end (sep_zipS hb) (VL.Draws.strU (A := X.A.in1) (I.ok.hd hc) n x t) (Draws.list (A := X.A.in1) (I.ok.hd hc) (n + 1) b (Ne.symm (nC 1 hb)) its.toArray) hz hTI hTO h1 ⟨h2, p.isList⟩ l1 (by omega) (by omega) fun h' tk hk => ⟨rfl, I.turnedL (t' := tk) (ch := [n + 4, n + 2, n + 3, n, n + 1]) (fun d o hd q => ?_) hf⟩
    simp only [List.mem_cons, List.not_mem_nil, or_false, not_or] at hd
    exact hk d o hd.1 hd.2.2.1 hd.2.2.2.1 hd.2.2.2.2 q
  self := fun A i s Q E st h => wpAny_pyIter_zip st.1 h
def iZipS (K : PySem.W.Frag) (ta : TA) : TI := fun σ H R => ta σ H fun vs H1 => ∃ x b ys, vs = [.str x, .ref b] ∧ SqL K H1 b ys ∧ R (ItzS K x b) H1
theorem pi_zipS {X : Cx} {e e2 : Expr} {ta : TA} {p pos tpos : Pos} {elts : List Expr} {kk : Nat} (hg : Gl X "zip") (hm : X.mg "zip" = none) (ha : PA X [e, e2] ta)
    (hs : starEach [e, e2] X.env = (false, eval e X.env) :: starEach [e2] X.env) (hpl : (backTo pos (starEach [e2] X.env)).any (·.1) = false) :
    PI X (.Tuple elts kk tpos) (.Call (.Name "zip" p) [e, e2] [] pos) (iZipS X.K ta) := by
  refine ⟨fun pins s σ H R I h => ?_⟩
  refine Call_ (ld_blt I hg hm PyProof.Rows.boot_zip (PyProof.Rows.callWith_type1 (thn (ha.run pos pins s σ H _ I h) fun us s1 ⟨vs, H1, I1, r1, q1⟩ => ?_) hs hpl))
  obtain ⟨x, b, ys, ex, hq, q⟩ := q1
  subst ex
  cases r1 with
  | cons r rr =>
    cases rr with
    | cons r' rr =>
      cases rr
      obtain ⟨t, rfl⟩ := r
      cases r'
      obtain ⟨its, rv, p1, _⟩ := I1.list hq
      have lb : b < s1.heap.objs.size := p1.lt
      refine zip_begins2 (begins_text x t) (begins_list b its.toArray) trivial p1.isList fun h' hz hTI hTO g1 g2 hsz hk => wpAny_pyIter_zip hz ?_
      have I2 : Inv X pins σ H1 { s1 with heap := h' } := I1.kept (t' := s1.toks) hk
      refine ⟨s1.heap.objs.size + 4, [s1.heap.objs.size + 4, s1.heap.objs.size + 2, s1.heap.objs.size + 3, s1.heap.objs.size, s1.heap.objs.size + 1], _, _, H1, rfl, I2, turn_zipS lb, ⟨hz, hTI, ⟨_, _, hTO⟩, ⟨_, g1, rfl, rfl⟩, ⟨_, g2, rfl, rfl⟩⟩, fun d hd => ?_, q⟩
      have e' : d = s1.heap.objs.size + 4 ∨ d = s1.heap.objs.size + 2 ∨ d = s1.heap.objs.size + 3 ∨ d = s1.heap.objs.size ∨ d = s1.heap.objs.size + 1 := by simpa using hd
      have hle : s1.heap.objs.size ≤ d := five_le e'
      exact I1.fpOk hle (I1.hok.fresh hle)
theorem src_zipS {K : PySem.W.Frag} {x : List Nat} {b : Addr} {p : Bool} {es : List D} (gx : strGood x) (g : D.isFL es = true) : Src K (ItzS K ⟨x.toArray⟩ b) (zipD (x.map fun k => D.str [k]) es) [(.ref b, .lst p es)] where
  turn := fun i d H h c e s => by
    obtain ⟨d1, d2, e1, e2, rfl⟩ := zipD_get e
    rw [List.getElem?_map] at e1
    cases q : x[i]? with
    | none => rw [q] at e1; cases e1
    | some k =>
      rw [q] at e1
      cases e1
      obtain ⟨b', ws, eb, hw, hlw, k'⟩ := Sat.lst_of s .head
      cases eb
      obtain ⟨x2, f2, k2⟩ := k' i d2 e2
      have hx : (⟨x.toArray⟩ : Str).cps[i]? = some k := by simpa using q
      refine ⟨⟨ws, k, x2, .inl (.inl hw), hx, f2⟩, fun v H' y => ?_⟩
      obtain ⟨T, c', y2, rfl, nT, rfl, q1, q2⟩ := y
      rw [hx] at q1
      cases q1
      have z2 := q2 ws (.inl (.inl hw))
      rw [f2] at z2
      cases z2
      have gk : strGood [k] := ⟨by simp, fun c hc => by simp at hc; subst hc; exact gx.2 _ (List.mem_of_getElem? q)⟩
      have s2 : Sat K H h ([V.str ⟨#[k]⟩, x2].zip [D.str [k], d2] ++ ([(.ref b, .lst p es)] ++ c)) := (s.addH k2 (isFL_get g e2)).str gk
      exact s2.newT rfl nT
  stop := fun i H h c hl s => by
    obtain ⟨b', ws, eb, hw, hlw, k'⟩ := Sat.lst_of s .head
    cases eb
    rw [zipD_len, List.length_map] at hl
    have hsz : (⟨x.toArray⟩ : Str).cps.size = x.length := by simp
    exact ⟨ws, .inl (.inl hw), by rw [hsz]; omega, by omega, by rw [hsz]; omega⟩
theorem lstOf_ok {d : D} {xs : List D} (h : lstOf d = some xs) : ∃ o, d = .lst o xs ∧ D.isFL xs = true := by
  cases d with
  | lst o ys =>
    simp only [lstOf] at h
    by_cases hf : D.isFL ys = true
    · rw [if_pos hf] at h
      cases h
      exact ⟨o, rfl, hf⟩
    · rw [if_neg hf] at h
      cases h
  | _ => simp [lstOf] at h
section
variable {X : Cx} {C : Ctx} {G : Calls} {tg a b c e : Expr} {xa xb xc xe : Ex} {pos pn tpos : Pos} {elts : List Expr} {kk : Nat}
theorem tI_enum {K : PySem.W.Frag} {σ : L2.St} {H : Hp} {R : L2.It → Hp → Prop} (h : tI K C G (.enum xa) σ H R) : iEnum K (tCons (tE K C G xa) tNil) σ H R := by
  obtain ⟨ρ, c, f, s, h⟩ := h
  refine ⟨ρ, c, f, s, (rPost.bind h).mono fun d ρ1 k v H1 f1 s1 => ?_⟩
  obtain ⟨ds, e1, k1⟩ := rPost.of (rPost.bind k)
  obtain ⟨o, rfl, hF⟩ := lstOf_ok e1
  obtain ⟨a, vs, rfl, hv, _⟩ := s1.lst_of .head
  exact ⟨a, vs, rfl, .inl (.inl hv), k1 _ H1 [(.ref a, .lst o ds)] (src_enum hF) f1 s1⟩
theorem si_enum (hg : Gl X "enumerate") (hm : X.mg "enumerate" = none) (ha : PE X a (tE X.K C G xa)) (hs : starEach [a] X.env = (false, eval a X.env) :: starEach [] X.env) :
    PI X (.Tuple elts kk tpos) (.Call (.Name "enumerate" pn) [a] [] pos) (tI X.K C G (.enum xa)) :=
  PI.imp (pi_enum hg hm (pa_cons ha pa_nil hs) hs) fun _ _ _ => tI_enum
theorem tI_zip {K : PySem.W.Frag} {σ : L2.St} {H : Hp} {R : L2.It → Hp → Prop} (h : tI K C G (.zip xa xb) σ H R) : iZip K (tCons (tE K C G xa) (tCons (tE K C G xb) tNil)) σ H R := by
  obtain ⟨ρ, c, f, s, h⟩ := h
  refine ⟨ρ, c, f, s, (rPost.bind h).mono fun d ρ1 k v H1 f1 s1 => ?_⟩
  have s1' : Sat K H1 [] (cellsOf σ ρ1 ++ ((v, d) :: c)) := s1.perm List.perm_middle.symm
  refine ⟨ρ1, (v, d) :: c, f1, s1', (rPost.more [(v, d)] (rPost.bind k)).mono fun d2 ρ2 k v2 H2 f2 s2 => ?_⟩
  obtain ⟨ds, e1, k1⟩ := rPost.of (rPost.bind k)
  obtain ⟨es, e2, k2⟩ := rPost.of (rPost.bind k1)
  obtain ⟨o, rfl, hF⟩ := lstOf_ok e1
  obtain ⟨p, rfl, hG⟩ := lstOf_ok e2
  have s3 : Sat K H2 [] ((v, .lst o ds) :: (v2, .lst p es) :: (cellsOf σ ρ2 ++ c)) := (s2.perm (List.Perm.cons _ List.perm_middle)).perm (List.Perm.swap _ _ _)
  obtain ⟨a, vs, rfl, hv, _⟩ := s3.lst_of .head
  obtain ⟨b, ws, rfl, hw, _⟩ := s2.lst_of .head
  exact ⟨a, b, vs, ws, rfl, .inl (.inl hv), .inl (.inl hw), k2 _ H2 [(.ref a, .lst o ds), (.ref b, .lst p es)] (src_zip hF hG) f2 s3⟩
theorem tI_zipS {K : PySem.W.Frag} {σ : L2.St} {H : Hp} {R : L2.It → Hp → Prop} (h : tI K C G (.zipS xa xb) σ H R) : iZipS K (tCons (tE K C G xa) (tCons (tE K C G xb) tNil)) σ H R := by
  obtain ⟨ρ, c, f, s, h⟩ := h
  refine ⟨ρ, c, f, s, (rPost.bind h).mono fun d ρ1 k v H1 f1 s1 => ?_⟩
  have s1' : Sat K H1 [] (cellsOf σ ρ1 ++ ((v, d) :: c)) := s1.perm List.perm_middle.symm
  refine ⟨ρ1, (v, d) :: c, f1, s1', (rPost.more [(v, d)] (rPost.bind k)).mono fun d2 ρ2 k v2 H2 f2 s2 => ?_⟩
  obtain ⟨x, e1, k1⟩ := rPost.of (rPost.bind k)
  obtain ⟨es, e2, k2⟩ := rPost.of (rPost.bind k1)
  cases d with
  | str x' =>
    cases e1
    obtain ⟨p, rfl, hG⟩ := lstOf_ok e2
    have s3 : Sat K H2 [] ((v, .str x) :: (v2, .lst p es) :: (cellsOf σ ρ2 ++ c)) := (s2.perm (List.Perm.cons _ List.perm_middle)).perm (List.Perm.swap _ _ _)
    obtain ⟨rfl, gx⟩ := s3.str_of .head
    obtain ⟨b, ws, rfl, hw, _⟩ := s2.lst_of .head
    exact ⟨_, b, ws, rfl, .inl (.inl hw), k2 _ H2 [(.ref b, .lst p es)] (src_zipS gx hG) f2 s3.tail⟩
  | _ => simp [strOf] at e1
theorem si_zipS (hg : Gl X "zip") (hm : X.mg "zip" = none) (ha : PE X a (tE X.K C G xa)) (hb : PE X b (tE X.K C G xb)) (hs : starEach [a, b] X.env = (false, eval a X.env) :: starEach [b] X.env) (hs2 : starEach [b] X.env = (false, eval b X.env) :: starEach [] X.env) :
    PI X (.Tuple elts kk tpos) (.Call (.Name "zip" pn) [a, b] [] pos) (tI X.K C G (.zipS xa xb)) :=
  PI.imp (pi_zipS hg hm (pa_cons ha (pa_cons hb pa_nil hs2) hs) hs (by rw [hs2]; rfl)) fun _ _ _ => tI_zipS
theorem si_zip (hg : Gl X "zip") (hm : X.mg "zip" = none) (ha : PE X a (tE X.K C G xa)) (hb : PE X b (tE X.K C G xb)) (hs : starEach [a, b] X.env = (false, eval a X.env) :: starEach [b] X.env) (hs2 : starEach [b] X.env = (false, eval b X.env) :: starEach [] X.env) :
    PI X (.Tuple elts kk tpos) (.Call (.Name "zip" pn) [a, b] [] pos) (tI X.K C G (.zip xa xb)) :=
  PI.imp (pi_zip hg hm (pa_cons ha (pa_cons hb pa_nil hs2) hs) hs (by rw [hs2]; rfl)) fun _ _ _ => tI_zip
end
end
end VL

/-! VL12: comprehensions. -/
namespace VL
open PySem PySem.Spec PyProof.Rows L2

theorem wipe_same {own : List Nat} {σ σ' : L2.St} (h : SameBut own σ σ') : wipe σ' own = wipe σ own := by
  have go : ∀ (own : List Nat) (σ : L2.St) (i : Nat), (wipe σ own)[i]? = if i ∈ own then (if i < σ.length then some none else none) else σ[i]? := by
    intro own
    induction own with
    | nil => intro σ i; simp [wipe]
    | cons v vs ih =>
      intro σ i
      show ((wipe σ vs).set v none)[i]? = _
      by_cases e : v = i
      · subst e
        by_cases hl : v < σ.length
        · rw [List.getElem?_set_self (by rw [wipe_length]; exact hl)]
          simp [hl]
        · rw [List.getElem?_eq_none (by rw [List.length_set, wipe_length]; omega)]
          simp [hl]
      · rw [List.getElem?_set_ne e, ih σ i]
        have : i ∈ v :: vs ↔ i ∈ vs := by simp [show ¬ i = v from fun z => e z.symm]
        simp only [this]
  refine List.ext_getElem? fun i => ?_
  rw [go, go, h.1]
  split
  · rfl
  · rename_i hi
    exact h.2 i hi
def cellAt (σ : L2.St) (ρ : Rho) (i : Nat) : Option Cell :=
  match σ[i]?, getS ρ i with
  | some (some v), some d => some (v, d)
  | _, _ => none
theorem cells_eq : ∀ (σ : L2.St) (ρ : Rho), cellsOf σ ρ = (List.range ρ.length).filterMap (cellAt σ ρ)
  | σ, [] => by cases σ with
    | nil => rfl
    | cons y σ => cases y <;> rfl
  | [], d :: ρ => by
    show [] = _
    symm
    rw [List.filterMap_eq_nil_iff]
    intro i _
    rfl
  | y :: σ, d :: ρ => by
    have ih := cells_eq σ ρ
    have e : (List.range (d :: ρ).length).filterMap (cellAt (y :: σ) (d :: ρ)) = (match y, d with | some v, some d => [(v, d)] | _, _ => []) ++ cellsOf σ ρ := by
      rw [List.length_cons, List.range_succ_eq_map, List.filterMap_cons, List.filterMap_map, ih]
      have e0 : cellAt (y :: σ) (d :: ρ) 0 = (match y, d with | some v, some d => some (v, d) | _, _ => none) := by
        unfold cellAt
        rw [getS_zero]
        cases y <;> cases d <;> rfl
      have e1 : (cellAt (y :: σ) (d :: ρ) ∘ Nat.succ) = cellAt σ ρ := by
        funext i
        show cellAt (y :: σ) (d :: ρ) (i + 1) = _
        unfold cellAt
        rw [getS_succ, List.getElem?_cons_succ]
      rw [e0, e1]
      cases y <;> cases d <;> rfl
    rw [e]
    cases y <;> cases d <;> rfl
theorem getS_wipe : ∀ (own : List Nat) (ρ : Rho) (i : Nat), getS (wipeS ρ own) i = if i ∈ own then none else getS ρ i
  | [], ρ, i => by simp [wipeS]
  | j :: js, ρ, i => by
    show getS (goneS (wipeS ρ js) j) i = _
    by_cases e : j = i
    · subst e
      unfold goneS
      rw [if_pos (by simp)]
      by_cases hl : j < (wipeS ρ js).length
      · rw [getS_set_self hl]
      · unfold getS
        rw [List.getElem?_eq_none (by rw [List.length_set]; omega)]
        rfl
    · unfold goneS
      rw [getS_set_ne e, getS_wipe js ρ i]
      have : i ∈ j :: js ↔ i ∈ js := by simp [show ¬ i = j from fun z => e z.symm]
      simp only [this]
theorem wipeS_length : ∀ (own : List Nat) (ρ : Rho), (wipeS ρ own).length = ρ.length
  | [], ρ => rfl
  | j :: js, ρ => by show (goneS (wipeS ρ js) j).length = _; unfold goneS; rw [List.length_set, wipeS_length js ρ]
theorem backS_length : ∀ (own : List Nat) (ρ ρ0 : Rho), (backS ρ ρ0 own).length = ρ.length
  | [], ρ, _ => rfl
  | j :: js, ρ, ρ0 => by show ((backS ρ ρ0 js).set j _).length = _; rw [List.length_set, backS_length js ρ ρ0]
theorem getS_back : ∀ (own : List Nat) (ρ ρ0 : Rho) (i : Nat), ρ.length = ρ0.length → getS (backS ρ ρ0 own) i = if i ∈ own then getS ρ0 i else getS ρ i
  | [], ρ, ρ0, i, _ => by simp [backS]
  | j :: js, ρ, ρ0, i, hl => by
    show getS ((backS ρ ρ0 js).set j (getS ρ0 j)) i = _
    by_cases e : j = i
    · subst e
      rw [if_pos (by simp)]
      by_cases hl2 : j < (backS ρ ρ0 js).length
      · rw [getS_set_self hl2]
      · have : ρ0.length ≤ j := by rw [← hl, ← backS_length js ρ ρ0]; omega
        unfold getS
        rw [List.getElem?_eq_none (by rw [List.length_set]; omega), List.getElem?_eq_none this]
    · rw [getS_set_ne e, getS_back js ρ ρ0 i hl]
      have : i ∈ j :: js ↔ i ∈ js := by simp [show ¬ i = j from fun z => e z.symm]
      simp only [this]
theorem filter_split {α β : Type} (f : α → Option β) (p : α → Bool) (l : List α) : (l.filterMap f).Perm ((l.filter p).filterMap f ++ (l.filter fun a => !p a).filterMap f) := by
  rw [← List.filterMap_append]
  exact (List.filter_append_perm p l).symm.filterMap f
theorem filterMap_none {α β : Type} {f : α → Option β} {p : α → Bool} {l : List α} (h : ∀ a ∈ l, p a = false → f a = none) : l.filterMap f = (l.filter p).filterMap f := by
  induction l with
  | nil => rfl
  | cons a l ih =>
    have ih := ih fun b hb => h b (List.mem_cons_of_mem _ hb)
    cases e : p a with
    | true => rw [List.filter_cons_of_pos e, List.filterMap_cons, List.filterMap_cons, ih]
    | false => rw [List.filter_cons_of_neg (by simp [e]), List.filterMap_cons, h a (List.mem_cons_self ..) e, ih]
theorem fm_congr {α β : Type} {f g : α → Option β} {l : List α} (h : ∀ a ∈ l, f a = g a) : l.filterMap f = l.filterMap g := by
  induction l with
  | nil => rfl
  | cons a l ih => rw [List.filterMap_cons, List.filterMap_cons, h a (List.mem_cons_self ..), ih fun b hb => h b (List.mem_cons_of_mem _ hb)]
/-- a comprehension's own slots set aside, and back -/
theorem saved_cells (own : List Nat) (σ : L2.St) (ρ : Rho) : ∃ sv, (cellsOf σ ρ).Perm (sv ++ cellsOf σ (wipeS ρ own)) ∧ ∀ ρ1 : Rho, ρ1.length = ρ.length → (cellsOf σ (backS ρ1 ρ own)).Perm (sv ++ cellsOf σ (wipeS ρ1 own)) := by
  have wp : ∀ ρ : Rho, cellsOf σ (wipeS ρ own) = ((List.range ρ.length).filter fun i => !decide (i ∈ own)).filterMap (cellAt σ ρ) := fun ρ => by
    rw [cells_eq, wipeS_length]
    rw [filterMap_none (p := fun i => !decide (i ∈ own)) (fun i _ hi => by
      have hi : i ∈ own := by simpa using hi
      unfold cellAt
      rw [getS_wipe, if_pos hi]
      cases σ[i]? with
      | none => rfl
      | some o => cases o <;> rfl)]
    refine fm_congr fun i hi => ?_
    have hi : i ∉ own := by simpa using (List.mem_filter.mp hi).2
    unfold cellAt
    rw [getS_wipe, if_neg hi]
  refine ⟨((List.range ρ.length).filter fun i => decide (i ∈ own)).filterMap (cellAt σ ρ), ?_, fun ρ1 hl => ?_⟩
  · rw [wp ρ, cells_eq σ ρ]
    exact filter_split _ _ _
  · rw [wp ρ1, cells_eq σ (backS ρ1 ρ own), backS_length]
    refine (filter_split _ (fun i => decide (i ∈ own)) _).trans ?_
    rw [fm_congr (g := cellAt σ ρ) (fun i hi => by
      have hi : i ∈ own := by simpa using (List.mem_filter.mp hi).2
      unfold cellAt
      rw [getS_back own ρ1 ρ i hl, if_pos hi]), hl]
    refine List.Perm.append_left _ ?_
    rw [fm_congr (g := cellAt σ ρ1) (fun i hi => by
      have hi : i ∉ own := by simpa using (List.mem_filter.mp hi).2
      unfold cellAt
      rw [getS_back own ρ1 ρ i hl, if_neg hi])]
theorem cells_congr {σ σ' : L2.St} {ρ : Rho} (h : ∀ i d, getS ρ i = some d → σ[i]? = σ'[i]?) : cellsOf σ ρ = cellsOf σ' ρ := by
  rw [cells_eq, cells_eq]
  refine fm_congr fun i _ => ?_
  unfold cellAt
  cases e : getS ρ i with
  | none => cases σ[i]? with
    | none => cases σ'[i]? with
      | none => rfl
      | some o => cases o <;> rfl
    | some o => cases o <;> (cases σ'[i]? with
      | none => rfl
      | some o => cases o <;> rfl)
  | some d => rw [h i d e]
theorem wipe_get (own : List Nat) (σ : L2.St) (i : Nat) (hi : i ∉ own) : (wipe σ own)[i]? = σ[i]? := by
  induction own with
  | nil => rfl
  | cons v vs ih =>
    show ((wipe σ vs).set v none)[i]? = _
    rw [List.getElem?_set_ne (fun z => hi (by simp [z])), ih fun z => hi (by simp [z])]
theorem cells_wipe (own : List Nat) (σ : L2.St) (ρ : Rho) : cellsOf (wipe σ own) (wipeS ρ own) = cellsOf σ (wipeS ρ own) :=
  cells_congr fun i d h => by
    rw [getS_wipe] at h
    by_cases hi : i ∈ own
    · rw [if_pos hi] at h; cases h
    · exact wipe_get own σ i hi
theorem Fits.wipe {own : List Nat} {σ : L2.St} {ρ : Rho} (f : Fits σ ρ) : Fits (wipe σ own) (wipeS ρ own) :=
  ⟨by rw [wipe_length, wipeS_length]; exact f.1, fun i d h => by
    rw [getS_wipe] at h
    by_cases hi : i ∈ own
    · rw [if_pos hi] at h; cases h
    · rw [if_neg hi] at h
      rw [wipe_get own σ i hi]
      exact f.2 i d h⟩

/-! ### comprehensions -/
section
variable {K : PySem.W.Frag} {C : Ctx} {G : Calls} {own : List Nat} {t : Tg} {it : It} {ifs : Exs} {e : Ex}
/-- a test of a comprehension -/
def tTs (K : PySem.W.Frag) (C : Ctx) (G : Calls) (ifs : Exs) : TT := match ifs with
  | .nil => tYes
  | .cons c _ => tT K C G c
theorem tE_comp {σ : L2.St} {H : Hp} {Q : VK} (hW : ∀ k d σ ρ c, ¬ C.W k d σ ρ c) (hif : ifs = .nil ∨ ∃ c, ifs = .cons c .nil) (ht : ∀ i ∈ t.slots, i ∈ own) (h : tE K C G (.comp own t it ifs e) σ H Q) :
    tLc (tI K C G it) (tG K t) (tTs K C G ifs) (tE K C G e) own σ H Q := by
  obtain ⟨ρ, c, f, s, h⟩ := h
  refine ⟨ρ, c, f, s, (rPost.bind h).mono fun ds ρ0 k J H1 hold src f0 s0 L hL => ?_⟩
  have k := rPost.bind k
  obtain ⟨sv, p1, p2⟩ := saved_cells own σ ρ0
  -- the state at turn i
  let cl := fun (rest : List D) (acc : List D) (ρi : Rho) => compL (fun d ρ => bindT t d (wipeS ρ own)) (fun ρ => (evalAnd G ifs ρ).bind fun x ρ => match x with
      | .bl b => .ok b ρ
      | _ => .no) (fun ρ => evalE G e ρ) rest acc ρi
  let P := fun (d : D) (ρ1 : Rho) => rPost C σ c (ePost K C σ c Q) (.ok d (backS ρ1 ρ0 own))
  let Wf : Nat → Nat → Hp → Prop := fun i m H => m = ds.length - i ∧ i ≤ ds.length ∧ ∃ σi ρi acc, SameBut own σ σi ∧ Fits σi ρi ∧ Sat K H [] ((.ref L, .lst true acc) :: (hold ++ (cellsOf σi (wipeS ρi own) ++ (sv ++ c)))) ∧ rPost C σ c P (cl (ds.drop i) acc ρi)
  refine ⟨Wf, ⟨ds.length, rfl, Nat.zero_le _, σ, ρ0, [], .refl, f0, ?_, by rw [List.drop_zero]; exact k⟩, ?_⟩
  · have s1 : Sat K H1 [] ([].zip [] ++ (hold ++ (cellsOf σ ρ0 ++ c))) := s0
    refine (s1.newL rfl hL).perm (List.Perm.cons _ (List.Perm.append_left hold ?_))
    refine (p1.append_right c).trans ?_
    rw [List.append_assoc]
    exact List.perm_append_comm_assoc _ _ _
  · rintro i m H2 ⟨rfl, hi, σi, ρi, acc, sb, fi, s2, k2⟩
    by_cases hlt : i < ds.length
    · have hd : ds[i]? = some ds[i] := List.getElem?_eq_getElem hlt
      have s2' : Sat K H2 [] (hold ++ ((.ref L, .lst true acc) :: (cellsOf σi (wipeS ρi own) ++ (sv ++ c)))) := s2.perm List.perm_middle.symm
      obtain ⟨hgo, hy⟩ := src.turn i ds[i] H2 [] _ hd s2'
      rw [show ds.drop i = ds[i] :: ds.drop (i + 1) from List.drop_eq_getElem_cons hlt] at k2
      have k2 := rPost.bind (show rPost C σ c P ((Rs.of ρi (bindT t ds[i] (wipeS ρi own))).bind fun ρ1 _ => ((evalAnd G ifs ρ1).bind fun x ρ => match x with
          | .bl b => .ok b ρ
          | _ => .no).bind fun b ρ2 =>
        if b = true then (evalE G e ρ2).bind fun x ρ3 => if acc.length < 16777216 then cl (ds.drop (i + 1)) (acc ++ [x]) ρ3 else .no
        else cl (ds.drop (i + 1)) acc ρ2) from k2)
      obtain ⟨ρ1, e1, k2⟩ := rPost.of k2
      refine .inr ⟨hgo, fun H' => Wf (i + 1) (ds.length - (i + 1)) H', fun H' w => ⟨_, by omega, w⟩, fun x H3 y3 => ?_⟩
      have s3 := hy x H3 y3
      have hw : wipe σi own = wipe σ own := wipe_same sb
      have fw : Fits (wipe σ own) (wipeS ρi own) := by rw [← hw]; exact fi.wipe
      have ec : cellsOf (wipe σ own) (wipeS ρi own) = cellsOf σi (wipeS ρi own) := by rw [← hw]; exact cells_wipe own σi ρi
      let c' : List Cell := (.ref L, .lst true acc) :: (hold ++ (sv ++ c))
      have s3' : Sat K H3 [] ((x, ds[i]) :: (cellsOf (wipe σ own) (wipeS ρi own) ++ c')) := s3.perm (List.Perm.cons _ (by
        rw [ec]
        refine List.Perm.trans ?_ List.perm_middle.symm
        refine List.perm_middle.trans (List.Perm.cons _ ?_)
        exact List.perm_append_comm_assoc _ _ _))
      have hx : ∀ {α : Type} {P : α → Rho → Prop} {r : Rs Rho α} {σ' : L2.St} {c2 : List Cell}, rPost C σ c P r → rPost C σ' c2 P r := fun {α P r σ' c2} z => by
        cases r with
        | ok _ _ => exact z
        | exn k d ρ => exact absurd z (hW _ _ _ _ _)
        | no => exact z
      refine ⟨wipeS ρi own, ds[i], c', ρ1, fw, s3', e1, fun σ4 H4 sb4 f4 s4 => ⟨wipe_same (sb4.mono ht) |>.trans (by
        have := wipe_same (own := own) (σ := σ) (σ' := wipe σ own) ⟨wipe_length σ own, fun i hi => wipe_get own σ i hi⟩
        exact this), ?_⟩⟩
      have sb4' : SameBut own σ σ4 := ⟨sb4.1.trans (wipe_length σ own), fun j hj => by rw [sb4.2 j (fun z => hj (ht j z)), wipe_get own σ j hj]⟩
      -- the test, then the element
      have next : ∀ (acc' : List D) (ρn : Rho) (H' : Hp), Fits σ4 ρn → Sat K H' [] ((.ref L, .lst true acc') :: (hold ++ (cellsOf σ4 ρn ++ (sv ++ c)))) → rPost C σ c P (cl (ds.drop (i + 1)) acc' ρn) → Wf (i + 1) (ds.length - (i + 1)) H' := fun acc' ρn H' fn sn kn => by
        obtain ⟨sv2, q1, _⟩ := saved_cells own σ4 ρn
        refine ⟨rfl, hlt, σ4, ρn, acc', sb4', fn, ?_, kn⟩
        refine Sat.drop (xs := sv2) (sn.perm ?_)
        refine List.Perm.trans ?_ (List.perm_middle (l₁ := sv2)).symm
        refine List.Perm.cons _ ?_
        refine ((q1.append_right _).append_left hold).trans ?_
        rw [List.append_assoc]
        exact List.perm_append_comm_assoc _ _ _
      have elem : ∀ (ρ2 : Rho) (H5 : Hp), Fits σ4 ρ2 → Sat K H5 [] (cellsOf σ4 ρ2 ++ c') → rPost C σ c P ((evalE G e ρ2).bind fun x ρ3 => if acc.length < 16777216 then cl (ds.drop (i + 1)) (acc ++ [x]) ρ3 else .no) →
          tE K C G e σ4 H5 fun y H6 => ∃ acc, H6 L = some (.lst acc) ∧ acc.length < sizeLine ∧ Wf (i + 1) (ds.length - (i + 1)) (upd H6 L (.lst (acc ++ [y]))) := fun ρ2 H5 f5 s5 k5 => by
        refine ⟨ρ2, c', f5, s5, hx ((rPost.bind k5).mono fun x ρ3 k6 y H6 f6 s6 => ?_)⟩
        by_cases hl : acc.length < 16777216
        case neg => rw [if_neg hl] at k6; exact k6.elim
        rw [if_pos hl] at k6
        have s7 : Sat K H6 [] ((y, x) :: (.ref L, .lst true acc) :: (hold ++ (cellsOf σ4 ρ3 ++ (sv ++ c)))) := s6.perm (List.Perm.cons _ (by
          refine List.perm_middle.trans (List.Perm.cons _ ?_)
          exact List.perm_append_comm_assoc _ _ _))
        obtain ⟨L', vs, e7, hv, hl7, _⟩ := (s7.perm (List.Perm.swap _ _ _)).lst_of .head
        cases e7
        exact ⟨vs, hv, by rw [hl7, sl_eq]; exact hl, next _ _ _ f6 (s7.append hv) k6⟩
      have skip : ∀ (ρ2 : Rho) (H5 : Hp), Fits σ4 ρ2 → Sat K H5 [] (cellsOf σ4 ρ2 ++ c') → rPost C σ c P (cl (ds.drop (i + 1)) acc ρ2) → Wf (i + 1) (ds.length - (i + 1)) H5 := fun ρ2 H5 f5 s5 k5 =>
        next acc ρ2 H5 f5 (s5.perm (List.perm_middle.trans (List.Perm.cons _ (List.perm_append_comm_assoc _ _ _)))) k5
      rcases hif with rfl | ⟨cd, rfl⟩
      · -- no test
        show (if true = true then (tE K C G e σ4 H4 fun y H6 => ∃ acc, H6 L = some (.lst acc) ∧ acc.length < sizeLine ∧ Wf (i + 1) (ds.length - (i + 1)) (upd H6 L (.lst (acc ++ [y])))) else Wf (i + 1) (ds.length - (i + 1)) H4)
        exact iteT (elem ρ1 H4 f4 s4 k2)
      · show tT K C G cd σ4 H4 _
        have k2 := rPost.bind k2
        have k2 := rPost.bind (rPost.bind k2)
        refine ⟨ρ1, c', f4, s4, hx (k2.mono fun d ρ2 k3 => ?_)⟩
        cases d with
        | bl b =>
          cases b with
          | true => exact ⟨true, rfl, fun H5 f5 s5 => iteT (elem ρ2 H5 f5 s5 k3)⟩
          | false => exact ⟨false, rfl, fun H5 f5 s5 => iteF (skip ρ2 H5 f5 s5 k3)⟩
        | _ => exact k3.elim
    · have e : i = ds.length := by omega
      subst e
      have s2' : Sat K H2 [] (hold ++ ((.ref L, .lst true acc) :: (cellsOf σi (wipeS ρi own) ++ (sv ++ c)))) := s2.perm List.perm_middle.symm
      refine .inl ⟨src.stop _ H2 [] _ rfl s2', ?_⟩
      rw [List.drop_length] at k2
      have k2 : ePost K C σ c Q (.lst true acc) (backS ρi ρ0 own) := k2
      have hlen : ρi.length = ρ0.length := by rw [← fi.1, sb.1, f0.1]
      have hw : wipe σi own = wipe σ own := wipe_same sb
      have ec : cellsOf σi (wipeS ρi own) = cellsOf σ (wipeS ρi own) := by
        rw [← cells_wipe own σi ρi, hw, cells_wipe own σ ρi]
      refine k2 _ H2 ⟨by rw [backS_length, hlen]; exact f0.1, fun j d hj => ?_⟩ ?_
      · rw [getS_back own ρi ρ0 j hlen] at hj
        by_cases ho : j ∈ own
        · rw [if_pos ho] at hj; exact f0.2 j d hj
        · rw [if_neg ho] at hj
          rw [← sb.2 j ho]
          exact fi.2 j d hj
      · refine Sat.drop (xs := hold) (s2'.perm (List.Perm.append_left hold (List.Perm.cons _ ?_)))
        rw [ec]
        refine List.Perm.trans ?_ ((p2 ρi hlen).append_right c).symm
        rw [List.append_assoc]
        exact List.perm_append_comm_assoc _ _ _
end
section
variable {X : Cx} {C : Ctx} {G : Calls} {tg elt iter : Expr} {cs : List Expr} {scope : Scope} {own : List (Str × Nat)} {t : Tg} {it : It} {ifs : Exs} {e : Ex} {pos : Pos}
theorem se_comp (hW : ∀ k d σ ρ c, ¬ C.W k d σ ρ c) (hif : ifs = .nil ∨ ∃ c, ifs = .cons c .nil) (ht : ∀ i ∈ t.slots, i ∈ own.map (·.2)) (hc : X.calm = true) (hN : X.N.Nodup) (hi : PI X tg iter (tI X.K C G it)) (ok : BlkOk X.N X.env.scope scope own)
    (hg : ∀ (s : Shared) (H : Hp) (Ca : Addr) (cl : List (Str × Addr)) (fp : List Addr), PG (X.blk s H scope (compEnvC scope cl Ca X.env) fp) tg (tG X.K t)) (hts : ∀ (s : Shared) (H : Hp) (Ca : Addr) (cl : List (Str × Addr)) (fp : List Addr), PTs (X.blk s H scope (compEnvC scope cl Ca X.env) fp) cs (tTs X.K C G ifs))
    (he : ∀ (s : Shared) (H : Hp) (Ca : Addr) (cl : List (Str × Addr)) (fp : List Addr), PE (X.blk s H scope (compEnvC scope cl Ca X.env) fp) elt (tE X.K C G e)) (hs : ∀ x, foldedSetIterable iter X.env x = pure x) :
    PE X (.ListComp elt [⟨tg, iter, cs, 0⟩] scope pos) (tE X.K C G (.comp (own.map (·.2)) t it ifs e)) :=
  PE.imp (pe_lc hc hN hi ok hg hts he hs) fun _ _ _ => tE_comp hW hif ht
end
end VL

/-! VL13: statements. -/
namespace VL
open PySem PySem.Spec PyProof.Rows L2

/-- no exception is wanted -/
def C0 : Ctx := ⟨fun _ _ _ _ _ => False, fun _ _ _ _ _ _ h => h⟩
theorem C0.no : ∀ k d σ ρ c, ¬ C0.W k d σ ρ c := fun _ _ _ _ _ h => h
/-- what stays through a def: the parameters that are not stored to -/
def Cst (cn : List Nat) (v0 : List V) (σ : L2.St) : Prop := ∀ i ∈ cn, ∃ v, v0[i]? = some v ∧ σ[i]? = some (some v)
theorem Cst.set {cn : List Nat} {v0 : List V} {σ : L2.St} {i : Nat} {x : Option V} (h : Cst cn v0 σ) (hi : i ∉ cn) : Cst cn v0 (σ.set i x) := fun j hj => by
  obtain ⟨v, e1, e2⟩ := h j hj
  exact ⟨v, e1, by rw [List.getElem?_set_ne (fun z : i = j => hi (by rw [z]; exact hj))]; exact e2⟩
theorem Cst.same {cn : List Nat} {v0 : List V} {σ σ' : L2.St} {is : List Nat} (h : Cst cn v0 σ) (s : SameBut is σ σ') (hi : ∀ i ∈ is, i ∉ cn) : Cst cn v0 σ' := fun j hj => by
  obtain ⟨v, e1, e2⟩ := h j hj
  exact ⟨v, e1, by rw [s.2 j (fun z => hi j z hj)]; exact e2⟩

section
variable {K : PySem.W.Frag} {cn : List Nat} {v0 : List V} {G : Calls} {H : Hp} {σ : L2.St} {D' : Ends} {i : Nat} {e e2 k : Ex} {c : List Cell}
def sP (K : PySem.W.Frag) (cn : List Nat) (v0 : List V) (Y : Ends) (c : List Cell) : Rs Rho Fl → Prop
  | .ok .nx ρ => ∀ σ H, Cst cn v0 σ → Fits σ ρ → Sat K H [] (cellsOf σ ρ ++ c) → Y.nx σ H
  | .ok .bk ρ => ∀ σ H, Cst cn v0 σ → Fits σ ρ → Sat K H [] (cellsOf σ ρ ++ c) → Y.bk σ H
  | .ok .ct ρ => ∀ σ H, Cst cn v0 σ → Fits σ ρ → Sat K H [] (cellsOf σ ρ ++ c) → Y.ct σ H
  | .ok (.rt d) ρ => ∀ σ v H, Cst cn v0 σ → Fits σ ρ → Sat K H [] ((v, d) :: (cellsOf σ ρ ++ c)) → Y.rt v H
  | _ => False
def tSs (K : PySem.W.Frag) (cn : List Nat) (v0 : List V) (r : Rho → Rs Rho Fl) : TS := fun Y σ H => ∃ ρ c, Cst cn v0 σ ∧ Fits σ ρ ∧ Sat K H [] (cellsOf σ ρ ++ c) ∧ sP K cn v0 Y c (r ρ)
/-- from an evaluation ahead -/
theorem sP.bind {α : Type} {Y : Ends} {r : Rs Rho α} {f : α → Rho → Rs Rho Fl} (h : sP K cn v0 Y c (r.bind f)) : rPost C0 σ c (fun a ρ => sP K cn v0 Y c (f a ρ)) r := by
  cases r with
  | ok a ρ => exact h
  | exn k d ρ => exact h
  | no => exact h
theorem sP.of {α : Type} {Y : Ends} {o : Option α} {ρ : Rho} {f : α → Rho → Rs Rho Fl} (h : sP K cn v0 Y c ((Rs.of ρ o).bind f)) : ∃ a, o = some a ∧ sP K cn v0 Y c (f a ρ) := by
  cases o with
  | none => exact h.elim
  | some a => exact ⟨a, rfl, h⟩
theorem bindT_nm {d : D} {ρ ρ' : Rho} (h : bindT (.nm i) d ρ = some ρ') : i < ρ.length ∧ ρ' = putS ρ i d := by
  simp only [bindT] at h
  by_cases hi : i < ρ.length
  · rw [if_pos hi] at h; exact ⟨hi, (Option.some.inj h).symm⟩
  · rw [if_neg hi] at h; cases h

/-! ### assignments -/
theorem tS_asg (hi : i ∉ cn) {Y : Ends} (h : tSs K cn v0 (execS G (.asg i e)) Y σ H) : tE K C0 G e σ H fun x H1 => gName i x σ H1 Y.nx := by
  obtain ⟨ρ, c, k, f, s, h⟩ := h
  refine ⟨ρ, c, f, s, (sP.bind h).mono fun d ρ1 q v H1 f1 s1 => ?_⟩
  obtain ⟨ρ2, e1, q⟩ := sP.of q
  obtain ⟨hl, rfl⟩ := bindT_nm e1
  exact q _ H1 (k.set hi) (f1.store hl) (store_cells f1 hl s1)
theorem tS_unp {t : Tg} (hi : ∀ i ∈ t.slots, i ∉ cn) {Y : Ends} (h : tSs K cn v0 (execS G (.unp t e)) Y σ H) : tAsg (tE K C0 G e) (tG K t) Y σ H := by
  obtain ⟨ρ, c, k, f, s, h⟩ := h
  refine ⟨ρ, c, f, s, (sP.bind h).mono fun d ρ1 q v H1 f1 s1 => ?_⟩
  obtain ⟨ρ2, e1, q⟩ := sP.of q
  exact ⟨ρ1, d, c, ρ2, f1, s1, e1, fun σ' H' sb f' s' => q σ' H' (k.same sb hi) f' s'⟩
theorem tS_par {j : Nat} (hi : i ∉ cn) (hj : j ∉ cn) {Y : Ends} (h : tSs K cn v0 (execS G (.par i j e e2)) Y σ H) : tPar i j (tCons (tE K C0 G e) (tCons (tE K C0 G e2) tNil)) Y σ H := by
  obtain ⟨ρ, c, k, f, s, h⟩ := h
  refine ⟨ρ, c, f, s, (sP.bind h).mono fun d ρ1 q v H1 f1 s1 => ?_⟩
  have s1' : Sat K H1 [] (cellsOf σ ρ1 ++ ((v, d) :: c)) := s1.perm List.perm_middle.symm
  refine ⟨ρ1, (v, d) :: c, f1, s1', (rPost.more [(v, d)] (sP.bind (σ := σ) q)).mono fun d2 ρ2 q v2 H2 f2 s2 => ?_⟩
  obtain ⟨ρ3, e3, q⟩ := sP.of q
  obtain ⟨ρ4, e4, q⟩ := sP.of q
  obtain ⟨hl, rfl⟩ := bindT_nm e3
  obtain ⟨hl2, rfl⟩ := bindT_nm e4
  refine ⟨v, v2, rfl, q _ H2 ((k.set hi).set hj) ((f2.store hl).store hl2) ?_⟩
  have s3 : Sat K H2 [] ((v, d) :: (cellsOf σ ρ2 ++ ((v2, d2) :: c))) := s2.perm (by
    refine (List.Perm.cons _ List.perm_middle).trans ((List.Perm.swap _ _ _).trans (List.Perm.cons _ ?_))
    exact List.perm_middle.symm)
  exact store_cells (f2.store hl) hl2 ((store_cells f2 hl s3).perm List.perm_middle)
theorem idx_list {K : PySem.W.Frag} {H : Hp} {cs : List Cell} {o : Bool} {xs : List D} {n : Int} {j : Nat} {v : V} (s : Sat K H [] cs) (k : Has K H [] cs v (.lst o xs)) (e : ixAt xs.length n = some j) : ∃ a vs, v = .ref a ∧ H a = some (.lst vs) ∧ ixN vs.length n = some j ∧ j < xs.length := by
  obtain ⟨a, vs, rfl, hv, hl, _⟩ := s.lst_of k
  refine ⟨a, vs, rfl, hv, ?_, (ixN_lt e).2⟩
  rw [hl]
  exact e
theorem tS_seti {Y : Ends} (h : tSs K cn v0 (execS G (.seti i k e)) Y σ H) : tAsg (tE K C0 G e) (gSub (tVar i) (tE K C0 G k) rSetL) Y σ H := by
  obtain ⟨ρ, c, kc, f, s, h⟩ := h
  refine ⟨ρ, c, f, s, (sP.bind h).mono fun d ρ1 q v H1 f1 s1 => ?_⟩
  have s1' : Sat K H1 [] (cellsOf σ ρ1 ++ ((v, d) :: c)) := s1.perm List.perm_middle.symm
  obtain ⟨d0, e0, q⟩ := sP.of q
  obtain ⟨w, ew⟩ := f1.2 i d0 e0
  refine ⟨w, ew, ρ1, (v, d) :: c, f1, s1', (rPost.more [(v, d)] (sP.bind (σ := σ) q)).mono fun x ρ2 q v2 H2 f2 s2 => ?_⟩
  obtain ⟨l, e1, q⟩ := sP.of q
  cases l with
  | lst o xs =>
    cases o with
    | false => exact q.elim
    | true =>
      obtain ⟨r, e2, q⟩ := sP.of q
      obtain ⟨n, rfl⟩ : ∃ n, x = .int n := by
        cases x with
        | int n => exact ⟨n, rfl⟩
        | _ => simp [mutL] at e2
      simp only [mutL] at e2
      obtain ⟨j, e2', rfl⟩ := Option.map_eq_some_iff.mp e2
      have en := s2.int_of .head
      subst en
      have s3 : Sat K H2 [] ((v, d) :: (w, .lst true xs) :: (cellsOf σ (goneS ρ2 i) ++ c)) := s2.tail.perm (by
        refine List.perm_middle.trans (List.Perm.cons _ ?_)
        exact (cells_take e1 ew).append_right c)
      obtain ⟨a, vs, rfl, hv, hix, hj⟩ := idx_list s3 (o := true) (xs := xs) (v := w) (.mem (by simp)) e2'
      refine ⟨a, vs, n, j, rfl, rfl, hv, hix, q _ _ kc (f2.put ew) ?_⟩
      exact (s3.setI hv hj).perm (((cells_put (d := .lst true (xs.set j d)) (getS_lt e1) ew).append_right c).symm)
  | _ => exact q.elim
theorem tS_dput {Y : Ends} (h : tSs K cn v0 (execS G (.dput i k e)) Y σ H) : sDPut (tVar i) (tE K C0 G k) (tE K C0 G e) Y σ H := by
  obtain ⟨ρ, c, kc, f, s, h⟩ := h
  refine ⟨ρ, c, f, s, (sP.bind h).mono fun d ρ1 q v H1 f1 s1 => ?_⟩
  have s1' : Sat K H1 [] (cellsOf σ ρ1 ++ ((v, d) :: c)) := s1.perm List.perm_middle.symm
  obtain ⟨d0, e0, q⟩ := sP.of q
  obtain ⟨w, ew⟩ := f1.2 i d0 e0
  refine ⟨w, ew, ρ1, (v, d) :: c, f1, s1', (rPost.more [(v, d)] (sP.bind (σ := σ) q)).mono fun x ρ2 q v2 H2 f2 s2 => ?_⟩
  obtain ⟨ky, ek, q⟩ := sP.of q
  obtain ⟨l, e1, q⟩ := sP.of q
  cases l with
  | dct o ks xs =>
    cases o with
    | false => exact q.elim
    | true =>
      have q : sP K cn v0 Y c (if ks.length < 16777216 ∧ d.isF = true then Rs.ok Fl.nx (putS ρ2 i (.dct true (putKV ky d ks xs).1 (putKV ky d ks xs).2)) else Rs.no) := q
      by_cases hc : ks.length < 16777216 ∧ d.isF = true
      case neg => rw [if_neg hc] at q; exact q.elim
      rw [if_pos hc] at q
      have en := s2.key_of .head ek
      subst en
      have s3 : Sat K H2 [] ((v, d) :: (w, .dct true ks xs) :: (cellsOf σ (goneS ρ2 i) ++ c)) := s2.tail.perm (by
        refine List.perm_middle.trans (List.Perm.cons _ ?_)
        exact (cells_take e1 ew).append_right c)
      obtain ⟨a, kvs, rfl, hv, hk, s4⟩ := s3.dput (k := ky) hc.2
      refine ⟨a, _, rfl, DPut.k hv (by
        have := congrArg List.length hk
        rw [List.length_map] at this
        rw [this, sl_eq]; exact hc.1), q _ _ kc (f2.put ew) ?_⟩
      exact s4.perm (((cells_put (d := .dct true (putKV ky d ks xs).1 (putKV ky d ks xs).2) (getS_lt e1) ew).append_right c).symm)
  | _ => exact q.elim
theorem flat_ref {K : PySem.W.Frag} {H : Hp} {cs : List Cell} {v : V} {d : D} (s : Sat K H [] cs) (k : Has K H [] cs v d) (f : d.flat = true) : ∀ a, v ≠ V.ref a := by
  cases d with
  | non => have := s.non_of k; subst this; intro a z; cases z
  | bl b => have := s.bl_of k; subst this; intro a z; cases z
  | int b => have := s.int_of k; subst this; intro a z; cases z
  | str b => obtain ⟨rfl, g⟩ := s.str_of k; intro a z; cases z
  | _ => simp [D.flat] at f
theorem tS_aug {p : Prim} {ti : TIp} (hi : i ∉ cn) (hp : ∀ {x y H Q}, (∀ a, x ≠ V.ref a) → PR K p [x, y] H Q → ti x y H Q) {Y : Ends} (h : tSs K cn v0 (execS G (.aug i p e)) Y σ H) : tAug i (tE K C0 G e) ti Y σ H := by
  obtain ⟨ρ, c, kc, f, s, h⟩ := h
  obtain ⟨x, e1, h⟩ := sP.of h
  by_cases hf : x.flat = true
  case neg => rw [if_neg hf] at h; exact h.elim
  rw [if_pos hf] at h
  obtain ⟨w, ew⟩ := f.2 i x e1
  have s0 : Sat K H [] ((w, x) :: (cellsOf σ (goneS ρ i) ++ c)) := s.perm ((cells_take e1 ew).append_right c)
  refine ⟨w, ew, ρ, c, f, s, (sP.bind h).mono fun y ρ1 q v H1 f1 s1 => ?_⟩
  obtain ⟨z, e2, q⟩ := sP.of q
  by_cases hz : z.isF = true
  case neg => rw [if_neg hz] at q; exact q.elim
  rw [if_pos hz] at q
  have s2 : Sat K H1 [] ((w, x) :: (v, y) :: (cellsOf σ ρ1 ++ c)) := flat_any s0 .head hf s1
  have hl : i < ρ1.length := by
    have h1 := f1.1
    have h2 := (List.getElem?_eq_some_iff.mp ew).1
    omega
  refine hp (flat_ref s2 (.mem (by simp)) hf) ⟨[x, y], _, z, e2, rfl, fun u hu => ?_, s2, fun v2 H2 s3 => ?_⟩
  · simp at hu; rcases hu with rfl | rfl <;> simp
  · have s4 : Sat K H2 [] ((v2, z) :: (cellsOf σ ρ1 ++ c)) := (s3.perm (List.perm_middle (l₁ := [(w, x), (v, y)])).symm |> Sat.drop (xs := [(w, x), (v, y)]))
    exact q _ H2 (kc.set hi) (f1.store hl) (store_cells f1 hl s4)
def rGetL (K : PySem.W.Frag) : V → V → Hp → VK → Prop := rIxL K
theorem tS_augi {p : Prim} {ti : TIp} (hp : ∀ {x y H Q}, (∀ a, x ≠ V.ref a) → PR K p [x, y] H Q → ti x y H Q) {Y : Ends} (h : tSs K cn v0 (execS G (.augi i k p e)) Y σ H) : tAugS (tVar i) (tE K C0 G k) (tE K C0 G e) (rIxL K) ti rSetL Y σ H := by
  obtain ⟨ρ, c, kc, f, s, h⟩ := h
  obtain ⟨d0, e0, h⟩ := sP.of h
  obtain ⟨w, ew⟩ := f.2 i d0 e0
  refine ⟨w, ew, ρ, c, f, s, (sP.bind h).mono fun n ρ1 q v H1 f1 s1 => ?_⟩
  obtain ⟨l, e1, q⟩ := sP.of q
  obtain ⟨x, e2, q⟩ := sP.of q
  by_cases hf : (isLst (some l) && x.flat) = true
  case neg => rw [if_neg hf] at q; exact q.elim
  rw [if_pos hf] at q
  have q9 := q
  clear q
  simp only [Bool.and_eq_true] at hf
  have s2 : Sat K H1 [] ((v, n) :: (w, l) :: (cellsOf σ (goneS ρ1 i) ++ c)) := s1.perm (List.Perm.cons _ ((cells_take e1 ew).append_right c))
  have hxF : x.isF = true := by cases x <;> first | rfl | simp [D.flat] at hf
  obtain ⟨o, xs, rfl⟩ : ∃ o xs, l = .lst o xs := by
    cases l with
    | lst o xs => exact ⟨o, xs, rfl⟩
    | _ => simp [isLst] at hf
  obtain ⟨m, j, rfl, e3, e4⟩ : ∃ m j, n = .int m ∧ ixAt xs.length m = some j ∧ xs[j]? = some x := by
    cases n with
    | int m =>
      simp only [prim] at e2
      obtain ⟨j, e3, e2⟩ := Option.bind_eq_some_iff.mp e2
      obtain ⟨x', e4, e2⟩ := Option.bind_eq_some_iff.mp e2
      by_cases f : x'.isF = true
      case neg => rw [if_neg f] at e2; cases e2
      rw [if_pos f] at e2
      cases e2
      exact ⟨m, j, rfl, e3, e4⟩
    | _ => simp [prim] at e2
  have en := s2.int_of .head
  subst en
  obtain ⟨a, vs, rfl, hv, hl, kk⟩ := s2.lst_of (v := w) (o := o) (ds := xs) (.mem (by simp))
  obtain ⟨xv, e5, hx⟩ := kk j x e4
  refine ⟨a, vs, m, xv, rfl, rfl, .inl (.inl hv), atI_of (by rw [hl]; exact e3) e5, ?_⟩
  have s3 : Sat K H1 [] (cellsOf σ ρ1 ++ ((.int m, .int m) :: c)) := s1.perm List.perm_middle.symm
  have s2x : Sat K H1 [] ((xv, x) :: (.int m, .int m) :: (.ref a, .lst o xs) :: (cellsOf σ (goneS ρ1 i) ++ c)) := s2.addH hx hxF
  refine ⟨ρ1, (.int m, .int m) :: c, f1, s3, (rPost.more [(.int m, .int m)] (sP.bind (σ := σ) q9)).mono fun y ρ2 q v2 H2 f2 s4 => ?_⟩
  obtain ⟨z, e6, q⟩ := sP.of q
  obtain ⟨l2, e7, q⟩ := sP.of q
  have s5 : Sat K H2 [] ((xv, x) :: (v2, y) :: (cellsOf σ ρ2 ++ ((.int m, .int m) :: c))) := flat_any s2x .head hf.2 s4
  refine hp (flat_ref s5 (.mem (by simp)) hf.2) ⟨[x, y], _, z, e6, rfl, fun u hu => ?_, s5, fun v3 H3 s6 => ?_⟩
  · simp at hu; rcases hu with rfl | rfl <;> simp
  · cases l2 with
    | lst o2 ys =>
      cases o2 with
      | false => exact q.elim
      | true =>
        obtain ⟨r, e8, q⟩ := sP.of q
        simp only [mutL] at e8
        obtain ⟨j2, e8', rfl⟩ := Option.map_eq_some_iff.mp e8
        have s7 : Sat K H3 [] ((v3, z) :: (.ref a, .lst true ys) :: (cellsOf σ (goneS ρ2 i) ++ c)) := by
          have s8 : Sat K H3 [] ((xv, x) :: (v2, y) :: (.int m, .int m) :: (v3, z) :: (cellsOf σ ρ2 ++ c)) := s6.perm (by
            refine (List.perm_middle (l₁ := [(xv, x), (v2, y)]) (a := (v3, z))).symm.trans ?_
            refine List.Perm.cons _ (List.Perm.cons _ ?_)
            refine (List.Perm.cons _ List.perm_middle).trans ?_
            exact List.Perm.swap _ _ _)
          exact (s8.tail.tail.tail).perm (List.Perm.cons _ ((cells_take e7 ew).append_right c))
        obtain ⟨a2, vs2, e9, hv2, hix, hj⟩ := idx_list s7 (v := .ref a) (o := true) (xs := ys) (.mem (by simp)) e8'
        cases e9
        refine ⟨a, vs2, m, j2, rfl, rfl, hv2, hix, q _ _ kc (f2.put ew) ?_⟩
        exact (s7.setI hv2 hj).perm (((cells_put (d := .lst true (ys.set j2 z)) (getS_lt e7) ew).append_right c).symm)
    | _ => exact q.elim
theorem tS_exp {Y : Ends} (h : tSs K cn v0 (execS G (.exp e)) Y σ H) : tDrop (tE K C0 G e) Y σ H := by
  obtain ⟨ρ, c, k, f, s, h⟩ := h
  exact ⟨ρ, c, f, s, (sP.bind h).mono fun d ρ1 q v H1 f1 s1 => (show sP K cn v0 Y c (.ok .nx ρ1) from q) σ H1 k f1 s1.tail⟩
theorem tS_ret {Y : Ends} (h : tSs K cn v0 (execS G (.ret e)) Y σ H) : tRet (tE K C0 G e) Y σ H := by
  obtain ⟨ρ, c, k, f, s, h⟩ := h
  exact ⟨ρ, c, f, s, (sP.bind h).mono fun d ρ1 q v H1 f1 s1 => (show sP K cn v0 Y c (.ok (.rt d) ρ1) from q) σ v H1 k f1 s1⟩
theorem tS_retN {Y : Ends} (h : tSs K cn v0 (execS G .retN) Y σ H) : tRetN Y σ H := by
  obtain ⟨ρ, c, k, f, s, h⟩ := h
  exact (show sP K cn v0 Y c (.ok (.rt .non) ρ) from h) σ .non H k f s.non
theorem tS_ifs {a b : Sms} {Y : Ends} (h : tSs K cn v0 (execS G (.ifs e a b)) Y σ H) : tIfS (tT K C0 G e) (tSs K cn v0 (execB G a)) (tSs K cn v0 (execB G b)) Y σ H := by
  obtain ⟨ρ, c, k, f, s, h⟩ := h
  refine ⟨ρ, c, f, s, (sP.bind h).mono fun d ρ1 q => ?_⟩
  cases d with
  | bl t =>
    refine ⟨t, rfl, fun H1 f1 s1 => ?_⟩
    cases t with
    | true => exact iteT ⟨ρ1, c, k, f1, s1, q⟩
    | false => exact iteF ⟨ρ1, c, k, f1, s1, q⟩
  | _ => exact q.elim
theorem tS_brk {Y : Ends} (h : tSs K cn v0 (execS G .brk) Y σ H) : tBreak Y σ H := by
  obtain ⟨ρ, c, k, f, s, h⟩ := h
  exact (show sP K cn v0 Y c (.ok .bk ρ) from h) σ H k f s
theorem tS_cnt {Y : Ends} (h : tSs K cn v0 (execS G .cnt) Y σ H) : tCont Y σ H := by
  obtain ⟨ρ, c, k, f, s, h⟩ := h
  exact (show sP K cn v0 Y c (.ok .ct ρ) from h) σ H k f s
theorem tS_pas {Y : Ends} (h : tSs K cn v0 (execS G .pas) Y σ H) : tNext Y σ H := by
  obtain ⟨ρ, c, k, f, s, h⟩ := h
  exact (show sP K cn v0 Y c (.ok .nx ρ) from h) σ H k f s
theorem tS_nil {Y : Ends} (h : tSs K cn v0 (execB G .nil) Y σ H) : tNext Y σ H := by
  obtain ⟨ρ, c, k, f, s, h⟩ := h
  exact (show sP K cn v0 Y c (.ok .nx ρ) from h) σ H k f s
theorem tS_cons {m : Sm} {ms : Sms} {Y : Ends} (h : tSs K cn v0 (execB G (.cons m ms)) Y σ H) : tSeq (tSs K cn v0 (execS G m)) (tSs K cn v0 (execB G ms)) Y σ H := by
  obtain ⟨ρ, c, k, f, s, h⟩ := h
  refine ⟨ρ, c, k, f, s, ?_⟩
  have h : sP K cn v0 Y c ((execS G m ρ).bind fun f ρ => match f with
    | .nx => execB G ms ρ
    | f => .ok f ρ) := h
  cases e : execS G m ρ with
  | no => rw [e] at h; exact h
  | exn k d ρ' => rw [e] at h; exact h
  | ok fl ρ' =>
    rw [e] at h
    cases fl with
    | nx => exact fun σ' H' k' f' s' => ⟨ρ', c, k', f', s', h⟩
    | bk => exact h
    | ct => exact h
    | rt d => exact h
/-- for -/
theorem tS_for {t : Tg} {it : It} {b : Sms} (hi : ∀ i ∈ t.slots, i ∉ cn) {Y : Ends} (h : tSs K cn v0 (execS G (.for t it b)) Y σ H) : tFor (tI K C0 G it) (tG K t) (tSs K cn v0 (execB G b)) Y σ H := by
  obtain ⟨ρ, c, kc, f, s, h⟩ := h
  refine ⟨ρ, c, f, s, (sP.bind h).mono fun ds ρ0 q J H1 hold src f0 s0 => ?_⟩
  let lp := fun (rest : List D) (ρi : Rho) => forL (bindT t) (fun ρ => execB G b ρ) rest ρi
  let Wf : Nat → Nat → L2.St → Hp → Prop := fun i m σi H => m = ds.length - i ∧ i ≤ ds.length ∧ ∃ ρi, Cst cn v0 σi ∧ Fits σi ρi ∧ Sat K H [] (hold ++ (cellsOf σi ρi ++ c)) ∧ sP K cn v0 Y c (lp (ds.drop i) ρi)
  refine ⟨Wf, ⟨ds.length, rfl, Nat.zero_le _, ρ0, kc, f0, s0, by rw [List.drop_zero]; exact q⟩, ?_⟩
  rintro i m σi H2 ⟨rfl, hi', ρi, ki, fi, s2, k2⟩
  by_cases hlt : i < ds.length
  · have hd : ds[i]? = some ds[i] := List.getElem?_eq_getElem hlt
    obtain ⟨hgo, hy⟩ := src.turn i ds[i] H2 [] _ hd s2
    rw [show ds.drop i = ds[i] :: ds.drop (i + 1) from List.drop_eq_getElem_cons hlt] at k2
    obtain ⟨ρ1, e1, k2⟩ := sP.of (show sP K cn v0 Y c ((Rs.of ρi (bindT t ds[i] ρi)).bind fun ρ1 _ => (execB G b ρ1).bind fun f ρ2 => match f with
      | .nx => lp (ds.drop (i + 1)) ρ2
      | .ct => lp (ds.drop (i + 1)) ρ2
      | .bk => .ok .nx ρ2
      | .rt d => .ok (.rt d) ρ2) from k2)
    refine .inr ⟨hgo, fun σ' H' => Wf (i + 1) (ds.length - (i + 1)) σ' H', fun σ' H' w => ⟨_, by omega, w⟩, fun x H3 y3 => ?_⟩
    have s3 := hy x H3 y3
    refine ⟨ρi, ds[i], hold ++ c, ρ1, fi, s3.perm (List.Perm.cons _ (List.perm_append_comm_assoc _ _ _)), e1, fun σ4 H4 sb4 f4 s4 => ⟨ρ1, hold ++ c, ki.same sb4 hi, f4, s4, ?_⟩⟩
    cases eb : execB G b ρ1 with
    | no => rw [eb] at k2; exact k2
    | exn k d ρ' => rw [eb] at k2; exact k2
    | ok fl ρ2 =>
      rw [eb] at k2
      cases fl with
      | nx => exact fun σ5 H5 k5 f5 s5 => ⟨rfl, hlt, ρ2, k5, f5, s5.perm (List.perm_append_comm_assoc _ _ _), k2⟩
      | ct => exact fun σ5 H5 k5 f5 s5 => ⟨rfl, hlt, ρ2, k5, f5, s5.perm (List.perm_append_comm_assoc _ _ _), k2⟩
      | bk => exact fun σ5 H5 k5 f5 s5 => (show sP K cn v0 Y c (.ok .nx ρ2) from k2) σ5 H5 k5 f5 (s5.perm (List.perm_append_comm_assoc _ _ _)).drop
      | rt d => exact fun σ5 v H5 k5 f5 s5 => (show sP K cn v0 Y c (.ok (.rt d) ρ2) from k2) σ5 v H5 k5 f5 (Sat.drop (xs := hold) (s5.perm (by
          refine (List.Perm.cons _ (List.perm_append_comm_assoc _ _ _)).trans ?_
          exact List.perm_middle.symm)))
  · have e : i = ds.length := by omega
    subst e
    refine .inl ⟨src.stop _ H2 [] _ rfl s2, ?_⟩
    rw [List.drop_length] at k2
    exact (show sP K cn v0 Y c (.ok .nx ρi) from k2) σi H2 ki fi s2.drop
/-- the slot i is constant as well -/
theorem Cst.more {v : V} (h : Cst cn v0 σ) (hi : σ[i]? = some (some v)) : ∃ v1, Cst (i :: cn) v1 σ ∧ ∀ σ', Cst (i :: cn) v1 σ' → Cst cn v0 σ' ∧ σ'[i]? = some (some v) := by
  refine ⟨(List.range (i + 1 + v0.length)).map fun j => if j = i then v else (v0[j]?).getD v, ?_, ?_⟩
  · have e0 : ((List.range (i + 1 + v0.length)).map fun j => if j = i then v else (v0[j]?).getD v)[i]? = some v := by
      rw [List.getElem?_map, List.getElem?_range (by omega)]
      simp
    intro j hj
    by_cases q : j = i
    · subst q
      exact ⟨v, e0, hi⟩
    · obtain ⟨w, h1, h2⟩ := h j ((List.mem_cons.mp hj).resolve_left q)
      have hl : j < v0.length := (List.getElem?_eq_some_iff.mp h1).1
      refine ⟨w, ?_, h2⟩
      rw [List.getElem?_map, List.getElem?_range (by omega)]
      simp [q, h1]
  · intro σ' h'
    have hv : σ'[i]? = some (some v) := by
      obtain ⟨w, h1, h2⟩ := h' i (by simp)
      rw [List.getElem?_map, List.getElem?_range (by omega)] at h1
      simp at h1
      rw [h1]
      exact h2
    refine ⟨fun j hj => ?_, hv⟩
    by_cases q : j = i
    · subst q
      obtain ⟨w, h1, h2⟩ := h j hj
      rw [hi] at h2
      cases h2
      exact ⟨v, h1, hv⟩
    · obtain ⟨w, h1, h2⟩ := h' j (by simp [hj])
      obtain ⟨w0, h3, h4⟩ := h j hj
      have hl : j < v0.length := (List.getElem?_eq_some_iff.mp h3).1
      rw [List.getElem?_map, List.getElem?_range (by omega)] at h1
      simp [q, h3] at h1
      rw [h1] at h3
      exact ⟨w, h3, h2⟩
/-- for over a list that stays one's own -/
theorem tS_forK {t : Tg} {b : Sms} (hi : ∀ j ∈ t.slots, j ∉ i :: cn) {Y : Ends} (h : tSs K cn v0 (execS G (.forK i t b)) Y σ H) : tFor (iAny K (tVar i)) (tG K t) (fun Y σ H => ∃ v1, tSs K (i :: cn) v1 (execB G b) Y σ H) Y σ H := by
  obtain ⟨ρ, c, kc, f, s, h⟩ := h
  obtain ⟨d, e1, h⟩ := sP.of (show sP K cn v0 Y c ((Rs.of ρ (getS ρ i)).bind fun d _ => (Rs.of ρ (lstOf d)).bind fun ds _ => (forL (bindT t) (fun ρ => execB G b ρ) ds (goneS ρ i)).bind fun f ρ' => .ok f (putS ρ' i d)) from h)
  obtain ⟨ds, e2, h⟩ := sP.of h
  obtain ⟨o, rfl, hF⟩ := lstOf_ok e2
  obtain ⟨v, ev⟩ := f.2 i _ e1
  have hil := getS_lt e1
  have p := cells_take e1 ev
  have s1 : Sat K H [] ((v, .lst o ds) :: (cellsOf σ (goneS ρ i) ++ c)) := s.perm (p.append_right c)
  obtain ⟨a, vs, rfl, hv, _⟩ := s1.lst_of .head
  obtain ⟨v1, k1, kb⟩ := kc.more ev
  refine ⟨.ref a, ev, .inl ⟨a, rfl, ⟨vs, .inl (.inl hv)⟩, ?_⟩⟩
  let hold : List Cell := [(.ref a, .lst o ds)]
  have src : Src K (Itl K a) ds hold := src_list hF
  let lp := fun (rest : List D) (ρi : Rho) => (forL (bindT t) (fun ρ => execB G b ρ) rest ρi).bind fun f ρ' => Rs.ok f (putS ρ' i (.lst o ds))
  let Wf : Nat → Nat → L2.St → Hp → Prop := fun n m σi H => m = ds.length - n ∧ n ≤ ds.length ∧ ∃ ρi, Cst (i :: cn) v1 σi ∧ Fits σi ρi ∧ Sat K H [] (hold ++ (cellsOf σi ρi ++ c)) ∧ sP K cn v0 Y c (lp (ds.drop n) ρi)
  have hend : ∀ (σ5 : L2.St) (ρ2 : Rho) (H5 : Hp) (xs : List Cell), Cst (i :: cn) v1 σ5 → Fits σ5 ρ2 → Sat K H5 [] (xs ++ (hold ++ (cellsOf σ5 ρ2 ++ c))) → Cst cn v0 σ5 ∧ Fits σ5 (putS ρ2 i (.lst o ds)) ∧ Sat K H5 [] (xs ++ (cellsOf σ5 (putS ρ2 i (.lst o ds)) ++ c)) := fun σ5 ρ2 H5 xs k5 f5 s5 => by
    obtain ⟨q1, q2⟩ := kb σ5 k5
    have hl2 : i < ρ2.length := by
      have := f5.1
      have := (List.getElem?_eq_some_iff.mp q2).1
      omega
    refine ⟨q1, f5.put q2, ?_⟩
    obtain ⟨l, pl⟩ := cells_gone (i := i) f5
    have pp := cells_put (ρ := ρ2) (σ := σ5) (i := i) (d := .lst o ds) (v := .ref a) hl2 q2
    have s6 : Sat K H5 [] (l ++ (xs ++ (hold ++ (cellsOf σ5 (goneS ρ2 i) ++ c)))) := s5.perm (by
      have h1 : (xs ++ (hold ++ (cellsOf σ5 ρ2 ++ c))).Perm (xs ++ (hold ++ ((l ++ cellsOf σ5 (goneS ρ2 i)) ++ c))) := ((pl.append_right c).append_left hold).append_left xs
      refine h1.trans ?_
      rw [List.append_assoc]
      have h2 : (hold ++ (l ++ (cellsOf σ5 (goneS ρ2 i) ++ c))).Perm (l ++ (hold ++ (cellsOf σ5 (goneS ρ2 i) ++ c))) := List.perm_append_comm_assoc _ _ _
      exact (h2.append_left xs).trans (List.perm_append_comm_assoc _ _ _))
    exact s6.drop.perm ((((pp.append_right c).symm).append_left xs))
  refine ⟨Wf, ⟨ds.length, rfl, Nat.zero_le _, goneS ρ i, k1, f.gone, s1, by rw [List.drop_zero]; exact h⟩, ?_⟩
  rintro n m σi H2 ⟨rfl, hi', ρi, ki, fi, s2, k2⟩
  by_cases hlt : n < ds.length
  · have hd : ds[n]? = some ds[n] := List.getElem?_eq_getElem hlt
    obtain ⟨hgo, hy⟩ := src.turn n ds[n] H2 [] _ hd s2
    rw [show ds.drop n = ds[n] :: ds.drop (n + 1) from List.drop_eq_getElem_cons hlt] at k2
    have k3 : sP K cn v0 Y c ((Rs.of ρi (bindT t ds[n] ρi)).bind fun ρ1 _ => (execB G b ρ1).bind fun f ρ2 => match f with
      | .nx => lp (ds.drop (n + 1)) ρ2
      | .ct => lp (ds.drop (n + 1)) ρ2
      | .bk => .ok .nx (putS ρ2 i (.lst o ds))
      | .rt d => .ok (.rt d) (putS ρ2 i (.lst o ds))) := by
      have e : lp (ds[n] :: ds.drop (n + 1)) ρi = ((Rs.of ρi (bindT t ds[n] ρi)).bind fun ρ1 _ => (execB G b ρ1).bind fun f ρ2 => match f with
        | .nx => lp (ds.drop (n + 1)) ρ2
        | .ct => lp (ds.drop (n + 1)) ρ2
        | .bk => .ok .nx (putS ρ2 i (.lst o ds))
        | .rt d => .ok (.rt d) (putS ρ2 i (.lst o ds))) := by
        show ((Rs.of ρi (bindT t ds[n] ρi)).bind fun ρ1 _ => (execB G b ρ1).bind fun f ρ2 => match f with
          | .nx => forL (bindT t) (fun ρ => execB G b ρ) (ds.drop (n + 1)) ρ2
          | .ct => forL (bindT t) (fun ρ => execB G b ρ) (ds.drop (n + 1)) ρ2
          | .bk => .ok .nx ρ2
          | .rt d => .ok (.rt d) ρ2).bind (fun f ρ' => Rs.ok f (putS ρ' i (.lst o ds))) = _
        cases bindT t ds[n] ρi with
        | none => rfl
        | some ρ1 =>
          show ((execB G b ρ1).bind _).bind _ = (execB G b ρ1).bind _
          cases execB G b ρ1 with
          | no => rfl
          | exn k d s => rfl
          | ok fl s => cases fl <;> rfl
      rw [← e]
      exact k2
    obtain ⟨ρ1, e3, k2⟩ := sP.of k3
    refine .inr ⟨hgo, fun σ' H' => Wf (n + 1) (ds.length - (n + 1)) σ' H', fun σ' H' w => ⟨_, by omega, w⟩, fun x H3 y3 => ?_⟩
    have s3 := hy x H3 y3
    refine ⟨ρi, ds[n], hold ++ c, ρ1, fi, s3.perm (List.Perm.cons _ (List.perm_append_comm_assoc _ _ _)), e3, fun σ4 H4 sb4 f4 s4 => ⟨v1, ρ1, hold ++ c, ki.same sb4 hi, f4, s4, ?_⟩⟩
    cases eb : execB G b ρ1 with
    | no => rw [eb] at k2; exact k2
    | exn k d ρ' => rw [eb] at k2; exact k2
    | ok fl ρ2 =>
      rw [eb] at k2
      cases fl with
      | nx => exact fun σ5 H5 k5 f5 s5 => ⟨rfl, hlt, ρ2, k5, f5, s5.perm (List.perm_append_comm_assoc _ _ _), k2⟩
      | ct => exact fun σ5 H5 k5 f5 s5 => ⟨rfl, hlt, ρ2, k5, f5, s5.perm (List.perm_append_comm_assoc _ _ _), k2⟩
      | bk =>
          intro σ5 H5 k5 f5 s5
          obtain ⟨q1, q2, q3⟩ := hend σ5 ρ2 H5 [] k5 f5 (s5.perm (List.perm_append_comm_assoc _ _ _))
          exact (show sP K cn v0 Y c (.ok .nx (putS ρ2 i (.lst o ds))) from k2) σ5 H5 q1 q2 q3
      | rt d =>
          intro σ5 v H5 k5 f5 s5
          obtain ⟨q1, q2, q3⟩ := hend σ5 ρ2 H5 [(v, d)] k5 f5 (s5.perm (List.Perm.cons _ (List.perm_append_comm_assoc _ _ _)))
          exact (show sP K cn v0 Y c (.ok (.rt d) (putS ρ2 i (.lst o ds))) from k2) σ5 v H5 q1 q2 q3
  · have e : n = ds.length := by omega
    subst e
    refine .inl ⟨src.stop _ H2 [] _ rfl s2, ?_⟩
    rw [List.drop_length] at k2
    obtain ⟨q1, q2, q3⟩ := hend σi ρi H2 [] ki fi s2
    exact (show sP K cn v0 Y c (.ok .nx (putS ρi i (.lst o ds))) from k2) σi H2 q1 q2 q3
/-- while -/
theorem tS_whl {b : Sms} {Y : Ends} (h : tSs K cn v0 (execS G (.whl e b)) Y σ H) : tWhile (tT K C0 G e) (tSs K cn v0 (execB G b)) Y σ H := by
  obtain ⟨ρ, c, kc, f, s, h⟩ := h
  let lp := fun (n : Nat) (ρi : Rho) => whlL (fun ρ => evalE G e ρ) (fun ρ => execB G b ρ) n ρi
  let Wf : Nat → L2.St → Hp → Prop := fun m σi H => ∃ ρi, Cst cn v0 σi ∧ Fits σi ρi ∧ Sat K H [] (cellsOf σi ρi ++ c) ∧ sP K cn v0 Y c (lp m ρi)
  refine ⟨Wf, ⟨whlMost, ρ, kc, f, s, h⟩, ?_⟩
  rintro m σi H2 ⟨ρi, ki, fi, s2, k2⟩
  cases m with
  | zero => exact k2.elim
  | succ m =>
    have k2 := sP.bind (σ := σi) (show sP K cn v0 Y c ((evalE G e ρi).bind fun x ρ1 => match x with
      | .bl t => if t = true then (execB G b ρ1).bind fun f ρ2 => match f with
          | .nx => lp m ρ2
          | .ct => lp m ρ2
          | .bk => .ok .nx ρ2
          | .rt d => .ok (.rt d) ρ2
        else .ok .nx ρ1
      | _ => .no) from k2)
    refine ⟨ρi, c, fi, s2, k2.mono fun d ρ1 q => ?_⟩
    cases d with
    | bl t =>
      refine ⟨t, rfl, fun H3 f3 s3 => ?_⟩
      cases t with
      | false => exact iteF ((show sP K cn v0 Y c (.ok .nx ρ1) from q) σi H3 ki f3 s3)
      | true =>
        refine iteT ⟨fun σ' H' => Wf m σ' H', fun σ' H' w => ⟨m, Nat.lt_succ_self _, w⟩, ρ1, c, ki, f3, s3, ?_⟩
        have q : sP K cn v0 Y c ((execB G b ρ1).bind fun f ρ2 => match f with
          | .nx => lp m ρ2
          | .ct => lp m ρ2
          | .bk => .ok .nx ρ2
          | .rt d => .ok (.rt d) ρ2) := q
        cases eb : execB G b ρ1 with
        | no => rw [eb] at q; exact q
        | exn k d ρ' => rw [eb] at q; exact q
        | ok fl ρ2 =>
          rw [eb] at q
          cases fl with
          | nx => exact fun σ5 H5 k5 f5 s5 => ⟨ρ2, k5, f5, s5, q⟩
          | ct => exact fun σ5 H5 k5 f5 s5 => ⟨ρ2, k5, f5, s5, q⟩
          | bk => exact q
          | rt d => exact q
    | _ => exact q.elim
end
end VL

/-! VL14: the matcher of expressions, and that it is sound. -/
namespace VL
open PySem PySem.Spec PyProof.Rows L2

structure MCtx where
  N : List Str
  bl : List Str
  fns : List (Str × Nat)
  cI : List (Str × Int)
  cS : List (Str × List Nat)

def visB (sc : Scope) (x : Str) : Bool := match sc.names.lookup x with
  | some .local => true
  | some .cell => true
  | some .free => true
  | _ => false
def gloB (sc : Scope) (x : Str) : Bool := match sc.names.lookup x with
  | some .globalImplicit => true
  | _ => false
def plainN (x : Str) : Bool := !(x == ("__debug__" : Str)) && !(x == ("__classdict__" : Str)) && !decide (x = ("__name__" : Str))
def nameB (M : MCtx) (sc : Scope) (i : Nat) (x : Str) : Bool := decide (M.N[i]? = some x) && visB sc x && plainN x
/-- a built-in's name -/
def bltB (M : MCtx) (sc : Scope) (x : Str) : Bool := gloB sc x && M.bl.contains x && plainN x
def strGoodB (l : List Nat) : Bool := decide (l.length ≤ 16777216) && l.all fun k => decide (k < 0x110000)
def noStar : Expr → Bool
  | .Starred _ _ => false
  | _ => true
def noIf : Expr → Bool
  | .IfExp _ _ _ _ => false
  | _ => true
def noComp : Expr → Bool
  | .ListComp _ _ _ _ => false
  | .SetComp _ _ _ _ => false
  | .DictComp _ _ _ _ _ => false
  | _ => true
def binB : Prim → Operator → Bool
  | .add, .Add => true
  | .sub, .Sub => true
  | .mul, .Mult => true
  | .fdiv, .FloorDiv => true
  | .mod, .Mod => true
  | .pow, .Pow => true
  | _, _ => false
def cmpB : Prim → CmpOp → Bool
  | .eq, .Eq => true
  | .ne, .NotEq => true
  | .lt, .Lt => true
  | .le, .LtE => true
  | .gt, .Gt => true
  | .ge, .GtE => true
  | .inn, .In => true
  | .nin, .NotIn => true
  | .isB, .Is => true
  | .niB, .IsNot => true
  | _, _ => false
/-- the built-in that a primitive is: its name, whether it is a type -/
def bltOf : Prim → Option (String × Bool)
  | .len => some ("len", false)
  | .abs => some ("abs", false)
  | .toInt => some ("int", true)
  | .toList => some ("list", true)
  | .sum => some ("sum", false)
  | .all => some ("all", false)
  | .any => some ("any", false)
  | .min2 => some ("min", false)
  | .max2 => some ("max", false)
  | .sorted => some ("sorted", false)
  | .max1 => some ("max", false)
  | .min1 => some ("min", false)
  | _ => none
def baseB : Expr → Bool
  | .Call _ _ _ _ => false
  | _ => true
/-- a method's call with one argument: the sides -/
def msideB (o a : Expr) (apos cpos : Pos) : Bool := baseB o && noStar a && (apos.endLine == cpos.line)

/-- the operands of a primitive -/
def shape (M : MCtx) (sc : Scope) (p : Prim) : Expr → Option (List Expr)
  | .BinOp a op b _ => if binB p op = true then some [a, b] else none
  | .UnaryOp op a _ => match op with
    | .USub => if p = .neg then some [a] else none
    | _ => none
  | .Compare a ops bs _ => match ops, bs with
    | [op], [b] => if p = .isN ∨ p = .notN then
        (match op, b with
        | .Is, .Constant .none _ _ => if p = .isN then some [a] else none
        | .IsNot, .Constant .none _ _ => if p = .notN then some [a] else none
        | _, _ => none)
      else if (cmpB p op && !behindInMarks op b) = true then some [a, b]
      else if (decide (p = .din) && decide (op = .In) && !behindInMarks op b) = true then some [a, b]
      else if (decide (p = .dnin) && decide (op = .NotIn) && !behindInMarks op b) = true then some [a, b] else none
    | _, _ => none
  | .Subscript a s _ => match s with
    | .Slice (some b) (some c) none _ => if p = .slLH then some [a, b, c] else none
    | .Slice (some b) none none _ => if p = .slL then some [a, b] else none
    | .Slice none (some b) none _ => if p = .slH then some [a, b] else none
    | .Slice none none (some (.UnaryOp .USub (.Constant (.int 1) _ _) _)) _ => if p = .rev then some [a] else none
    | .Slice _ _ _ _ => none
    | b => if p = .idx ∨ p = .dget then some [a, b] else none
  | .Call f args kws cpos => match kws with
    | [] => match f with
      | .Name x _ => match p with
        | .isI k => match args with
          | [a, .Name y _] => if (decide (x = ("isinstance" : Str)) && bltB M sc x && bltB M sc y && decide (y = Str.ofString k.nm) && noStar a) = true then some [a] else none
          | _ => none
        | .lrng1 => match args with
          | [.Call (.Name r _) [a] [] _] => if (decide (x = ("list" : Str)) && bltB M sc x && decide (r = ("range" : Str)) && bltB M sc r && noStar a) = true then some [a] else none
          | _ => none
        | .lrng2 => match args with
          | [.Call (.Name r _) [a, b] [] _] => if (decide (x = ("list" : Str)) && bltB M sc x && decide (r = ("range" : Str)) && bltB M sc r && noStar a && noStar b) = true then some [a, b] else none
          | _ => none
        | .lrng3 => match args with
          | [.Call (.Name r _) [a, b, c] [] _] => if (decide (x = ("list" : Str)) && bltB M sc x && decide (r = ("range" : Str)) && bltB M sc r && noStar a && noStar b && noStar c) = true then some [a, b, c] else none
          | _ => none
        | p => match bltOf p with
          | some (n, _) => match args with
            | a :: rest => if (decide (x = Str.ofString n) && bltB M sc x && noStar a && rest.all noStar) = true then some (a :: rest) else none
            | [] => none
          | none => none
      | .Attribute o m apos => match args with
        | [a] => if (decide (p = .join) && decide (m = ("join" : Str)) && msideB o a apos cpos) = true then some [o, a]
          else if (decide (p = .sindex) && decide (m = ("index" : Str)) && msideB o a apos cpos) = true then some [o, a]
          else if (decide (p = .scount) && decide (m = ("count" : Str)) && msideB o a apos cpos) = true then some [o, a] else none
        | _ => none
      | _ => none
    | _ => none
  | _ => none
def stripE : Ex → Ex
  | .ckI e => e
  | .ckS e => e
  | .ckL e => e
  | e => e
def okPrm : Prim → Exs → Bool
  | .slLH, .cons _ (.cons (.ckI _) (.cons (.ckI _) .nil)) => true
  | .slLH, _ => false
  | .slL, .cons _ (.cons (.ckI _) .nil) => true
  | .slL, _ => false
  | .slH, .cons _ (.cons (.ckI _) .nil) => true
  | .slH, _ => false
  | .join, .cons (.ckS _) (.cons _ .nil) => true
  | .join, _ => false
  | .sindex, .cons (.ckS _) (.cons _ .nil) => true
  | .sindex, _ => false
  | .scount, .cons (.ckS _) (.cons _ .nil) => true
  | .scount, _ => false
  | _, _ => true
def nonPk : Ex → Bool
  | .pk _ => false
  | _ => true

/-- targets -/
def matG (M : MCtx) (sc : Scope) (fc : Str → Bool) : Tg → Expr → Bool
  | .nm i, .Name x _ => decide (M.N[i]? = some x) && (match sc.names.lookup x with
    | some .local => true
    | some .cell => fc x
    | _ => false)
  | .tp a r, .Tuple es _ _ => (Tg.tp a r).ok && matGs M sc fc (.tp a r) es
  | _, _ => false
where
  matGs (M : MCtx) (sc : Scope) (fc : Str → Bool) : Tg → List Expr → Bool
  | .en, [] => true
  | .tp a r, e :: es => noStar e && matG M sc fc a e && matGs M sc fc r es
  | _, _ => false
end VL

/-! VL15: the matcher of expressions is sound: leaves and primitives. -/
namespace VL
open PySem PySem.Spec PyProof.Rows L2

structure XOk (M : MCtx) (G : Calls) (k : Nat) (sc : Scope) (fc : Str → Bool) (X : Cx) : Prop where
  n : X.N = M.N
  nd : M.N.Nodup
  calm : X.calm = true
  room : Room k X.A
  scp : X.env.scope = sc
  kind : X.env.scope.kind = .function
  fc : ∀ x, fc x = true → X.fn x = true
  bl : ∀ x ∈ M.bl, X.mg x = none
  fns : ∀ p ∈ M.fns, ∃ fa fd ps n, FnOk X.prog X.w X.K X.mg X.base CX0 k fa fd ps (spV X.K G n p.2) ∧ X.mg p.1 = some (.ref fa) ∧ PySem.W.keepIn X.K (.ref fa) = true ∧ Binds X.K fd ps [] ∧ (∀ ds d rs, G p.2 ds = .ok d rs → ds.length = n)
  cI : ∀ p ∈ M.cI, ∃ t, X.mg p.1 = some (.int p.2 t)
  cS : ∀ p ∈ M.cS, ∃ t, X.mg p.1 = some (.str ⟨p.2.toArray⟩ t)

structure Okk (X : Cx) (G : Calls) (x : Ex) (e : Expr) : Prop where
  pe : PE X e (tE X.K C0 G x)
  po : PE X e (tO X.K C0 G x)
  st : PE X e (tE X.K C0 G (stripE x))
  pt : noIf e = true → PT X e (tT X.K C0 G x)
inductive AllO (X : Cx) (G : Calls) : Exs → List Expr → Prop
  | nil : AllO X G .nil []
  | cons {x : Ex} {e : Expr} {xs : Exs} {es : List Expr} : Okk X G x e → AllO X G xs es → AllO X G (.cons x xs) (e :: es)

section
variable {M : MCtx} {G : Calls} {k : Nat} {sc : Scope} {fc : Str → Bool} {X : Cx} {x : Ex} {xs : Exs} {e a b c : Expr} {es : List Expr} {i : Nat} {y : Str} {pos : Pos}
theorem isT_of (h : noIf e = true) (h2 : ∀ op a p, e ≠ .UnaryOp op a p) (h3 : ∀ op a p, e ≠ .BoolOp op a p) (h4 : ∀ a b c p, e ≠ .Compare a b c p) : ∀ whole, isTrue e X.env whole = (do let v ← whole; standAt e.pos; holding [v] (truthy v)) := by
  cases e with
  | UnaryOp op a p => exact absurd rfl (h2 _ _ _)
  | BoolOp op a p => exact absurd rfl (h3 _ _ _)
  | Compare a b c p => exact absurd rfl (h4 _ _ _ _)
  | IfExp _ _ _ _ => simp [noIf] at h
  | _ => exact fun _ => rfl
theorem Okk.mk1 (hp : PE X e (tE X.K C0 G x)) (hx : ∀ i, x ≠ .pk i) (hs : stripE x = x) (ht : noIf e = true → PT X e (tT X.K C0 G x)) : Okk X G x e := ⟨hp, so_of hp hx, by rw [hs]; exact hp, ht⟩
theorem Okk.mk2 (hp : PE X e (tE X.K C0 G x)) (hx : ∀ i, x ≠ .pk i) (hs : stripE x = x) (h2 : ∀ op a p, e ≠ .UnaryOp op a p) (h3 : ∀ op a p, e ≠ .BoolOp op a p) (h4 : ∀ a b c p, e ≠ .Compare a b c p) : Okk X G x e :=
  .mk1 hp hx hs fun h => st_val hp (isT_of h h2 h3 h4)

/-! ### side conditions -/
theorem star_of (h : noStar e = true) : starEach (e :: es) X.env = (false, eval e X.env) :: starEach es X.env := by
  cases e <;> first | rfl | (simp [noStar] at h)
theorem stars_of (h : es.all noStar = true) {pos : Pos} : (backTo pos (starEach es X.env)).any (·.1) = false := by
  induction es with
  | nil => rfl
  | cons e es ih =>
    simp only [List.all_cons, Bool.and_eq_true] at h
    rw [star_of h.1]
    simp only [backTo, List.map_cons, List.any_cons]
    have := ih h.2
    simp only [backTo] at this
    rw [this]
    rfl
theorem AllO.pa : ∀ {xs : Exs} {es : List Expr}, AllO X G xs es → es.all noStar = true → PA X es (taO X.K C0 G xs)
  | _, _, .nil, _ => sa_nil
  | _, _, .cons h r, hs => by
    simp only [List.all_cons, Bool.and_eq_true] at hs
    exact sa_cons h.po (r.pa hs.2) (star_of hs.1)
theorem AllO.paS : ∀ {xs : Exs} {es : List Expr}, AllO X G xs es → es.all noStar = true → PA X es (taS X.K C0 G xs)
  | _, _, .nil, _ => sS_nil
  | _, _, .cons h r, hs => by
    simp only [List.all_cons, Bool.and_eq_true] at hs
    exact sS_cons h.pe (r.paS hs.2) (star_of hs.1)
theorem AllO.len : ∀ {xs : Exs} {es : List Expr}, AllO X G xs es → es.length = xs.len
  | _, _, .nil => rfl
  | _, _, .cons _ r => by simp [Exs.len, r.len]
theorem vis_of (h : visB sc y = true) (e : X.env.scope = sc) : Vis X.env.scope y := by
  rw [e]
  unfold visB at h
  unfold Vis
  split at h <;> simp_all
theorem gl_of (O : XOk M G k sc fc X) (h : gloB sc y = true) : Gl X y := by
  unfold Gl Env.kindOf
  rw [O.scp]
  unfold gloB at h
  split at h
  · assumption
  · cases h
theorem plain_of (h : plainN y = true) : (y == ("__debug__" : Str)) = false ∧ (y == ("__classdict__" : Str)) = false ∧ y ≠ "__name__" := by
  simp only [plainN, Bool.and_eq_true, Bool.not_eq_true', decide_eq_false_iff_not] at h
  exact ⟨h.1.1, h.1.2, h.2⟩
theorem name_of (O : XOk M G k sc fc X) (h : nameB M sc i y = true) : X.N[i]? = some y ∧ Vis X.env.scope y ∧ (y == ("__debug__" : Str)) = false ∧ (y == ("__classdict__" : Str)) = false := by
  simp only [nameB, Bool.and_eq_true, decide_eq_true_eq] at h
  exact ⟨by rw [O.n]; exact h.1.1, vis_of h.1.2 O.scp, (plain_of h.2).1, (plain_of h.2).2.1⟩
theorem blt_of (O : XOk M G k sc fc X) (h : bltB M sc y = true) : Gl X y ∧ X.mg y = none ∧ (y == ("__debug__" : Str)) = false ∧ y ≠ "__name__" := by
  simp only [bltB, Bool.and_eq_true, List.contains_iff_mem] at h
  exact ⟨gl_of O h.1.1, O.bl _ h.1.2, (plain_of h.2).1, (plain_of h.2).2.2⟩
theorem strGood_of {l : List Nat} (h : strGoodB l = true) : strGood l := by
  simp only [strGoodB, Bool.and_eq_true, decide_eq_true_eq, List.all_eq_true] at h
  exact h
theorem mside_of {o : Expr} {apos cpos : Pos} {nm : Str} (h : msideB o a apos cpos = true) : MSide X o a [] nm apos cpos := by
  simp only [msideB, Bool.and_eq_true] at h
  obtain ⟨⟨h1, h2⟩, h3⟩ := h
  have hs := star_of (X := X) (es := []) h2
  refine ⟨?_, ?_, h3, hs, rfl⟩
  · cases o <;> first | rfl | (simp [baseB] at h1)
  · rw [hs]; rfl
theorem Okk.var (O : XOk M G k sc fc X) (h : nameB M sc i y = true) : Okk X G (.var i) (.Name y pos) := by
  obtain ⟨h1, h2, h3, h4⟩ := name_of O h
  exact .mk2 (se_var h1 h2 h3 h4) (by intros; simp) rfl (by intros; simp) (by intros; simp) (by intros; simp)
theorem Okk.mov (O : XOk M G k sc fc X) (h : nameB M sc i y = true) : Okk X G (.mov i) (.Name y pos) := by
  obtain ⟨h1, h2, h3, h4⟩ := name_of O h
  exact .mk2 (se_mov h1 h2 h3 h4) (by intros; simp) rfl (by intros; simp) (by intros; simp) (by intros; simp)
theorem Okk.pk (O : XOk M G k sc fc X) (h : nameB M sc i y = true) : Okk X G (.pk i) (.Name y pos) := by
  obtain ⟨h1, h2, h3, h4⟩ := name_of O h
  exact ⟨se_pk h1 h2 h3 h4, so_pk h1 h2 h3 h4, se_pk h1 h2 h3 h4, fun h => st_val (se_pk h1 h2 h3 h4) (fun _ => rfl)⟩
theorem Okk.ckI (h : Okk X G x e) : Okk X G (.ckI x) e := by
  have p : PE X e (tE X.K C0 G (.ckI x)) := PE.imp h.pe fun _ _ _ t => tE_mono (tE_ckI t) fun v H ⟨i, e, q⟩ => by rw [e]; exact q
  exact ⟨p, so_of p (by intros; simp), h.pe, fun hn => PT.imp (h.pt hn) fun σ H Q ⟨ρ, c, f, s, r⟩ => ⟨ρ, c, f, s, (rPost.bind r).mono fun d ρ1 q => by
    cases d with
    | int i => exact (show bPost X.K C0 σ c Q (.int i) ρ1 from q)
    | _ => exact q.elim⟩⟩
theorem Okk.ckS (h : Okk X G x e) : Okk X G (.ckS x) e := by
  have p : PE X e (tE X.K C0 G (.ckS x)) := PE.imp h.pe fun _ _ _ t => tE_mono (tE_ckS t) fun v H ⟨e, q⟩ => q
  exact ⟨p, so_of p (by intros; simp), h.pe, fun hn => PT.imp (h.pt hn) fun σ H Q ⟨ρ, c, f, s, r⟩ => ⟨ρ, c, f, s, (rPost.bind r).mono fun d ρ1 q => by
    cases d with
    | str i => exact (show bPost X.K C0 σ c Q (.str i) ρ1 from q)
    | _ => exact q.elim⟩⟩
theorem Okk.ckL (h : Okk X G x e) : Okk X G (.ckL x) e := by
  have p : PE X e (tE X.K C0 G (.ckL x)) := PE.imp h.pe fun _ _ _ t => tE_mono (tE_ckL t) fun v H ⟨e, q⟩ => q
  exact ⟨p, so_of p (by intros; simp), h.pe, fun hn => PT.imp (h.pt hn) fun σ H Q ⟨ρ, c, f, s, r⟩ => ⟨ρ, c, f, s, (rPost.bind r).mono fun d ρ1 q => by
    cases d with
    | lst o i => exact (show bPost X.K C0 σ c Q (.lst o i) ρ1 from q)
    | _ => exact q.elim⟩⟩
theorem Okk.frz (h : Okk X G x e) : Okk X G (.frz x) e := by
  have p : PE X e (tE X.K C0 G (.frz x)) := se_frz h.pe
  exact ⟨p, so_of p (by intros; simp), p, fun hn => PT.imp (h.pt hn) fun σ H Q ⟨ρ, c, f, s, r⟩ => ⟨ρ, c, f, s, (rPost.bind r).mono fun d ρ1 q => by
    obtain ⟨b0, e0, q0⟩ := (show bPost X.K C0 σ c Q d.frz ρ1 from q)
    cases d with
    | bl b' => exact ⟨b0, e0, q0⟩
    | _ => simp [D.frz] at e0⟩⟩
/-! ### constants -/
def cstB : D → Expr → Bool
  | .int i, .Constant (.int j) _ _ => decide (i = j)
  | .bl i, .Constant (.bool j) _ _ => i == j
  | .non, .Constant .none _ _ => true
  | .str l, .Constant (.str x) _ _ => decide (x = ⟨l.toArray⟩) && strGoodB l
  | _, _ => false
theorem Okk.cst {d : D} (h : cstB d e = true) : Okk X G (.cst d) e := by
  unfold cstB at h
  split at h
  · simp at h; subst h
    exact .mk2 se_int (by intros; simp) rfl (by intros; simp) (by intros; simp) (by intros; simp)
  · simp at h; subst h
    exact .mk2 se_bl (by intros; simp) rfl (by intros; simp) (by intros; simp) (by intros; simp)
  · exact .mk2 se_non (by intros; simp) rfl (by intros; simp) (by intros; simp) (by intros; simp)
  · simp only [Bool.and_eq_true, decide_eq_true_eq] at h
    exact .mk2 (se_str h.1 (strGood_of h.2)) (by intros; simp) rfl (by intros; simp) (by intros; simp) (by intros; simp)
  · cases h
def glbB (M : MCtx) (sc : Scope) (x : Str) (d : D) : Expr → Bool
  | .Name y _ => decide (x = y) && gloB sc y && plainN y && (match d with
    | .int i => decide ((y, i) ∈ M.cI)
    | .str l => decide ((y, l) ∈ M.cS) && strGoodB l
    | _ => false)
  | _ => false
theorem Okk.glb (O : XOk M G k sc fc X) {x : Str} {d : D} (h : glbB M sc x d e = true) : Okk X G (.glb x d) e := by
  unfold glbB at h
  split at h
  · rename_i y p
    simp only [Bool.and_eq_true, decide_eq_true_eq] at h
    obtain ⟨⟨⟨rfl, h1⟩, h2⟩, h3⟩ := h
    split at h3
    · simp at h3
      obtain ⟨t, h3⟩ := O.cI _ h3
      exact .mk2 (se_glbI (gl_of O h1) h3 (plain_of h2).1) (by intros; simp) rfl (by intros; simp) (by intros; simp) (by intros; simp)
    · simp at h3
      obtain ⟨h3, h4⟩ := h3
      obtain ⟨t, h3⟩ := O.cS _ h3
      exact .mk2 (se_glbS (gl_of O h1) h3 (strGood_of h4) (plain_of h2).1) (by intros; simp) rfl (by intros; simp) (by intros; simp) (by intros; simp)
    · cases h3
  · cases h
end
end VL

/-! VL16: the matcher of expressions is sound: primitives. -/
namespace VL
open PySem PySem.Spec PyProof.Rows L2
section
variable {K : PySem.W.Frag} {x y : V} {H : Hp} {Q : VK}
theorem rep_get {α : Type} {xs : List α} : ∀ {n i : Nat} {a : α}, ((List.replicate n xs).flatten)[i]? = some a → ∃ j : Nat, xs[j]? = some a ∧ ∀ {β : Type} {ys : List β}, ys.length = xs.length → ((List.replicate n ys).flatten)[i]? = ys[j]? := fun {n} => by
  induction n with
  | zero => intro i a h; simp at h
  | succ n ih =>
    intro i a h
    rw [List.replicate_succ, List.flatten_cons] at h
    by_cases hi : i < xs.length
    · rw [List.getElem?_append_left hi] at h
      refine ⟨i, h, fun {β ys} hl => ?_⟩
      rw [List.replicate_succ, List.flatten_cons, List.getElem?_append_left (by omega)]
    · rw [List.getElem?_append_right (by omega)] at h
      obtain ⟨j, h1, h2⟩ := ih h
      refine ⟨j, h1, fun {β ys} hl => ?_⟩
      rw [List.replicate_succ, List.flatten_cons, List.getElem?_append_right (by omega), hl]
      exact h2 hl
theorem rep_isFL {xs : List D} (n : Nat) (f : D.isFL xs = true) : D.isFL (List.replicate n xs).flatten = true := by
  rw [isFL_all, List.all_eq_true] at *
  intro d hd
  obtain ⟨l, h1, h2⟩ := List.mem_flatten.mp hd
  rw [List.mem_replicate] at h1
  exact f d (h1.2 ▸ h2)
theorem foldl_arr (l : List Nat) : ∀ (m : Nat) (acc : List Nat), (List.replicate m l.toArray).foldl (· ++ ·) acc.toArray = (acc ++ (List.replicate m l).flatten).toArray
  | 0, acc => by simp
  | m + 1, acc => by
    rw [List.replicate_succ, List.foldl_cons, List.append_toArray, foldl_arr l m (acc ++ l), List.replicate_succ, List.flatten_cons, List.append_assoc]
theorem not_long {n : Nat} (h : n ≤ sizeLine) : decide (n > sizeLine) = false := decide_eq_false (by omega)
def rMulS : R2 := fun x y H Q => ∃ (l : List Nat) (n : Int), x = .str ⟨l.toArray⟩ ∧ y = .int n ∧ -(2 ^ 62) ≤ n ∧ n < 2 ^ 62 ∧ l.length ≤ 16777216 ∧ l.length * n.toNat ≤ 16777216 ∧ Q (.str ⟨(List.replicate n.toNat l).flatten.toArray⟩) H
theorem op_mulS {X : Cx} : OpR X (binaryOp .Mult) rMulS := by
  intro pins s σ H x y v u Q I rx ry h
  obtain ⟨l, n, rfl, rfl, h1, h2, hl, hz, q⟩ := h
  obtain ⟨t, rfl⟩ := rx
  obtain ⟨t', rfl⟩ := ry
  have hlen : (⟨l.toArray⟩ : Str).length = l.length := by simp [Str.length]
  refine P.mul_str ?_ ?_ ?_ ?_
  · have e1 : ¬ n < -(2 ^ 63 : Int) := by omega
    have e2 : ¬ n ≥ 2 ^ 63 := by omega
    rw [decide_eq_false e1, decide_eq_false e2]; rfl
  · intro h0 h3
    rw [hlen]
    intro z
    have hn : 0 < n := by omega
    have z2 : (2 ^ 63 - 1) / n < (l.length : Int) := z
    have z2 := (Int.ediv_lt_iff_lt_mul hn).mp z2
    obtain ⟨m, rfl⟩ := Int.eq_ofNat_of_zero_le (Int.le_of_lt hn)
    rw [Int.toNat_natCast] at hz
    have hz2 : ((l.length * m : Nat) : Int) ≤ ((16777216 : Nat) : Int) := Int.ofNat_le.mpr hz
    rw [Int.natCast_mul] at hz2
    omega
  · intro h0 h3
    rw [hlen]
    exact not_long (by rw [sl_eq]; exact hz)
  · by_cases hn : n < 1
    · rw [if_pos hn]
      have e0 : n.toNat = 0 := by omega
      rw [e0] at q
      exact ⟨by decide, .str _, H, I.tok _, ⟨_, rfl⟩, q⟩
    · rw [if_neg hn]
      by_cases h3 : (n == 1 || (⟨l.toArray⟩ : Str).length == 0) = true
      · rw [if_pos h3]
        have e0 : (List.replicate n.toNat l).flatten = l := by
          rw [hlen] at h3
          simp only [Bool.or_eq_true, beq_iff_eq] at h3
          rcases h3 with rfl | h3
          · simp
          · have : l = [] := List.length_eq_zero_iff.mp h3
            subst this
            simp
        rw [e0] at q
        exact ⟨.str _, H, I, ⟨_, rfl⟩, q⟩
      · rw [if_neg h3]
        have e0 := foldl_arr l n.toNat []
        rw [List.nil_append] at e0
        refine ⟨?_, .str ⟨(List.replicate n.toNat l).flatten.toArray⟩, H, I.tok _, ⟨s.toks, ?_⟩, q⟩
        · show Array.size _ ≤ _
          refine Nat.le_trans (Nat.le_of_eq (congrArg Array.size e0)) ?_
          rw [List.size_toArray]
          simp only [List.length_flatten, List.map_replicate, List.sum_replicate_nat, sl_eq]
          rw [Nat.mul_comm]
          exact hz
        · exact congrArg (fun z => Value.str ⟨z⟩ s.toks) e0
theorem pr_mul (h : PR K .mul [x, y] H Q) : (rI CMul fun i j => .int (i * j)) x y H Q ∨ (rRep x y H Q ∨ rMulS x y H Q) := by
  obtain ⟨a, b, cs, d, e, ha, hb, s, q⟩ := h.two
  cases a with
  | int i =>
    cases b <;> simp [prim] at e
    rename_i j
    obtain ⟨e1, e⟩ := e
    subst e
    refine .inl ⟨i, j, s.int_of ha, s.int_of hb, ?_, q _ _ s.int⟩
    rcases e1 with e1 | e1
    · exact .inl (by have := small2_iff.mp e1; omega)
    · exact .inr (by have := small2_iff.mp e1; omega)
  | lst o xs =>
    cases b <;> simp [prim] at e
    rename_i j
    obtain ⟨⟨⟨e1, e2⟩, e3⟩, e⟩ := e
    subst e
    obtain ⟨p1, v1, rfl, h1, l1, k1⟩ := s.lst_of ha
    have e1 := small64_iff.mp e1
    refine .inr (.inl ⟨p1, j, v1, rfl, s.int_of hb, h1, by omega, by omega, by rw [l1, sl_eq]; exact e3, new_list s (by simp [l1]) (rep_isFL _ e2) (fun i d hd => ?_) q⟩)
    obtain ⟨m, g1, g2⟩ := rep_get hd
    obtain ⟨w, g3, g4⟩ := k1 m d g1
    exact ⟨w, by rw [g2 l1]; exact g3, g4⟩
  | str l =>
    cases b <;> simp [prim] at e
    rename_i j
    obtain ⟨⟨e1, e3⟩, e⟩ := e
    subst e
    obtain ⟨rfl, g⟩ := s.str_of ha
    have e1 := small64_iff.mp e1
    refine .inr (.inr ⟨l, j, rfl, s.int_of hb, by omega, by omega, g.1, e3, q _ _ (s.str ⟨?_, fun c hc => ?_⟩)⟩)
    · simp only [List.length_flatten, List.map_replicate, List.sum_replicate_nat]
      rw [Nat.mul_comm]
      exact e3
    · obtain ⟨z, h1, h2⟩ := List.mem_flatten.mp hc
      rw [List.mem_replicate] at h1
      exact g.2 c (h1.2 ▸ h2)
  | _ => cases b <;> simp [prim] at e
end
section
variable {M : MCtx} {G : Calls} {k : Nat} {sc : Scope} {fc : Str → Bool} {X : Cx} {x : Ex} {xs : Exs} {e a b c : Expr} {es : List Expr} {i : Nat} {y : Str} {pos : Pos} {p : Prim}
theorem se_mul {xa xb : Ex} (ha : PE X a (tO X.K C0 G xa)) (hb : PE X b (tO X.K C0 G xb)) : PE X (.BinOp a .Mult b pos) (tE X.K C0 G (.prm .mul (.cons xa (.cons xb .nil)))) := se_bin (op_mul.or (op_rep.or op_mulS)) (fun h => pr_mul h) ha hb
theorem AllO.one (h : AllO X G xs [a]) : ∃ x, xs = .cons x .nil ∧ Okk X G x a := by
  cases h with
  | cons h r => cases r; exact ⟨_, rfl, h⟩
theorem AllO.two (h : AllO X G xs [a, b]) : ∃ x y, xs = .cons x (.cons y .nil) ∧ Okk X G x a ∧ Okk X G y b := by
  cases h with
  | cons h r =>
    obtain ⟨y, rfl, h2⟩ := r.one
    exact ⟨_, _, rfl, h, h2⟩
theorem AllO.three (h : AllO X G xs [a, b, c]) : ∃ x y z, xs = .cons x (.cons y (.cons z .nil)) ∧ Okk X G x a ∧ Okk X G y b ∧ Okk X G z c := by
  cases h with
  | cons h r =>
    obtain ⟨y, z, rfl, h2, h3⟩ := r.two
    exact ⟨_, _, _, rfl, h, h2, h3⟩
theorem Okk.prm (hp : PE X e (tE X.K C0 G (.prm p xs))) (h2 : ∀ op a p, e ≠ .UnaryOp op a p) (h3 : ∀ op a p, e ≠ .BoolOp op a p) (h4 : ∀ a b c p, e ≠ .Compare a b c p) : Okk X G (.prm p xs) e := .mk2 hp (by intros; simp) rfl h2 h3 h4
theorem bin_ok {op : Operator} (h : binB p op = true) (h2 : AllO X G xs [a, b]) : Okk X G (.prm p xs) (.BinOp a op b pos) := by
  obtain ⟨x, y, rfl, hx, hy⟩ := h2.two
  refine .prm ?_ (by intros; simp) (by intros; simp) (by intros; simp)
  unfold binB at h
  split at h
  · exact se_add hx.po hy.po
  · exact se_sub hx.po hy.po
  · exact se_mul hx.po hy.po
  · exact se_fdiv hx.po hy.po
  · exact se_mod hx.po hy.po
  · exact se_pow hx.po hy.po
  · cases h
theorem cmpOk_of (O : XOk M G k sc fc X) {op : CmpOp} (h : cmpB p op = true) : CmpOk X op p := by
  unfold cmpB at h
  split at h
  · exact cmp_eq O.room
  · exact cmp_ne O.room
  · exact cmp_lt
  · exact cmp_le
  · exact cmp_gt
  · exact cmp_ge
  · exact cmp_inn O.room
  · exact cmp_nin O.room
  · exact cmp_isB
  · exact cmp_niB
  · cases h
theorem cmp_ok (O : XOk M G k sc fc X) {op : CmpOp} (h : cmpB p op = true) (hm : behindInMarks op b = false) (h2 : AllO X G xs [a, b]) : Okk X G (.prm p xs) (.Compare a [op] [b] pos) := by
  obtain ⟨x, y, rfl, hx, hy⟩ := h2.two
  exact .mk1 (se_cmpK (cmpOk_of O h) hx.po hy.po hm) (by intros; simp) rfl fun _ => st_cmpK (cmpOk_of O h) hx.po hy.po hm
/-- a built-in function or type, called -/
theorem blt_ok (O : XOk M G k sc fc X) {n : String} {t : Bool} (h : bltOf p = some (n, t)) (hb : bltB M sc (Str.ofString n) = true) (hs : (a :: es).all noStar = true) (h2 : AllO X G xs (a :: es)) {pn : Pos} : Okk X G (.prm p xs) (.Call (.Name (Str.ofString n) pn) (a :: es) [] pos) := by
  obtain ⟨g, m, d, nn⟩ := blt_of O hb
  have hs' := hs
  simp only [List.all_cons, Bool.and_eq_true] at hs'
  refine .prm ?_ (by intros; simp) (by intros; simp) (by intros; simp)
  have st := star_of (X := X) (es := es) hs'.1
  have sa := stars_of (X := X) hs'.2 (pos := pos)
  have pa := h2.pa hs
  cases p <;> simp only [bltOf, Option.some.injEq, Prod.mk.injEq, reduceCtorEq] at h
  all_goals obtain ⟨rfl, rfl⟩ := h
  · exact se_callBK blt_len g m rfl pa nn d st sa
  · exact se_callBK blt_abs g m rfl pa nn d st sa
  · exact se_callTyK blt_int g m rfl pa nn d st sa
  · exact se_callTyK blt_list g m rfl pa nn d st sa
  · exact se_callBK (blt_sum O.calm) g m rfl pa nn d st sa
  · exact se_callBK (blt_min1 O.calm) g m rfl pa nn d st sa
  · exact se_callBK (blt_max1 O.calm) g m rfl pa nn d st sa
  · exact se_callBK (blt_min2 O.calm) g m rfl pa nn d st sa
  · exact se_callBK (blt_max2 O.calm) g m rfl pa nn d st sa
  · exact se_callBK blt_sorted g m rfl pa nn d st sa
  · exact se_callBK (blt_all O.calm) g m rfl pa nn d st sa
  · exact se_callBK (blt_any O.calm) g m rfl pa nn d st sa

/-- a list's range -/
theorem ckI_of {x : Ex} {e : Expr} (h : Okk X G (.ckI x) e) : PE X e (tE X.K C0 G x) := h.st
theorem ckS_of {x : Ex} {e : Expr} (h : Okk X G (.ckS x) e) : PE X e (tE X.K C0 G x) := h.st
theorem noSl_of {s : Expr} (h : ∀ a b c d, s ≠ .Slice a b c d) : NoSl s := by
  cases s <;> first | (intro o i; rfl) | exact absurd rfl (h _ _ _ _)
theorem shape_ok (O : XOk M G k sc fc X) (h : shape M sc p e = some es) (h2 : AllO X G xs es) (hok : okPrm p xs = true) : Okk X G (.prm p xs) e := by
  unfold shape at h
  split at h
  · -- binary
    split at h
    · cases h; exact bin_ok (by assumption) h2
    · cases h
  · -- unary
    split at h
    · split at h
      · rename_i hp
        cases h
        subst hp
        obtain ⟨x, rfl, hx⟩ := h2.one
        exact .mk1 (se_neg hx.po) (by intros; simp) rfl fun _ => st_val (se_neg hx.po) fun _ => rfl
      · cases h
    · cases h
  · -- comparisons
    split at h
    · split at h
      · split at h
        · split at h
          · rename_i hp
            cases h
            subst hp
            obtain ⟨x, rfl, hx⟩ := h2.one
            exact .mk1 (se_isN hx.po) (by intros; simp) rfl fun _ => st_isN hx.po
          · cases h
        · split at h
          · rename_i hp
            cases h
            subst hp
            obtain ⟨x, rfl, hx⟩ := h2.one
            exact .mk1 (se_notN hx.po) (by intros; simp) rfl fun _ => st_notN hx.po
          · cases h
        · cases h
      · split at h
        · rename_i hc
          cases h
          simp only [Bool.and_eq_true, Bool.not_eq_true'] at hc
          exact cmp_ok O hc.1 hc.2 h2
        · split at h
          · rename_i hc
            cases h
            simp only [Bool.and_eq_true, Bool.not_eq_true', decide_eq_true_eq] at hc
            obtain ⟨⟨rfl, rfl⟩, hm⟩ := hc
            obtain ⟨x, y, rfl, hx, hy⟩ := h2.two
            exact .mk1 (se_din O.room hx.po hy.po hm) (by intros; simp) rfl fun _ => st_din O.room hx.po hy.po hm
          · split at h
            · rename_i hc
              cases h
              simp only [Bool.and_eq_true, Bool.not_eq_true', decide_eq_true_eq] at hc
              obtain ⟨⟨rfl, rfl⟩, hm⟩ := hc
              obtain ⟨x, y, rfl, hx, hy⟩ := h2.two
              exact .mk1 (se_dnin O.room hx.po hy.po hm) (by intros; simp) rfl fun _ => st_dnin O.room hx.po hy.po hm
            · cases h
    · cases h
  · -- subscripts
    split at h
    · split at h
      · rename_i hp
        cases h
        subst hp
        obtain ⟨x, y, z, rfl, hx, hy, hz⟩ := h2.three
        cases y <;> cases z <;> simp [okPrm] at hok
        exact .prm (se_slLH hx.po hy.st hz.st) (by intros; simp) (by intros; simp) (by intros; simp)
      · cases h
    · split at h
      · rename_i hp
        cases h
        subst hp
        obtain ⟨x, y, rfl, hx, hy⟩ := h2.two
        cases y <;> simp [okPrm] at hok
        exact .prm (se_slL hx.po hy.st) (by intros; simp) (by intros; simp) (by intros; simp)
      · cases h
    · split at h
      · rename_i hp
        cases h
        subst hp
        obtain ⟨x, y, rfl, hx, hy⟩ := h2.two
        cases y <;> simp [okPrm] at hok
        exact .prm (se_slH hx.po hy.st) (by intros; simp) (by intros; simp) (by intros; simp)
      · cases h
    · split at h
      · rename_i hp
        cases h
        subst hp
        obtain ⟨x, rfl, hx⟩ := h2.one
        exact .prm (se_rev hx.po) (by intros; simp) (by intros; simp) (by intros; simp)
      · cases h
    · cases h
    · split at h
      · rename_i hns hp
        cases h
        obtain ⟨x, y, rfl, hx, hy⟩ := h2.two
        rcases hp with rfl | rfl
        · refine .prm (se_idx hx.po hy.po (noSl_of fun a b c d e => ?_)) (by intros; simp) (by intros; simp) (by intros; simp)
          exact hns _ _ _ _ e
        · refine .prm (se_dget O.room hx.po hy.po (noSl_of fun a b c d e => ?_)) (by intros; simp) (by intros; simp) (by intros; simp)
          exact hns _ _ _ _ e
      · cases h
  · -- calls
    split at h
    · split at h
      · split at h
        · -- isinstance
          split at h
          · split at h
            · rename_i hc
              cases h
              simp only [Bool.and_eq_true, decide_eq_true_eq] at hc
              obtain ⟨⟨⟨⟨rfl, h1⟩, h3⟩, rfl⟩, h4⟩ := hc
              obtain ⟨x, rfl, hx⟩ := h2.one
              obtain ⟨g, m, d, nn⟩ := blt_of O h1
              obtain ⟨g', m', d', nn'⟩ := blt_of O h3
              refine .prm (se_isI g m rfl hx.po g' m' ?_ nn d nn' d' (star_of h4)) (by intros; simp) (by intros; simp) (by intros; simp)
              rename_i kk _ _ _
              cases kk <;> rfl
            · cases h
          · cases h
        · split at h
          · split at h
            · rename_i hc
              cases h
              simp only [Bool.and_eq_true, decide_eq_true_eq] at hc
              obtain ⟨⟨⟨⟨rfl, h1⟩, rfl⟩, h3⟩, h4⟩ := hc
              obtain ⟨x, rfl, hx⟩ := h2.one
              obtain ⟨g, m, d, nn⟩ := blt_of O h1
              obtain ⟨g', m', d', nn'⟩ := blt_of O h3
              exact .prm (se_lrng1 O.calm g m g' m' hx.po (star_of h4)) (by intros; simp) (by intros; simp) (by intros; simp)
            · cases h
          · cases h
        · split at h
          · split at h
            · rename_i hc
              cases h
              simp only [Bool.and_eq_true, decide_eq_true_eq] at hc
              obtain ⟨⟨⟨⟨⟨rfl, h1⟩, rfl⟩, h3⟩, h4⟩, h5⟩ := hc
              obtain ⟨x, y, rfl, hx, hy⟩ := h2.two
              obtain ⟨g, m, d, nn⟩ := blt_of O h1
              obtain ⟨g', m', d', nn'⟩ := blt_of O h3
              exact .prm (se_lrng2 O.calm g m g' m' hx.po hy.po (star_of h4) (star_of h5) (stars_of (by simp [h5]))) (by intros; simp) (by intros; simp) (by intros; simp)
            · cases h
          · cases h
        · split at h
          · split at h
            · rename_i hc
              cases h
              simp only [Bool.and_eq_true, decide_eq_true_eq] at hc
              obtain ⟨⟨⟨⟨⟨⟨rfl, h1⟩, rfl⟩, h3⟩, h4⟩, h5⟩, h6⟩ := hc
              obtain ⟨g, m, d, nn⟩ := blt_of O h1
              obtain ⟨g', m', d', nn'⟩ := blt_of O h3
              have pa := h2.pa (by simp [h4, h5, h6])
              obtain ⟨x, y, z, rfl, hx, hy, hz⟩ := h2.three
              exact .prm (se_lrng3 O.calm g m g' m' pa (star_of h4) (stars_of (by simp [h5, h6]))) (by intros; simp) (by intros; simp) (by intros; simp)
            · cases h
          · cases h
        · split at h
          · split at h
            · split at h
              · rename_i hb _ _ _ hc
                cases h
                simp only [Bool.and_eq_true, decide_eq_true_eq] at hc
                obtain ⟨⟨⟨rfl, h1⟩, h3⟩, h4⟩ := hc
                exact blt_ok O hb h1 (by simp [h3, h4]) h2
              · cases h
            · cases h
          · cases h
      · -- methods
        split at h
        · split at h
          · rename_i hc
            cases h
            simp only [Bool.and_eq_true, decide_eq_true_eq] at hc
            obtain ⟨⟨rfl, rfl⟩, hm⟩ := hc
            obtain ⟨x, y, rfl, hx, hy⟩ := h2.two
            cases x <;> simp [okPrm] at hok
            exact .prm (se_join hx.st hy.po (mside_of hm)) (by intros; simp) (by intros; simp) (by intros; simp)
          · split at h
            · rename_i hc
              cases h
              simp only [Bool.and_eq_true, decide_eq_true_eq] at hc
              obtain ⟨⟨rfl, rfl⟩, hm⟩ := hc
              obtain ⟨x, y, rfl, hx, hy⟩ := h2.two
              cases x <;> simp [okPrm] at hok
              exact .prm (se_sindex hx.st hy.po (mside_of hm)) (by intros; simp) (by intros; simp) (by intros; simp)
            · split at h
              · rename_i hc
                cases h
                simp only [Bool.and_eq_true, decide_eq_true_eq] at hc
                obtain ⟨⟨rfl, rfl⟩, hm⟩ := hc
                obtain ⟨x, y, rfl, hx, hy⟩ := h2.two
                cases x <;> simp [okPrm] at hok
                exact .prm (se_scount hx.st hy.po (mside_of hm)) (by intros; simp) (by intros; simp) (by intros; simp)
              · cases h
        · cases h
      · cases h
    · cases h
  · cases h
end
end VL

/-! VL17: the matcher of expressions. -/
namespace VL
open PySem PySem.Spec PyProof.Rows L2

def noSet : Expr → Bool
  | .Set _ _ _ => false
  | _ => true
def chnShape (p q : Prim) : Expr → Option (Expr × Expr × Expr)
  | .Compare a ops bs _ => match ops, bs with
    | [o1, o2], [b, c] => if (cmpB p o1 && cmpB q o2 && !lastMarks [o1, o2] [b, c]) = true then some (a, b, c) else none
    | _, _ => none
  | _ => none
def boolShape (isAnd : Bool) : Expr → Option (List Expr)
  | .BoolOp .And es _ => if (isAnd && es.all noIf && !es.isEmpty) = true then some es else none
  | .BoolOp .Or es _ => if (!isAnd && es.all noIf && !es.isEmpty) = true then some es else none
  | _ => none
def notShape : Expr → Option Expr
  | .UnaryOp .Not a _ => if noIf a = true then some a else none
  | _ => none
def ifeShape : Expr → Option (Expr × Expr × Expr)
  | .IfExp c a b _ => if noIf c = true then some (c, a, b) else none
  | _ => none
def callShape (M : MCtx) (sc : Scope) (f : Nat) : Expr → Option (List Expr)
  | .Call (.Name x _) args kws _ => match kws with
    | [] => if (decide ((x, f) ∈ M.fns) && gloB sc x && plainN x && args.all noStar && !args.isEmpty) = true then some args else none
    | _ => none
  | _ => none
def mutNm : Mt → Str → Bool
  | .append, nm => decide (nm = ("append" : Str))
  | .extend, nm => decide (nm = ("extend" : Str))
  | .pop, nm => decide (nm = ("pop" : Str))
  | _, _ => false
def mutShape (M : MCtx) (sc : Scope) (m : Mt) (i : Nat) : Expr → Option (List Expr)
  | .Call (.Attribute (.Name x pn) nm apos) [a] [] cpos => if (nameB M sc i x && msideB (.Name x pn) a apos cpos && mutNm m nm) = true then some [a] else none
  | _ => none
def tupShape : Expr → Option (List Expr)
  | .Tuple es _ _ => if (es.all noStar && decide (es.length ≤ 1000)) = true then some es else none
  | _ => none
def lstShape : Expr → Option (List Expr)
  | .List es _ => if (es.all noStar && decide (es.length ≤ 1000)) = true then some es else none
  | _ => none
def dicB : Expr → Bool
  | .Dict [] [] _ => true
  | _ => false
def ownN (M : MCtx) (own : List Nat) : List (Str × Nat) := own.map fun i => ((M.N[i]?).getD ⟨#[]⟩, i)
structure LC where
  elt : Expr
  tg : Expr
  iter : Expr
  ifs : List Expr
  scope : Scope
def lcShape : Expr → Option LC
  | .ListComp elt [⟨tg, iter, cs, 0⟩] scope _ => if (noSet iter && cs.all noIf && decide (cs.length ≤ 1)) = true then some ⟨elt, tg, iter, cs, scope⟩ else none
  | _ => none
/-- a built-in called with plain arguments -/
def bltShape (n : String) (M : MCtx) (sc : Scope) : Expr → Option (List Expr)
  | .Call (.Name x _) args kws _ => match kws with
    | [] => if (decide (x = Str.ofString n) && bltB M sc x && args.all noStar) = true then some args else none
    | _ => none
  | _ => none
/-- the targets that a source may have -/
def tgI : VL.It → Expr → Bool
  | .enum _, .Tuple _ _ _ => true
  | .zip _ _, .Tuple _ _ _ => true
  | .zipS _ _, .Tuple _ _ _ => true
  | .enum _, _ => false
  | .zip _ _, _ => false
  | .zipS _ _, _ => false
  | _, _ => true
def rngShape (M : MCtx) (sc : Scope) : Expr → Option (List Expr)
  | .Call (.Name x _) args kws _ => match kws with
    | [] => if (decide (x = ("range" : Str)) && bltB M sc x && args.all noStar) = true then some args else none
    | _ => none
  | _ => none

mutual
def matE (M : MCtx) (sc : Scope) : Ex → Expr → Bool
  | .cst d, e => cstB d e
  | .glb x d, e => glbB M sc x d e
  | .var i, e => match e with
    | .Name y _ => nameB M sc i y
    | _ => false
  | .mov i, e => match e with
    | .Name y _ => nameB M sc i y
    | _ => false
  | .pk i, e => match e with
    | .Name y _ => nameB M sc i y
    | _ => false
  | .frz a, e => matE M sc a e
  | .ckI a, e => matE M sc a e
  | .ckS a, e => matE M sc a e
  | .ckL a, e => matE M sc a e
  | .prm p as, e => match shape M sc p e with
    | some es => okPrm p as && matEs M sc as es
    | none => false
  | .chn p q a b c, e => match chnShape p q e with
    | some r => matE M sc a r.1 && matE M sc b r.2.1 && matE M sc c r.2.2
    | none => false
  | .and as, e => match boolShape true e with
    | some es => matEs M sc as es
    | none => false
  | .or as, e => match boolShape false e with
    | some es => matEs M sc as es
    | none => false
  | .not a, e => match notShape e with
    | some r => matE M sc a r
    | none => false
  | .ife c a b, e => match ifeShape e with
    | some r => matE M sc c r.1 && matE M sc a r.2.1 && matE M sc b r.2.2
    | none => false
  | .call f as, e => match callShape M sc f e with
    | some es => matEs M sc as es
    | none => false
  | .mut m i as, e => match mutShape M sc m i e with
    | some es => matEs M sc as es
    | none => false
  | .tup as, e => match tupShape e with
    | some es => matEs M sc as es
    | none => false
  | .lst as, e => match lstShape e with
    | some es => matEs M sc as es
    | none => false
  | .dic, e => dicB e
  | .comp own t it ifs a, e => match lcShape e with
    | some r => blkC M.N sc r.scope (ownN M own) && (t.slots.all fun i => own.contains i) && (tgI it r.tg && matI M sc it r.iter) &&
        matG M (relS r.scope sc) (fun x => r.scope.names.lookup x == some .cell) t r.tg && matEs M (relS r.scope sc) ifs r.ifs && matE M (relS r.scope sc) a r.elt
    | none => false
def matEs (M : MCtx) (sc : Scope) : Exs → List Expr → Bool
  | .nil, es => es.isEmpty
  | .cons a as, es => match es with
    | e :: es => matE M sc a e && matEs M sc as es
    | [] => false
def matI (M : MCtx) (sc : Scope) : It → Expr → Bool
  | .val a, e => matE M sc a e
  | .rng1 a, e => match rngShape M sc e with
    | some [x] => matE M sc a x
    | _ => false
  | .rng2 a b, e => match rngShape M sc e with
    | some [x, y] => matE M sc a x && matE M sc b y
    | _ => false
  | .rng3 a b c, e => match rngShape M sc e with
    | some [x, y, z] => matE M sc a x && matE M sc b y && matE M sc c z
    | _ => false
  | .enum a, e => match bltShape "enumerate" M sc e with
    | some [x] => matE M sc a x
    | _ => false
  | .zip a b, e => match bltShape "zip" M sc e with
    | some [x, y] => matE M sc a x && matE M sc b y
    | _ => false
  | .zipS a b, e => match bltShape "zip" M sc e with
    | some [x, y] => matE M sc a x && matE M sc b y
    | _ => false
end

section
variable {M : MCtx} {G : Calls} {k : Nat} {sc : Scope} {fc : Str → Bool} {X : Cx} {x : Ex} {xs : Exs} {e a b c : Expr} {es : List Expr} {i : Nat} {y : Str} {pos : Pos} {p : Prim}
theorem pw_boolA : ∀ {es : List Expr} {xs : Exs}, AllO X G xs es → es.all noIf = true → es ≠ [] → PW X (.BoolOp .And es pos) (tT X.K C0 G (.and xs))
  | [], _, _, _, h => absurd rfl h
  | [a], _, .cons h .nil, hn, _ => by
    simp only [List.all_cons, List.all_nil, Bool.and_true] at hn
    exact sw_and1 (h.pt hn)
  | a :: b :: r, _, .cons h r', hn, _ => by
    simp only [List.all_cons, Bool.and_eq_true] at hn
    exact sw_and (h.pt hn.1) (pw_boolA r' (by simp only [List.all_cons, Bool.and_eq_true]; exact hn.2) (by simp))
theorem pw_boolO : ∀ {es : List Expr} {xs : Exs}, AllO X G xs es → es.all noIf = true → es ≠ [] → PW X (.BoolOp .Or es pos) (tT X.K C0 G (.or xs))
  | [], _, _, _, h => absurd rfl h
  | [a], _, .cons h .nil, hn, _ => by
    simp only [List.all_cons, List.all_nil, Bool.and_true] at hn
    exact sw_or1 (h.pt hn)
  | a :: b :: r, _, .cons h r', hn, _ => by
    simp only [List.all_cons, Bool.and_eq_true] at hn
    exact sw_or (h.pt hn.1) (pw_boolO r' (by simp only [List.all_cons, Bool.and_eq_true]; exact hn.2) (by simp))
theorem pe_boolA : ∀ {es : List Expr} {xs : Exs}, AllO X G xs es → es ≠ [] → PE X (.BoolOp .And es pos) (tE X.K C0 G (.and xs))
  | [], _, _, h => absurd rfl h
  | [a], _, .cons h .nil, _ => se_and1 h.pe
  | a :: b :: r, _, .cons h r', _ => se_and h.pe (pe_boolA r' (by simp))
theorem pe_boolO : ∀ {es : List Expr} {xs : Exs}, AllO X G xs es → es ≠ [] → PE X (.BoolOp .Or es pos) (tE X.K C0 G (.or xs))
  | [], _, _, h => absurd rfl h
  | [a], _, .cons h .nil, _ => se_or1 h.pe
  | a :: b :: r, _, .cons h r', _ => se_or h.pe (pe_boolO r' (by simp))
theorem bool_ok {t : Bool} (h : boolShape t e = some es) (h2 : AllO X G xs es) : Okk X G (if t = true then .and xs else .or xs) e := by
  unfold boolShape at h
  split at h
  · split at h
    · rename_i hc
      cases h
      simp only [Bool.and_eq_true, Bool.not_eq_true', List.isEmpty_eq_false_iff] at hc
      obtain ⟨⟨rfl, h1⟩, h3⟩ := hc
      exact .mk1 (pe_boolA h2 h3) (by intros; simp) rfl fun _ => (pw_boolA h2 h1 h3).pt
    · cases h
  · split at h
    · rename_i hc
      cases h
      simp only [Bool.and_eq_true, Bool.not_eq_true', List.isEmpty_eq_false_iff] at hc
      obtain ⟨⟨rfl, h1⟩, h3⟩ := hc
      exact .mk1 (pe_boolO h2 h3) (by intros; simp) rfl fun _ => (pw_boolO h2 h1 h3).pt
    · cases h
  · cases h
/-! ### targets -/
theorem assign_each (h : es.all noStar = true) : (assignEach es X.env).findIdx? (·.1) = none := by
  induction es with
  | nil => rfl
  | cons e es ih =>
    simp only [List.all_cons, Bool.and_eq_true] at h
    have e1 : assignEach (e :: es) X.env = (false, assign e X.env) :: assignEach es X.env := by
      cases e <;> first | rfl | (simp [noStar] at h)
    rw [e1, List.findIdx?_cons, ih h.2]
    rfl
theorem assign_cons (h : noStar e = true) : (assignEach (e :: es) X.env).map (·.2) = assign e X.env :: (assignEach es X.env).map (·.2) := by
  cases e <;> first | rfl | (simp [noStar] at h)
theorem assign_len : ∀ (es : List Expr), (assignEach es X.env).length = es.length
  | [] => rfl
  | e :: es => by
    have : (assignEach (e :: es) X.env).length = (assignEach es X.env).length + 1 := by cases e <;> rfl
    rw [this, assign_len es]; rfl
theorem matGs_arity : ∀ (t : Tg) (es : List Expr), matG.matGs M sc fc t es = true → es.length = t.arity
  | .en, [], _ => rfl
  | .tp a r, [], h => by simp [matG.matGs] at h
  | .tp a r, e :: es, h => by
    simp only [matG.matGs, Bool.and_eq_true] at h
    simp [Tg.arity, matGs_arity r es h.2]
  | .nm i, es, h => by simp [matG.matGs] at h
  | .en, _ :: _, h => by simp [matG.matGs] at h
theorem matGs_star : ∀ (t : Tg) (es : List Expr), matG.matGs M sc fc t es = true → es.all noStar = true
  | .en, [], _ => rfl
  | .tp a r, [], h => by simp [matG.matGs] at h
  | .tp a r, e :: es, h => by
    simp only [matG.matGs, Bool.and_eq_true] at h
    simp [h.1.1, matGs_star r es h.2]
  | .nm i, es, h => by simp [matG.matGs] at h
  | .en, _ :: _, h => by simp [matG.matGs] at h
mutual
theorem matG_ok (O : XOk M G k sc fc X) : ∀ (t : Tg) (e : Expr), matG M sc fc t e = true → PG X e (tG X.K t)
  | .nm i, e, h => by
    unfold matG at h
    split at h
    · rename_i i x p hh
      cases hh
      simp only [Bool.and_eq_true, decide_eq_true_eq] at h
      obtain ⟨h1, h2⟩ := h
      have nd : X.N.Nodup := O.n ▸ O.nd
      split at h2
      · rename_i hl
        exact sg_nm nd (by rw [O.n]; exact h1) (.inl (by rw [O.scp]; exact hl)) (.inr (by rw [O.scp]; exact hl))
      · rename_i hl
        exact sg_nm nd (by rw [O.n]; exact h1) (.inr (by rw [O.scp]; exact hl)) (.inl (O.fc _ h2))
      · cases h2
    · rename_i hh; cases hh
    · cases h
  | .tp a r, e, h => by
    unfold matG at h
    split at h
    · contradiction
    · rename_i a' r' es kk pp hh
      cases hh
      simp only [Bool.and_eq_true] at h
      refine sg_tp O.calm h.1 (matGs_ok O (.tp a r) es h.2) ?_ (assign_each (matGs_star _ _ h.2))
      rw [assign_len, matGs_arity _ _ h.2]
    · cases h
  | .en, e, h => by
    unfold matG at h
    cases h
theorem matGs_ok (O : XOk M G k sc fc X) : ∀ (t : Tg) (es : List Expr), matG.matGs M sc fc t es = true → PGs X es (tGs X.K t)
  | .en, [], _ => sgs_nil
  | .tp a r, [], h => by simp [matG.matGs] at h
  | .tp a r, e :: es, h => by
    simp only [matG.matGs, Bool.and_eq_true] at h
    exact sgs_cons (matG_ok O a e h.1.2) (matGs_ok O r es h.2) (assign_cons h.1.1)
  | .nm i, es, h => by simp [matG.matGs] at h
  | .en, _ :: _, h => by simp [matG.matGs] at h
end
theorem XOk.blk (O : XOk M G k sc fc X) {scope : Scope} {own : List (Str × Nat)} (ok : BlkOk X.N X.env.scope scope own) (s : Shared) (H : Hp) (Ca : Addr) (cl : List (Str × Addr)) (fp : List Addr) :
    XOk M G k (relS scope sc) (fun x => scope.names.lookup x == some .cell) (X.blk s H scope (compEnvC scope cl Ca X.env) fp) where
  n := O.n
  nd := O.nd
  calm := O.calm
  room := O.room
  scp := by rw [← O.scp]; rfl
  kind := ok.kind
  fc := fun _ h => h
  bl := O.bl
  fns := O.fns
  cI := O.cI
  cS := O.cS

/-! ### expressions -/
theorem name_shape {P : Str → Bool} {Y : Prop} (h : (match e with
    | .Name y _ => P y
    | _ => false) = true) (k : ∀ y p, e = .Name y p → P y = true → Y) : Y := by
  cases e <;> first | exact k _ _ rfl h | cases h
theorem own_ix {own : List Nat} : (ownN M own).map (·.2) = own := by
  induction own with
  | nil => rfl
  | cons a r ih => exact congrArg (a :: ·) ih
theorem call_ok (O : XOk M G k sc fc X) {f : Nat} (h : callShape M sc f e = some es) (h2 : AllO X G xs es) : Okk X G (.call f xs) e := by
  unfold callShape at h
  split at h
  · split at h
    · split at h
      · rename_i hc
        cases h
        simp only [Bool.and_eq_true, Bool.not_eq_true', List.isEmpty_eq_false_iff, decide_eq_true_eq] at hc
        obtain ⟨⟨⟨⟨h1, h3⟩, h4⟩, h5⟩, h6⟩ := hc
        obtain ⟨fa, fd, ps, n, F, hm, hk, hb, hn⟩ := O.fns _ h1
        have pa := h2.pa h5
        cases es with
        | nil => exact absurd rfl h6
        | cons a es =>
          have h5' := h5
          simp only [List.all_cons, Bool.and_eq_true] at h5'
          exact .mk2 (se_call C0.no F O.room (gl_of O h3) hm hk hb pa hn (plain_of h4).1 (star_of h5'.1) (stars_of h5'.2)) (by intros; simp) rfl (by intros; simp) (by intros; simp) (by intros; simp)
      · cases h
    · cases h
  · cases h
theorem mut_ok (O : XOk M G k sc fc X) {m : Mt} (h : mutShape M sc m i e = some es) (h2 : AllO X G xs es) : Okk X G (.mut m i xs) e := by
  unfold mutShape at h
  split at h
  · split at h
    · rename_i hc
      cases h
      simp only [Bool.and_eq_true] at hc
      obtain ⟨⟨h1, h3⟩, h4⟩ := hc
      unfold mutNm at h4
      obtain ⟨n1, n2, n3, n4⟩ := name_of O h1
      obtain ⟨x, rfl, hx⟩ := h2.one
      refine .mk2 ?_ (by intros; simp) rfl (by intros; simp) (by intros; simp) (by intros; simp)
      split at h4
      · simp only [decide_eq_true_eq] at h4; subst h4; exact se_append n1 n2 n3 n4 hx.pe (mside_of h3)
      · simp only [decide_eq_true_eq] at h4; subst h4; exact se_extend n1 n2 n3 n4 hx.pe (mside_of h3)
      · simp only [decide_eq_true_eq] at h4; subst h4; exact se_popAt n1 n2 n3 n4 hx.pe (mside_of h3)
      · cases h4
    · cases h
  · cases h
theorem tup_ok (h : tupShape e = some es) (h2 : AllO X G xs es) : Okk X G (.tup xs) e := by
  unfold tupShape at h
  split at h
  · split at h
    · rename_i hc
      cases h
      simp only [Bool.and_eq_true, decide_eq_true_eq] at hc
      exact .mk2 (se_tup (h2.paS hc.1) hc.2 fun G' ρ ds ρ' hh => by rw [evalS_len _ _ _ _ _ hh, ← h2.len]; exact hc.2) (by intros; simp) rfl (by intros; simp) (by intros; simp) (by intros; simp)
    · cases h
  · cases h
theorem lst_ok (h : lstShape e = some es) (h2 : AllO X G xs es) : Okk X G (.lst xs) e := by
  unfold lstShape at h
  split at h
  · split at h
    · rename_i hc
      cases h
      simp only [Bool.and_eq_true, decide_eq_true_eq] at hc
      exact .mk2 (se_lst (h2.paS hc.1) fun G' ρ ds ρ' hh => by rw [evalS_len _ _ _ _ _ hh, ← h2.len]; exact hc.2) (by intros; simp) rfl (by intros; simp) (by intros; simp) (by intros; simp)
    · cases h
  · cases h
theorem rng_args (O : XOk M G k sc fc X) (h : rngShape M sc e = some es) : ∃ p q, e = .Call (.Name "range" p) es [] q ∧ Gl X "range" ∧ X.mg "range" = none ∧ es.all noStar = true := by
  unfold rngShape at h
  split at h
  · split at h
    · split at h
      · rename_i hc
        cases h
        simp only [Bool.and_eq_true, decide_eq_true_eq] at hc
        obtain ⟨⟨rfl, h1⟩, h3⟩ := hc
        obtain ⟨g, m, _, _⟩ := blt_of O h1
        exact ⟨_, _, rfl, g, m, h3⟩
      · cases h
    · cases h
  · cases h
theorem blt_args (O : XOk M G k sc fc X) {n : String} (h : bltShape n M sc e = some es) : ∃ p q, e = .Call (.Name (Str.ofString n) p) es [] q ∧ Gl X (Str.ofString n) ∧ X.mg (Str.ofString n) = none ∧ es.all noStar = true := by
  unfold bltShape at h
  split at h
  · split at h
    · split at h
      · rename_i hc
        cases h
        simp only [Bool.and_eq_true, decide_eq_true_eq] at hc
        obtain ⟨⟨rfl, h1⟩, h3⟩ := hc
        obtain ⟨g, m, _, _⟩ := blt_of O h1
        exact ⟨_, _, rfl, g, m, h3⟩
      · cases h
    · cases h
  · cases h
theorem set_of (h : noSet e = true) : ∀ x, foldedSetIterable e X.env x = pure x := fun x => by
  cases e <;> first | rfl | (simp [noSet] at h)
mutual
theorem matE_ok : ∀ (x : Ex) (e : Expr) (sc : Scope) (fc : Str → Bool) (X : Cx), XOk M G k sc fc X → matE M sc x e = true → Okk X G x e
  | .cst d, e, sc, fc, X, O, h => .cst (by unfold matE at h; exact h)
  | .glb x d, e, sc, fc, X, O, h => .glb O (by unfold matE at h; exact h)
  | .var i, e, sc, fc, X, O, h => by unfold matE at h; exact name_shape h fun y p he hh => he ▸ .var O hh
  | .mov i, e, sc, fc, X, O, h => by unfold matE at h; exact name_shape h fun y p he hh => he ▸ .mov O hh
  | .pk i, e, sc, fc, X, O, h => by unfold matE at h; exact name_shape h fun y p he hh => he ▸ .pk O hh
  | .frz a, e, sc, fc, X, O, h => by unfold matE at h; exact (matE_ok a e sc fc X O h).frz
  | .ckI a, e, sc, fc, X, O, h => by unfold matE at h; exact (matE_ok a e sc fc X O h).ckI
  | .ckS a, e, sc, fc, X, O, h => by unfold matE at h; exact (matE_ok a e sc fc X O h).ckS
  | .ckL a, e, sc, fc, X, O, h => by unfold matE at h; exact (matE_ok a e sc fc X O h).ckL
  | .prm p as, e, sc, fc, X, O, h => by
    unfold matE at h
    split at h
    · rename_i es hs
      simp only [Bool.and_eq_true] at h
      exact shape_ok O hs (matEs_ok as es sc fc X O h.2) h.1
    · cases h
  | .chn p q a b c, e, sc, fc, X, O, h => by
    unfold matE at h
    split at h
    · rename_i r hs
      simp only [Bool.and_eq_true] at h
      have ha := matE_ok a _ sc fc X O h.1.1
      have hb := matE_ok b _ sc fc X O h.1.2
      have hc := matE_ok c _ sc fc X O h.2
      unfold chnShape at hs
      split at hs
      · split at hs
        · split at hs
          · rename_i hq
            cases hs
            simp only [Bool.and_eq_true, Bool.not_eq_true'] at hq
            exact .mk1 (se_chn (cmpOk_of O hq.1.1) (cmpOk_of O hq.1.2) ha.pe hb.pe hc.pe hq.2) (by intros; simp) rfl fun _ => st_chn (cmpOk_of O hq.1.1) (cmpOk_of O hq.1.2) ha.pe hb.pe hc.pe hq.2
          · cases hs
        · cases hs
      · cases hs
    · cases h
  | .and as, e, sc, fc, X, O, h => by
    unfold matE at h
    split at h
    · rename_i es hs
      exact bool_ok (t := true) hs (matEs_ok as es sc fc X O h)
    · cases h
  | .or as, e, sc, fc, X, O, h => by
    unfold matE at h
    split at h
    · rename_i es hs
      exact bool_ok (t := false) hs (matEs_ok as es sc fc X O h)
    · cases h
  | .not a, e, sc, fc, X, O, h => by
    unfold matE at h
    split at h
    · rename_i r hs
      have ha := matE_ok a r sc fc X O h
      unfold notShape at hs
      split at hs
      · split at hs
        · rename_i hq
          cases hs
          exact .mk1 (se_not ha.pe) (by intros; simp) rfl fun _ => st_not (ha.pt hq)
        · cases hs
      · cases hs
    · cases h
  | .ife c a b, e, sc, fc, X, O, h => by
    unfold matE at h
    split at h
    · rename_i r hs
      simp only [Bool.and_eq_true] at h
      have hc := matE_ok c _ sc fc X O h.1.1
      have ha := matE_ok a _ sc fc X O h.1.2
      have hb := matE_ok b _ sc fc X O h.2
      unfold ifeShape at hs
      split at hs
      · split at hs
        · rename_i hq
          cases hs
          exact .mk1 (se_ife (hc.pt hq) ha.pe hb.pe) (by intros; simp) rfl fun hn => by simp [noIf] at hn
        · cases hs
      · cases hs
    · cases h
  | .call f as, e, sc, fc, X, O, h => by
    unfold matE at h
    split at h
    · rename_i es hs
      exact call_ok O hs (matEs_ok as es sc fc X O h)
    · cases h
  | .mut m i as, e, sc, fc, X, O, h => by
    unfold matE at h
    split at h
    · rename_i es hs
      exact mut_ok O hs (matEs_ok as es sc fc X O h)
    · cases h
  | .tup as, e, sc, fc, X, O, h => by
    unfold matE at h
    split at h
    · rename_i es hs
      exact tup_ok hs (matEs_ok as es sc fc X O h)
    · cases h
  | .lst as, e, sc, fc, X, O, h => by
    unfold matE at h
    split at h
    · rename_i es hs
      exact lst_ok hs (matEs_ok as es sc fc X O h)
    · cases h
  | .dic, e, sc, fc, X, O, h => by
    unfold matE at h
    unfold dicB at h
    split at h
    · exact .mk2 se_dic (by intros; simp) rfl (by intros; simp) (by intros; simp) (by intros; simp)
    · cases h
  | .comp own t it ifs a, e, sc, fc, X, O, h => by
    unfold matE at h
    split at h
    · rename_i r hs
      simp only [Bool.and_eq_true] at h
      obtain ⟨⟨⟨⟨⟨h1, h2⟩, h3⟩, h4⟩, h5⟩, h6⟩ := h
      have ok : BlkOk X.N X.env.scope r.scope (ownN M own) := by rw [O.n, O.scp]; exact blkOk_by h1
      have hi := matI_ok it r.iter sc fc X O h3.2 (tg := r.tg) h3.1
      have hg := fun s H Ca cl fp => matG_ok (O.blk ok s H Ca cl fp) t r.tg h4
      have hif := fun s H Ca cl fp => matEs_ok ifs r.ifs _ _ _ (O.blk ok s H Ca cl fp) h5
      have he := fun s H Ca cl fp => matE_ok a r.elt _ _ _ (O.blk ok s H Ca cl fp) h6
      unfold lcShape at hs
      split at hs
      · rename_i elt tg iter cs scope pos0
        split at hs
        · rename_i hq
          cases hs
          simp only [Bool.and_eq_true, decide_eq_true_eq] at hq
          obtain ⟨⟨q1, q2⟩, q3⟩ := hq
          have key := se_comp (G := G) (e := a) (ifs := ifs) (cs := cs) (pos := pos0) C0.no ?_ ?_ O.calm (O.n ▸ O.nd) hi ok hg ?_ (fun s H Ca cl fp => (he s H Ca cl fp).pe) (set_of q1)
          · rw [own_ix] at key
            exact .mk2 key (by intros; simp) rfl (by intros; simp) (by intros; simp) (by intros; simp)
          · have hl := (hif X.s_0 (fun _ => none) 0 [] []).len
            cases ifs with
            | nil => exact .inl rfl
            | cons c r' =>
              cases r' with
              | nil => exact .inr ⟨c, rfl⟩
              | cons _ _ => simp [Exs.len] at hl; omega
          · intro i hi
            rw [own_ix]
            have := List.all_eq_true.mp h2 i hi
            simpa using this
          · intro s H Ca cl fp
            have q := hif s H Ca cl fp
            cases ifs with
            | nil => cases q; exact pts_nil
            | cons c r' =>
              have hl := q.len
              cases r' with
              | nil =>
                cases q with
                | cons hh hr =>
                  cases hr
                  simp only [List.all_cons, Bool.and_eq_true] at q2
                  exact pts_one (hh.pt q2.1)
              | cons _ _ => simp [Exs.len] at hl; omega
        · cases hs
      · cases hs
    · cases h
theorem matEs_ok : ∀ (xs : Exs) (es : List Expr) (sc : Scope) (fc : Str → Bool) (X : Cx), XOk M G k sc fc X → matEs M sc xs es = true → AllO X G xs es
  | .nil, es, sc, fc, X, O, h => by
    unfold matEs at h
    rw [List.isEmpty_iff] at h
    subst h
    exact .nil
  | .cons a as, es, sc, fc, X, O, h => by
    unfold matEs at h
    split at h
    · simp only [Bool.and_eq_true] at h
      exact .cons (matE_ok a _ sc fc X O h.1) (matEs_ok as _ sc fc X O h.2)
    · cases h
theorem matI_ok : ∀ (it : VL.It) (e : Expr) (sc : Scope) (fc : Str → Bool) (X : Cx), XOk M G k sc fc X → matI M sc it e = true → ∀ {tg : Expr}, tgI it tg = true → PI X tg e (tI X.K C0 G it)
  | .val a, e, sc, fc, X, O, h, tg, ht => by unfold matI at h; exact si_val (matE_ok a e sc fc X O h).pe
  | .rng1 a, e, sc, fc, X, O, h, tg, ht => by
    unfold matI at h
    split at h
    · rename_i x hs
      obtain ⟨p, q, rfl, g, m, st⟩ := rng_args O hs
      simp only [List.all_cons, Bool.and_eq_true] at st
      exact si_rng1 g m (matE_ok a _ sc fc X O h).pe (star_of st.1)
    · cases h
  | .rng2 a b, e, sc, fc, X, O, h, tg, ht => by
    unfold matI at h
    split at h
    · rename_i x y hs
      obtain ⟨p, q, rfl, g, m, st⟩ := rng_args O hs
      simp only [List.all_cons, Bool.and_eq_true] at st h
      exact si_rng2 g m (matE_ok a _ sc fc X O h.1).pe (matE_ok b _ sc fc X O h.2).pe (star_of st.1) (star_of st.2.1)
    · cases h
  | .rng3 a b c, e, sc, fc, X, O, h, tg, ht => by
    unfold matI at h
    split at h
    · rename_i x y z hs
      obtain ⟨p, q, rfl, g, m, st⟩ := rng_args O hs
      simp only [List.all_cons, Bool.and_eq_true] at st h
      exact si_rng3 g m (matE_ok a _ sc fc X O h.1.1).pe (matE_ok b _ sc fc X O h.1.2).pe (matE_ok c _ sc fc X O h.2).pe (star_of st.1) (star_of st.2.1) (star_of st.2.2.1) (stars_of (by simp [st.2.1, st.2.2.1]))
    · cases h
  | .enum a, e, sc, fc, X, O, h, tg, ht => by
    cases tg <;> simp only [tgI, Bool.false_eq_true] at ht
    unfold matI at h
    split at h
    · rename_i x hs
      obtain ⟨p, q, rfl, g, m, st⟩ := blt_args O hs
      simp only [List.all_cons, Bool.and_eq_true] at st
      exact si_enum g m (matE_ok a _ sc fc X O h).pe (star_of st.1)
    · cases h
  | .zip a b, e, sc, fc, X, O, h, tg, ht => by
    cases tg <;> simp only [tgI, Bool.false_eq_true] at ht
    unfold matI at h
    split at h
    · rename_i x y hs
      obtain ⟨p, q, rfl, g, m, st⟩ := blt_args O hs
      simp only [List.all_cons, Bool.and_eq_true] at st h
      exact si_zip g m (matE_ok a _ sc fc X O h.1).pe (matE_ok b _ sc fc X O h.2).pe (star_of st.1) (star_of st.2.1)
    · cases h
  | .zipS a b, e, sc, fc, X, O, h, tg, ht => by
    cases tg <;> simp only [tgI, Bool.false_eq_true] at ht
    unfold matI at h
    split at h
    · rename_i x y hs
      obtain ⟨p, q, rfl, g, m, st⟩ := blt_args O hs
      simp only [List.all_cons, Bool.and_eq_true] at st h
      exact si_zipS g m (matE_ok a _ sc fc X O h.1).pe (matE_ok b _ sc fc X O h.2).pe (star_of st.1) (star_of st.2.1)
    · cases h
end
end
end VL

/-! VL18: the matcher of statements. -/
namespace VL
open PySem PySem.Spec PyProof.Rows L2

section
variable {X : Cx} {K : PySem.W.Frag}
theorem PS.imp {st : Stmt} {t t' : TS} (h : PS X st t') (k : ∀ Y σ H, t Y σ H → t' Y σ H) : PS X st t := ⟨fun pins s σ H Y I q => h.run pins s σ H Y I (k Y σ H q)⟩
theorem PSs.imp {st : List Stmt} {t t' : TS} (h : PSs X st t') (k : ∀ Y σ H, t Y σ H → t' Y σ H) : PSs X st t := ⟨fun pins s σ H Y I q => h.run pins s σ H Y I (k Y σ H q)⟩
theorem pget_list : PGet X (rIxL X.K) := by
  intro pins s σ H x y v u Q I rx ry h
  obtain ⟨p, xs, i, z, rfl, rfl, hq, he, q⟩ := h
  cases rx
  obtain ⟨t, rfl⟩ := ry
  obtain ⟨its, r, pl, hz⟩ := I.list hq
  obtain ⟨j, h1, h2, h3, h4, h5⟩ := atI_get he
  obtain ⟨w, ew, rw'⟩ := r.get h2
  have hl := r.length
  have hn := line63
  have fin : EP X pins σ Q w s := ⟨z, H, I, rw', q⟩
  by_cases h0 : 0 ≤ i
  · have hj : i.toNat = j := by
      rw [seqIndex_of h0 h5] at h1
      exact Option.some.inj h1
    exact wpAny_getItem_list pl.isList h0 (by omega) (by rw [hj]; simpa using ew) fin
  · have hj : (i + (its.toArray.size : Int)).toNat = j := by
      rw [seqIndex_neg (by omega) h4] at h1
      rw [List.size_toArray, ← hl]
      exact Option.some.inj h1
    exact wpAny_getItem_list_neg pl.isList (by omega) (by rw [List.size_toArray] <;> omega) (by omega) (by rw [hj]; simpa using ew) fin
/-- a op= b -/
structure IpOk (X : Cx) (op : Operator) (p : Prim) : Prop where
  ex : ∃ t : TIp, PIp X op t ∧ ∀ {x y H Q}, (∀ a, x ≠ V.ref a) → PR X.K p [x, y] H Q → t x y H Q
theorem ipk_add : IpOk X .Add .add := ⟨_, iop_add.or iop_add_str, fun n h => by
  rcases pr_add h with h | h | ⟨a, b, xs, ys, e, _⟩
  · exact .inl h
  · exact .inr h
  · exact absurd e (n a)⟩
theorem ipk_sub : IpOk X .Sub .sub := ⟨_, iop_sub, fun n h => pr_sub h⟩
theorem ipk_fdiv : IpOk X .FloorDiv .fdiv := ⟨_, iop_fdiv, fun n h => pr_fdiv h⟩
theorem ipk_mod : IpOk X .Mod .mod := ⟨_, iop_mod, fun n h => pr_mod h⟩
end
def ipB : Prim → Operator → Bool
  | .add, .Add => true
  | .sub, .Sub => true
  | .fdiv, .FloorDiv => true
  | .mod, .Mod => true
  | _, _ => false
theorem ip_of {X : Cx} {p : Prim} {op : Operator} (h : ipB p op = true) : IpOk X op p := by
  unfold ipB at h
  split at h
  · exact ipk_add
  · exact ipk_sub
  · exact ipk_fdiv
  · exact ipk_mod
  · cases h

/-- a name that may be stored to -/
def stoB (M : MCtx) (sc : Scope) (fc : Str → Bool) (cn : List Nat) (i : Nat) (x : Str) : Bool := decide (M.N[i]? = some x) && !cn.contains i && (match sc.names.lookup x with
  | some .local => true
  | some .cell => fc x
  | _ => false)
/-- a value that is no comprehension, or one that is not swapped with its store -/
def swB (sc : Scope) (x : Str) (px : Pos) : Expr → Bool
  | .ListComp _ _ _ pos => (match sc.names.lookup x with
    | some .local => !(px.line == pos.line)
    | _ => true)
  | e => noComp e
/-- .. one that is -/
def swT (sc : Scope) (x : Str) (px : Pos) : Expr → Bool
  | .ListComp _ _ scope pos => decide (sc.names.lookup x = some .local) && (px.line == pos.line) && !(scope.names.any fun (n, k) => n == x && (k == .local || k == .cell))
  | _ => false
def noTup : Expr → Bool
  | .Tuple vs _ _ => vs.all (foldedForSure 8)
  | _ => true
theorem swapped_folded {ts vs : List Expr} {env : Env} {kt k2 : Nat} {pt pt2 : Pos} (h : vs.all (foldedForSure 8) = true) : swappedStores [.Tuple ts kt pt] (.Tuple vs k2 pt2) env = pure none := by
  unfold swappedStores
  simp only [h]
  repeat (first | rfl | split)
def isComp : Ex → Bool
  | .comp _ _ _ _ _ => true
  | _ => false
mutual
def matS (M : MCtx) (sc : Scope) (fc : Str → Bool) (cn : List Nat) : Sm → Stmt → Bool
  | .asg i e, st => match st with
    | .Assign [.Name x px] v _ => stoB M sc fc cn i x && matE M sc e v && (swB sc x px v || (swT sc x px v && isComp e))
    | _ => false
  | .unp t e, st => match st with
    | .Assign [tg] v _ => (match tg with | .Tuple _ _ _ => true | _ => false) && noTup v && noComp v && matG M sc fc t tg && matE M sc e v && (t.slots.all fun i => !cn.contains i)
    | _ => false
  | .par i j a b, st => match st with
    | .Assign [.Tuple [.Name x px, .Name y py] _ _] (.Tuple [va, vb] _ _) _ => stoB M sc fc cn i x && stoB M sc fc cn j y && decide (i ≠ j) && decide (sc.names.lookup x = some .local) && decide (sc.names.lookup y = some .local) && decide (x ≠ y) &&
        (px.line == py.line) && noStar va && noStar vb && !([va, vb].all (foldedForSure 8)) && !([va, vb].all (constantsAlone 8)) && matE M sc a va && matE M sc b vb
    | _ => false
  | .seti i k e, st => match st with
    | .Assign [.Subscript (.Name x _) s _] v _ => nameB M sc i x && noComp v && matE M sc k s && matE M sc e v && (match s with | .Slice _ _ _ _ => false | _ => true)
    | _ => false
  | .dput i k e, st => match st with
    | .Assign [.Subscript (.Name x _) s _] v _ => nameB M sc i x && noComp v && matE M sc k s && matE M sc e v
    | _ => false
  | .aug i p e, st => match st with
    | .AugAssign (.Name x _) op v _ => stoB M sc fc cn i x && ipB p op && matE M sc e v
    | _ => false
  | .augi i k p e, st => match st with
    | .AugAssign (.Subscript (.Name x _) s _) op v _ => nameB M sc i x && ipB p op && matE M sc k s && matE M sc e v && (match s with | .Slice _ _ _ _ => false | _ => true)
    | _ => false
  | .exp e, st => match st with
    | .Expr v _ => noComp v && matE M sc e v
    | _ => false
  | .ret e, st => match st with
    | .Return (some v) _ => matE M sc e v
    | _ => false
  | .retN, st => match st with
    | .Return none _ => true
    | _ => false
  | .ifs c a b, st => match st with
    | .If t p q _ => noIf t && matE M sc c t && matB M sc fc cn a p && matB M sc fc cn b q
    | _ => false
  | .for t it b, st => match st with
    | .For tg iter p [] _ => noSet iter && matG M sc fc t tg && (t.slots.all fun i => !cn.contains i) && (tgI it tg && matI M sc it iter) && matB M sc fc cn b p
    | _ => false
  | .forK i t b, st => match st with
    | .For tg (.Name x _) p [] _ => nameB M sc i x && matG M sc fc t tg && (t.slots.all fun j => !(i :: cn).contains j) && matB M sc fc (i :: cn) b p
    | _ => false
  | .whl c b, st => match st with
    | .While t p [] _ => noIf t && matE M sc c t && matB M sc fc cn b p
    | _ => false
  | .brk, st => match st with
    | .Break _ => true
    | _ => false
  | .cnt, st => match st with
    | .Continue _ => true
    | _ => false
  | .pas, st => match st with
    | .Pass _ => true
    | .Expr (.Constant (.str _) _ _) _ => true
    | _ => false
  | .nvr, _ => true
def matB (M : MCtx) (sc : Scope) (fc : Str → Bool) (cn : List Nat) : Sms → List Stmt → Bool
  | .nil, sts => sts.isEmpty
  | .cons m ms, sts => match sts with
    | st :: sts => matS M sc fc cn m st && matB M sc fc cn ms sts
    | [] => false
end

section
variable {M : MCtx} {G : Calls} {k : Nat} {sc : Scope} {fc : Str → Bool} {cn : List Nat} {v0 : List V} {X : Cx} {x y : Str} {e v : Expr} {px pos : Pos} {i : Nat}
theorem sto_of (O : XOk M G k sc fc X) (h : stoB M sc fc cn i x = true) : X.N[i]? = some x ∧ Loc X.env.scope x ∧ (X.fn x = true ∨ X.env.scope.names.lookup x = some .local) ∧ i ∉ cn := by
  simp only [stoB, Bool.and_eq_true, decide_eq_true_eq, Bool.not_eq_true', List.contains_iff_mem] at h
  obtain ⟨⟨h1, h2⟩, h3⟩ := h
  have h2 : i ∉ cn := by
    intro z
    have := List.contains_iff_mem.mpr z
    rw [h2] at this
    cases this
  split at h3
  · rename_i hl
    exact ⟨by rw [O.n]; exact h1, .inl (by rw [O.scp]; exact hl), .inr (by rw [O.scp]; exact hl), h2⟩
  · rename_i hl
    exact ⟨by rw [O.n]; exact h1, .inr (by rw [O.scp]; exact hl), .inl (O.fc _ h3), h2⟩
  · cases h3
theorem sw_no {t : Option Expr} {l : Nat} (h : noComp v = true) : swapsWith v t l X.env = pure false := by
  cases v <;> first | rfl | (simp [noComp] at h)
theorem sw_false (O : XOk M G k sc fc X) {l : Nat} (h : swB sc x px v = true) : swapsWith v (some (.Name x px)) l X.env = pure false := by
  unfold swB at h
  split at h
  · rename_i elt gs scope p
    unfold swapsWith
    simp only [Expr.pos, Env.kindOf, O.scp]
    split at h
    · rename_i hl
      simp only [Bool.not_eq_true'] at h
      simp [hl, h]
    · rename_i hl
      have : (sc.names.lookup x == some .local) = false := by
        cases hq : sc.names.lookup x with
        | none => rfl
        | some z =>
          cases z <;> first | rfl | exact absurd hq hl
      simp [this]
  · exact sw_no h
theorem comp_parts (O : XOk M G k sc fc X) {own : List Nat} {t : Tg} {it : VL.It} {ifs : Exs} {a : Ex} (h : matE M sc (.comp own t it ifs a) v = true) : ∃ elt tg iter cs scope pos, v = .ListComp elt [⟨tg, iter, cs, 0⟩] scope pos ∧
    BlkOk X.N X.env.scope scope (ownN M own) ∧ PI X tg iter (tI X.K C0 G it) ∧ (∀ (s : Shared) (H : Hp) (Ca : Addr) (cl : List (Str × Addr)) (fp : List Addr), PG (X.blk s H scope (compEnvC scope cl Ca X.env) fp) tg (tG X.K t)) ∧
    (∀ (s : Shared) (H : Hp) (Ca : Addr) (cl : List (Str × Addr)) (fp : List Addr), PTs (X.blk s H scope (compEnvC scope cl Ca X.env) fp) cs (tTs X.K C0 G ifs)) ∧
    (∀ (s : Shared) (H : Hp) (Ca : Addr) (cl : List (Str × Addr)) (fp : List Addr), PE (X.blk s H scope (compEnvC scope cl Ca X.env) fp) elt (tE X.K C0 G a)) ∧
    (∀ x, foldedSetIterable iter X.env x = pure x) ∧ (ifs = .nil ∨ ∃ c, ifs = .cons c .nil) ∧ (∀ i ∈ t.slots, i ∈ own) := by
  unfold matE at h
  split at h
  · rename_i r hs
    simp only [Bool.and_eq_true] at h
    obtain ⟨⟨⟨⟨⟨h1, h2⟩, h3⟩, h4⟩, h5⟩, h6⟩ := h
    have ok : BlkOk X.N X.env.scope r.scope (ownN M own) := by rw [O.n, O.scp]; exact blkOk_by h1
    have hi := matI_ok it r.iter sc fc X O h3.2 (tg := r.tg) h3.1
    have hg := fun s H Ca cl fp => matG_ok (O.blk ok s H Ca cl fp) t r.tg h4
    have hif := fun s H Ca cl fp => matEs_ok ifs r.ifs _ _ _ (O.blk ok s H Ca cl fp) h5
    have he := fun s H Ca cl fp => matE_ok a r.elt _ _ _ (O.blk ok s H Ca cl fp) h6
    unfold lcShape at hs
    split at hs
    · rename_i elt tg iter cs scope pos0
      split at hs
      · rename_i hq
        cases hs
        simp only [Bool.and_eq_true, decide_eq_true_eq] at hq
        obtain ⟨⟨q1, q2⟩, q3⟩ := hq
        refine ⟨elt, tg, iter, cs, scope, pos0, rfl, ok, hi, hg, ?_, fun s H Ca cl fp => (he s H Ca cl fp).pe, set_of q1, ?_, ?_⟩
        · intro s H Ca cl fp
          have q := hif s H Ca cl fp
          cases ifs with
          | nil => cases q; exact pts_nil
          | cons c r' =>
            have hl := q.len
            cases r' with
            | nil =>
              cases q with
              | cons hh hr =>
                cases hr
                simp only [List.all_cons, Bool.and_eq_true] at q2
                exact pts_one (hh.pt q2.1)
            | cons _ _ => simp [Exs.len] at hl; omega
        · have hl := (hif X.s_0 (fun _ => none) 0 [] []).len
          cases ifs with
          | nil => exact .inl rfl
          | cons c r' =>
            cases r' with
            | nil => exact .inr ⟨c, rfl⟩
            | cons _ _ => simp [Exs.len] at hl; omega
        · intro i hi
          have := List.all_eq_true.mp h2 i hi
          simpa using this
      · cases hs
    · cases hs
  · cases h
theorem asg_ok (O : XOk M G k sc fc X) {e : Ex} (h1 : stoB M sc fc cn i x = true) (h2 : matE M sc e v = true) (h3 : (swB sc x px v || (swT sc x px v && isComp e)) = true) : PS X (.Assign [.Name x px] v pos) (tSs X.K cn v0 (execS G (.asg i e))) := by
  obtain ⟨n1, n2, n3, n4⟩ := sto_of O h1
  have nd : X.N.Nodup := O.n ▸ O.nd
  rcases Bool.or_eq_true _ _ |>.mp h3 with k3 | k3
  · exact PS.imp (ps_set nd n1 n2 (matE_ok e v sc fc X O h2).pe (sw_false O k3) n3) fun Y σ H h => tS_asg n4 h
  · clear h3
    simp only [Bool.and_eq_true] at k3
    obtain ⟨k4, h5⟩ := k3
    cases e with
    | comp own t it ifs a =>
      obtain ⟨elt, tg, iter, cs, scope, pos0, rfl, ok, hi, hg, hts, he, hs, hif, ht⟩ := comp_parts O h2
      simp only [swT, Bool.and_eq_true, decide_eq_true_eq, Bool.not_eq_true'] at k4
      obtain ⟨⟨q1, q2⟩, q3⟩ := k4
      have q1' : X.env.scope.names.lookup x = some .local := by rw [O.scp]; exact q1
      refine PS.imp (ps_setLc (own := ownN M own) O.calm nd n1 q1' (sw_true O.kind q1' q2 q3) hi ok hg hts he hs) fun Y σ H h => ?_
      rw [own_ix]
      exact tE_comp C0.no hif ht (tS_asg n4 h)
    | _ => simp [isComp] at h5
theorem unp_ok (O : XOk M G k sc fc X) {e : Ex} {t : Tg} {tg : Expr} (h0 : (match tg with | .Tuple _ _ _ => true | _ => false) = true) (hv : noTup v = true) (hc : noComp v = true) (h1 : matG M sc fc t tg = true) (h2 : matE M sc e v = true) (h3 : (t.slots.all fun i => !cn.contains i) = true) :
    PS X (.Assign [tg] v pos) (tSs X.K cn v0 (execS G (.unp t e))) := by
  have hs : ∀ i ∈ t.slots, i ∉ cn := fun i hi z => by
    have := List.all_eq_true.mp h3 i hi
    simp only [Bool.not_eq_true'] at this
    have z2 := List.contains_iff_mem.mpr z
    rw [this] at z2
    cases z2
  cases tg with
  | Tuple ts kk pt =>
    refine PS.imp (ps_asg (matE_ok e v sc fc X O h2).pe (matG_ok O t _ h1) ?_ ?_) fun Y σ H h => tS_unp hs h
    · rw [swapsWithSole]
      exact sw_no hc
    · cases v <;> first | rfl | exact swapped_folded hv
  | _ => cases h0
theorem swapped2 (O : XOk M G k sc fc X) {va vb : Expr} {py pt pt2 : Pos} {kt k2 : Nat} (hx : sc.names.lookup x = some .local) (hy : sc.names.lookup y = some .local) (hxy : x ≠ y) (hl : (px.line == py.line) = true) (na : noStar va = true) (nb : noStar vb = true)
    (hf : [va, vb].all (foldedForSure 8) = false) (hc : [va, vb].all (constantsAlone 8) = false) : swappedStores [.Tuple [.Name x px, .Name y py] kt pt] (.Tuple [va, vb] k2 pt2) X.env = pure (some [x, y]) := by
  have kx : X.env.kindOf x = some .local := by unfold Env.kindOf; rw [O.scp]; exact hx
  have ky : X.env.kindOf y = some .local := by unfold Env.kindOf; rw [O.scp]; exact hy
  have hb : X.env.blockKind = .function := by unfold Env.blockKind; rw [O.kind]; rfl
  have hs : ([va, vb].any fun | .Starred .. => true | _ => false) = false := by
    cases va <;> cases vb <;> first | rfl | (simp [noStar] at na nb)
  have hl2 : (py.line == px.line) = true := by simp at hl ⊢; exact hl.symm
  have hd : [x, y].eraseDups = [x, y] := by
    have e : (y == x) = false := by simpa using Ne.symm hxy
    simp [List.eraseDups_cons, List.filter, e]
  unfold swappedStores
  simp only [List.length_cons, List.length_nil, hb, hs, hf, hc, List.filterMap_cons, List.filterMap_nil, kx, ky, Expr.pos, List.head?_cons, Option.map_some, Option.getD_some, beq_self_eq_true, hl2, Bool.and_self, if_true, hd]
  refine (if_neg (by decide)).trans ((if_neg ?_).trans rfl)
  intro h
  have h : ([va, vb].any fun | .Starred .. => true | _ => false) = true := h
  rw [hs] at h
  cases h
theorem par_ok (O : XOk M G k sc fc X) {j : Nat} {a b : Ex} {va vb : Expr} {py pt pt2 : Pos} {kt k2 : Nat} (h1 : stoB M sc fc cn i x = true) (h2 : stoB M sc fc cn j y = true) (hij : i ≠ j) (hx : sc.names.lookup x = some .local) (hy : sc.names.lookup y = some .local) (hxy : x ≠ y) (hl : (px.line == py.line) = true)
    (na : noStar va = true) (nb : noStar vb = true) (hf : [va, vb].all (foldedForSure 8) = false) (hc : [va, vb].all (constantsAlone 8) = false) (ma : matE M sc a va = true) (mb : matE M sc b vb = true) :
    PS X (.Assign [.Tuple [.Name x px, .Name y py] kt pt] (.Tuple [va, vb] k2 pt2) pos) (tSs X.K cn v0 (execS G (.par i j a b))) := by
  obtain ⟨n1, _, _, n4⟩ := sto_of O h1
  obtain ⟨m1, _, _, m4⟩ := sto_of O h2
  have nd : X.N.Nodup := O.n ▸ O.nd
  exact PS.imp (ps_par O.calm nd n1 m1 hij (by rw [O.scp]; exact hx) (by rw [O.scp]; exact hy) (pa_cons (matE_ok a va sc fc X O ma).pe (pa_cons (matE_ok b vb sc fc X O mb).pe pa_nil (star_of nb)) (star_of na)) (swapped2 O hx hy hxy hl na nb hf hc) rfl) fun Y σ H h => tS_par n4 m4 h
theorem nm_of (O : XOk M G k sc fc X) (h : nameB M sc i x = true) {px : Pos} : PE X (.Name x px) (tVar i) := by
  obtain ⟨n1, n2, n3, n4⟩ := name_of O h
  exact pe_var n1 n2 n3 n4
theorem noSlice (s : Expr) (h : (match s with | .Slice _ _ _ _ => false | _ => true) = true) : ∀ a b c d, s ≠ .Slice a b c d := fun a b c d e => by
  subst e; cases h
theorem notIn {is cn : List Nat} (h3 : (is.all fun i => !cn.contains i) = true) : ∀ i ∈ is, i ∉ cn := fun i hi z => by
  have := List.all_eq_true.mp h3 i hi
  simp only [Bool.not_eq_true'] at this
  have z2 := List.contains_iff_mem.mpr z
  rw [this] at z2
  cases z2
theorem PSs.ex {α : Type} {sts : List Stmt} {w : α → TS} (h : ∀ a, PSs X sts (w a)) : PSs X sts (fun Y σ H => ∃ a, w a Y σ H) := ⟨fun pins s σ H Y I ⟨a, q⟩ => (h a).run pins s σ H Y I q⟩
mutual
theorem matS_ok (O : XOk M G k sc fc X) (hp : PassesOwn (model X.prog X.w) X.A X.env X.xe) : ∀ (m : Sm) (st : Stmt) (cn : List Nat) (v0 : List V), matS M sc fc cn m st = true → PS X st (tSs X.K cn v0 (execS G m))
  | .asg i e, st, cn, v0, h => by
    unfold matS at h
    split at h
    · simp only [Bool.and_eq_true] at h
      exact asg_ok O h.1.1 h.1.2 h.2
    · cases h
  | .unp t e, st, cn, v0, h => by
    unfold matS at h
    split at h
    · simp only [Bool.and_eq_true] at h
      exact unp_ok O h.1.1.1.1.1 h.1.1.1.1.2 h.1.1.1.2 h.1.1.2 h.1.2 h.2
    · cases h
  | .par i j a b, st, cn, v0, h => by
    unfold matS at h
    split at h
    · simp only [Bool.and_eq_true, decide_eq_true_eq, Bool.not_eq_true'] at h
      obtain ⟨⟨⟨⟨⟨⟨⟨⟨⟨⟨⟨⟨h1, h2⟩, h3⟩, h4⟩, h5⟩, h6⟩, h7⟩, h8⟩, h9⟩, h10⟩, h11⟩, h12⟩, h13⟩ := h
      exact par_ok O h1 h2 h3 h4 h5 h6 h7 h8 h9 h10 h11 h12 h13
    · cases h
  | .seti i kk e, st, cn, v0, h => by
    unfold matS at h
    split at h
    · simp only [Bool.and_eq_true] at h
      obtain ⟨⟨⟨⟨h1, h2⟩, h3⟩, h4⟩, h5⟩ := h
      have hsl := noSlice _ h5
      refine PS.imp (ps_asg (matE_ok e _ sc fc X O h4).pe (pg_sub (nm_of O h1) (matE_ok kk _ sc fc X O h3).pe set_list ?_) ?_ ?_) fun Y σ H q => tS_seti q
      · intro v
        rename_i s _ _ _
        cases s <;> first | rfl | exact absurd rfl (hsl _ _ _ _)
      · rw [swapsWithSole]; exact sw_no h2
      · rfl
    · cases h
  | .dput i kk e, st, cn, v0, h => by
    unfold matS at h
    split at h
    · simp only [Bool.and_eq_true] at h
      obtain ⟨⟨⟨h1, h2⟩, h3⟩, h4⟩ := h
      exact PS.imp (ps_dput (hu_of O.room) (nm_of O h1) (matE_ok kk _ sc fc X O h3).pe (matE_ok e _ sc fc X O h4).pe (sw_no h2)) fun Y σ H q => tS_dput q
    · cases h
  | .aug i p e, st, cn, v0, h => by
    unfold matS at h
    split at h
    · simp only [Bool.and_eq_true] at h
      obtain ⟨⟨h1, h2⟩, h3⟩ := h
      obtain ⟨n1, n2, n3, n4⟩ := sto_of O h1
      obtain ⟨ti, hti, hpr⟩ := (ip_of (X := X) h2).ex
      exact PS.imp (ps_aug (O.n ▸ O.nd) n1 n2 (matE_ok e _ sc fc X O h3).pe hti n3) fun Y σ H q => tS_aug n4 hpr q
    · cases h
  | .augi i kk p e, st, cn, v0, h => by
    unfold matS at h
    split at h
    · simp only [Bool.and_eq_true] at h
      obtain ⟨⟨⟨⟨h1, h2⟩, h3⟩, h4⟩, h5⟩ := h
      obtain ⟨ti, hti, hpr⟩ := (ip_of (X := X) h2).ex
      refine PS.imp (ps_augS (nm_of O h1) (matE_ok kk _ sc fc X O h3).pe pget_list (matE_ok e _ sc fc X O h4).pe hti set_list ?_) fun Y σ H q => tS_augi hpr q
      have hsl := noSlice _ h5
      intro ov iv new
      rename_i s _ _ _ _
      cases s <;> first | rfl | exact absurd rfl (hsl _ _ _ _)
    · cases h
  | .exp e, st, cn, v0, h => by
    unfold matS at h
    split at h
    · simp only [Bool.and_eq_true] at h
      exact PS.imp (ps_expr (matE_ok e _ sc fc X O h.2).pe (sw_no h.1)) fun Y σ H q => tS_exp q
    · cases h
  | .ret e, st, cn, v0, h => by
    unfold matS at h
    split at h
    · exact PS.imp (ps_ret (matE_ok e _ sc fc X O h).pe) fun Y σ H q => tS_ret q
    · cases h
  | .retN, st, cn, v0, h => by
    unfold matS at h
    split at h
    · exact PS.imp ps_retN fun Y σ H q => tS_retN q
    · cases h
  | .ifs c a b, st, cn, v0, h => by
    unfold matS at h
    split at h
    · simp only [Bool.and_eq_true] at h
      obtain ⟨⟨⟨h1, h2⟩, h3⟩, h4⟩ := h
      exact PS.imp (ps_if ((matE_ok c _ sc fc X O h2).pt h1) (matB_ok O hp a _ _ _ h3) (matB_ok O hp b _ _ _ h4)) fun Y σ H q => tS_ifs q
    · cases h
  | .for t it b, st, cn, v0, h => by
    unfold matS at h
    split at h
    · simp only [Bool.and_eq_true] at h
      obtain ⟨⟨⟨⟨h1, h2⟩, h3⟩, h4⟩, h5⟩ := h
      exact PS.imp (ps_for hp O.calm (matI_ok it _ sc fc X O h4.2 h4.1) (matG_ok O t _ h2) (matB_ok O hp b _ _ _ h5) (set_of h1)) fun Y σ H q => tS_for (notIn h3) q
    · cases h
  | .forK i t b, st, cn, v0, h => by
    unfold matS at h
    split at h
    · simp only [Bool.and_eq_true] at h
      obtain ⟨⟨⟨h1, h2⟩, h3⟩, h4⟩ := h
      obtain ⟨n1, n2, n3, n4⟩ := name_of O h1
      exact PS.imp (ps_for hp O.calm (pi_any (pe_var n1 n2 n3 n4)) (matG_ok O t _ h2) (PSs.ex fun v1 => matB_ok O hp b _ _ v1 h4) (set_of rfl)) fun Y σ H q => tS_forK (notIn h3) q
    · cases h
  | .whl c b, st, cn, v0, h => by
    unfold matS at h
    split at h
    · simp only [Bool.and_eq_true] at h
      obtain ⟨⟨h1, h2⟩, h3⟩ := h
      exact PS.imp (ps_while hp ((matE_ok c _ sc fc X O h2).pt h1) (matB_ok O hp b _ _ _ h3)) fun Y σ H q => tS_whl q
    · cases h
  | .brk, st, cn, v0, h => by
    unfold matS at h
    split at h
    · exact PS.imp ps_break fun Y σ H q => tS_brk q
    · cases h
  | .cnt, st, cn, v0, h => by
    unfold matS at h
    split at h
    · exact PS.imp ps_continue fun Y σ H q => tS_cnt q
    · cases h
  | .pas, st, cn, v0, h => by
    unfold matS at h
    split at h
    · exact PS.imp ps_pass fun Y σ H q => tS_pas q
    · exact PS.imp ps_doc fun Y σ H q => tS_pas q
    · cases h
  | .nvr, st, cn, v0, h => PS.imp ps_never fun Y σ H ⟨ρ, c, k, f, s, h⟩ => h.elim
theorem matB_ok (O : XOk M G k sc fc X) (hp : PassesOwn (model X.prog X.w) X.A X.env X.xe) : ∀ (ms : Sms) (sts : List Stmt) (cn : List Nat) (v0 : List V), matB M sc fc cn ms sts = true → PSs X sts (tSs X.K cn v0 (execB G ms))
  | .nil, sts, cn, v0, h => by
    unfold matB at h
    rw [List.isEmpty_iff] at h
    subst h
    exact PSs.imp pss_nil fun Y σ H q => tS_nil q
  | .cons m ms, sts, cn, v0, h => by
    unfold matB at h
    split at h
    · simp only [Bool.and_eq_true] at h
      exact PSs.imp (pss_cons (matS_ok O hp m _ _ _ h.1) (matB_ok O hp ms _ _ _ h.2)) fun Y σ H q => tS_cons q
    · cases h
end
end
end VL

/-! VL19: defs, programs. -/
namespace VL
open PySem PySem.Spec PyProof.Rows L2

theorem zip_out : ∀ (vs : List V) (σ : L2.St) (ρ : Rho) (rs : List (Option D)), (∀ (i : Nat) (d : D), rs[i]? = some (some d) → getS ρ i = some d ∧ ∃ v, vs[i]? = some v ∧ σ[i]? = some (some v)) → ∃ l, (cellsOf σ ρ).Perm (zipO vs rs ++ l)
  | [], σ, ρ, rs, _ => ⟨cellsOf σ ρ, by cases rs <;> exact .refl _⟩
  | v :: vs, σ, ρ, [], _ => ⟨cellsOf σ ρ, .refl _⟩
  | v :: vs, σ, ρ, some d :: rs, h => by
    obtain ⟨h1, v', h2, h3⟩ := h 0 d rfl
    cases h2
    cases ρ with
    | nil => simp [getS] at h1
    | cons p ρ =>
      cases σ with
      | nil => cases h3
      | cons s σ =>
        rw [getS_zero] at h1
        subst h1
        cases h3
        obtain ⟨l, hl⟩ := zip_out vs σ ρ rs fun i d e => by
          obtain ⟨a, b, c, e⟩ := h (i + 1) d (by simpa using e)
          rw [getS_succ] at a
          exact ⟨a, b, by simpa using c, by simpa using e⟩
        exact ⟨l, hl.cons _⟩
  | v :: vs, σ, ρ, none :: rs, h => by
    obtain ⟨l, hl⟩ := zip_out vs σ.tail ρ.tail rs fun i d e => by
      obtain ⟨a, b, c, e⟩ := h (i + 1) d (by simpa using e)
      refine ⟨?_, b, by simpa using c, ?_⟩
      · cases ρ with
        | nil => simp [getS] at a
        | cons p ρ => rw [getS_succ] at a; exact a
      · cases σ with
        | nil => cases e
        | cons s σ => simpa using e
    cases σ with
    | nil => exact ⟨l, by simpa [cellsOf, zipO] using hl⟩
    | cons s σ =>
      cases ρ with
      | nil => exact ⟨l, by
          have : cellsOf σ [] = [] := by cases σ <;> simp [cellsOf]
          have h0 : cellsOf (s :: σ) [] = [] := by simp [cellsOf]
          rw [h0]
          rw [show (s :: σ).tail = σ from rfl, show ([] : Rho).tail = [] from rfl, this] at hl
          exact hl⟩
      | cons p ρ =>
        cases s with
        | none => exact ⟨l, by cases p <;> exact hl⟩
        | some v' =>
          cases p with
          | none => exact ⟨l, hl⟩
          | some d' => exact ⟨(v', d') :: l, (hl.cons (v', d')).trans List.perm_middle.symm⟩
theorem cells_nones : ∀ (m n : Nat), cellsOf (List.replicate m none) (List.replicate n none) = []
  | 0, n => by cases n <;> rfl
  | m + 1, 0 => rfl
  | m + 1, n + 1 => by
    rw [List.replicate_succ, List.replicate_succ]
    exact cells_nones m n
theorem cells_start : ∀ (vs : List V) (ds : List D) (m : Nat), vs.length = ds.length → cellsOf (vs.map some ++ List.replicate m none) (ds.map some ++ List.replicate m none) = vs.zip ds
  | [], [], m, _ => cells_nones m m
  | v :: vs, d :: ds, m, h => congrArg ((v, d) :: ·) (cells_start vs ds m (by simpa using h))
  | [], _ :: _, _, h => by simp at h
  | _ :: _, [], _, h => by simp at h
theorem getS_start (ds : List D) (m i : Nat) (d : D) (h : getS (ds.map some ++ List.replicate m none) i = some d) : ds[i]? = some d := by
  unfold getS at h
  by_cases hi : i < ds.length
  · rw [List.getElem?_append_left (by simpa using hi), List.getElem?_map] at h
    cases e : ds[i]? with
    | none => rw [e] at h; simp at h
    | some x => rw [e] at h; simpa using h
  · rw [List.getElem?_append_right (by simpa using hi), List.getElem?_replicate] at h
    split at h <;> simp at h
theorem fits_start (vs : List V) (ds : List D) (m : Nat) (h : vs.length = ds.length) : Fits (vs.map some ++ List.replicate m none) (ds.map some ++ List.replicate m none) := by
  refine ⟨by simp [h], fun i d e => ?_⟩
  have hd := getS_start ds m i d e
  have hi : i < ds.length := (List.getElem?_eq_some_iff.mp hd).1
  have hv : i < vs.length := by omega
  exact ⟨vs[i], by rw [List.getElem?_append_left (by simpa using hv), List.getElem?_map, List.getElem?_eq_getElem hv]; rfl⟩

/-- the names that stay -/
def cnOf (d : Df) : List Nat := (List.range d.par).filter fun i => !d.lost.contains i
/-- a def's scope -/
def scB (N P : List Str) (sc : Scope) : Bool := (match sc.kind with | .function => true | _ => false) && (!sc.isCoroutine && (!sc.isGenerator && (decide N.Nodup && (decide (N.take P.length = P) && ((P.all fun x => match sc.names.lookup x with
  | some .local => true
  | some .cell => true
  | _ => false) && sc.names.all fun y => match y.2 with
  | .free => false
  | _ => true)))))
theorem scB_ok {N P : List Str} {sc : Scope} (h : scB N P sc = true) : FnScope N P sc := by
  simp only [scB, Bool.and_eq_true, Bool.not_eq_true', decide_eq_true_eq, List.all_eq_true] at h
  obtain ⟨h1, h2, h3, h4, h5, h6, h7⟩ := h
  refine ⟨?_, h2, h3, h4, h5, fun x hx => ?_, fun y hy e => ?_⟩
  · split at h1
    · assumption
    · cases h1
  · have q := h6 x hx
    split at q
    · exact .inl (by assumption)
    · exact .inr (by assumption)
    · cases q
  · have q := h7 y hy
    rw [e] at q
    cases q
def matD (M : MCtx) (sc : Scope) (d : Df) (ps : List Str) (body : List Stmt) : Bool :=
  scB M.N ps sc && decide (d.par = ps.length) && decide (d.slots = M.N.length) && matB M sc (fun _ => true) (cnOf d) d.body body

section
variable {P : Program} {w : World} {K : PySem.W.Frag} {mg : Str → Option Value} {base : Heap}
theorem fn_df {x qual : Str} {st : Stmt} {f : Addr} {fd : FuncData} {ps : List Str} {k fi : Nat} {M : MCtx} {d : Df} {G G' : Calls} (F : Fun K x qual st f fd) (hm : matD M (defScope st) d ps (defBody st) = true) (hG : ∀ ds, G' fi ds = callD G d ds)
    (bl : ∀ x ∈ M.bl, mg x = none)
    (fns : ∀ p ∈ M.fns, ∃ fa fd ps n, FnOk P w K mg base CX0 k fa fd ps (spV K G n p.2) ∧ mg p.1 = some (.ref fa) ∧ PySem.W.keepIn K (.ref fa) = true ∧ Binds K fd ps [] ∧ (∀ ds d rs, G p.2 ds = .ok d rs → ds.length = n))
    (cI : ∀ p ∈ M.cI, ∃ t, mg p.1 = some (.int p.2 t)) (cS : ∀ p ∈ M.cS, ∃ t, mg p.1 = some (.str ⟨p.2.toArray⟩ t)) : FnOk P w K mg base CX0 (k + 1) f fd ps (spV K G' d.par fi) := by
  simp only [matD, Bool.and_eq_true, decide_eq_true_eq] at hm
  obtain ⟨⟨⟨h1, h2⟩, h3⟩, h4⟩ := hm
  have S := scB_ok h1
  refine F.ok S (fun vs H Q E h => h.1.trans h2) (fun cdv A outer s H vs Q E hr h => ?_)
  obtain ⟨hl, ds, c, l1, s0, h⟩ := h
  rw [hG] at h
  have hds : ds.length = d.par := by omega
  let X := (cxOf CX0 P w K mg base M.N qual (defScope st) f cdv A outer s H E).nox
  have O : XOk M G k (defScope st) (fun _ => true) X := ⟨rfl, S.nd, rfl, hr, rfl, S.kind, fun _ _ => rfl, bl, fns, cI, cS⟩
  refine ⟨_, matB_ok O PassesOwn.never d.body (defBody st) _ vs h4, ?_⟩
  have e1 : L2.start M.N vs = vs.map some ++ List.replicate (d.slots - d.par) none := by unfold L2.start; rw [h3, hl]
  rw [e1]
  refine ⟨ds.map some ++ List.replicate (d.slots - d.par) none, c, ?_, fits_start vs ds _ l1, by rw [cells_start vs ds _ l1]; exact s0, ?_⟩
  · intro i hi
    have hi : i < d.par := by
      have := (List.mem_filter.mp hi).1
      simpa using this
    have hv : i < vs.length := by omega
    exact ⟨vs[i], List.getElem?_eq_getElem hv, by rw [List.getElem?_append_left (by simpa using hv), List.getElem?_map, List.getElem?_eq_getElem hv]; rfl⟩
  · have out : ∀ (σ : L2.St) (ρ : Rho), Cst (cnOf d) vs σ → ∃ l, (cellsOf σ ρ).Perm (zipO vs (outS d ρ) ++ l) := fun σ ρ kc => zip_out vs σ ρ _ fun i x e => by
      unfold outS at e
      rw [List.getElem?_map] at e
      cases er : (List.range d.par)[i]? with
      | none => rw [er] at e; cases e
      | some j =>
        rw [er] at e
        obtain ⟨hj, rfl⟩ := List.getElem?_eq_some_iff.mp er
        simp only [List.getElem_range, Option.map_some, Option.some.injEq] at e
        by_cases hlost : i ∈ d.lost
        · rw [if_pos hlost] at e; cases e
        · rw [if_neg hlost] at e
          exact ⟨e, kc i (List.mem_filter.mpr ⟨by simpa using hj, by simpa using hlost⟩)⟩
    unfold callD at h
    rw [if_pos hds] at h
    cases eb : execB G d.body (ds.map some ++ List.replicate (d.slots - d.par) none) with
    | no => rw [eb] at h; exact h.elim
    | exn kk x ρ => rw [eb] at h; exact h.elim
    | ok fl ρ =>
      rw [eb] at h
      cases fl with
      | nx =>
        intro σ H' kc ft s1
        obtain ⟨l, hl'⟩ := out σ ρ kc
        have s2 : Sat K H' [] (l ++ (zipO vs (outS d ρ) ++ c)) := s1.perm (by
          refine (hl'.append_right c).trans ?_
          rw [List.append_assoc]
          exact List.perm_append_comm_assoc _ _ _)
        exact h .non H' (s2.drop).non
      | bk => exact h.elim
      | ct => exact h.elim
      | rt x =>
        intro σ v H' kc ft s1
        obtain ⟨l, hl'⟩ := out σ ρ kc
        refine h v H' (Sat.drop (xs := l) (s1.perm ?_))
        refine (List.Perm.cons _ (hl'.append_right c)).trans ?_
        refine (List.Perm.cons _ ?_).trans List.perm_middle.symm
        rw [List.append_assoc]
        exact List.perm_append_comm_assoc _ _ _
end
end VL

/-! VL20: programs. -/
namespace VL
open PySem PySem.Spec PyProof.Rows L2

/-- a def of the program: its name, statement, parameters, slots -/
structure Ent where
  x : Str
  st : Stmt
  ps : List Str
  N : List Str
/-- what the names of the module are -/
structure Mods where
  bl : List Str
  cI : List (Str × Int)
  cS : List (Str × List Nat)
def fnsOf : Nat → List Ent → List (Str × Nat)
  | _, [] => []
  | i, t :: ts => (t.x, i) :: fnsOf (i + 1) ts
def matP (m : Mods) (fns : List (Str × Nat)) : List Ent → List Df → Bool
  | [], [] => true
  | t :: ts, d :: ds => matD ⟨t.N, m.bl, fns, m.cI, m.cS⟩ (defScope t.st) d t.ps (defBody t.st) && matP m fns ts ds
  | _, _ => false
theorem matP_get {m : Mods} {fns : List (Str × Nat)} : ∀ {ts : List Ent} {P : List Df}, matP m fns ts P = true → ∀ (i : Nat) (t : Ent), ts[i]? = some t → ∃ d, P[i]? = some d ∧ matD ⟨t.N, m.bl, fns, m.cI, m.cS⟩ (defScope t.st) d t.ps (defBody t.st) = true
  | [], _, _, i, t, h => by simp at h
  | t :: ts, [], h, _, _, _ => by simp [matP] at h
  | t :: ts, d :: ds, h, i, t', e => by
    simp only [matP, Bool.and_eq_true] at h
    cases i with
    | zero => simp at e; subst e; exact ⟨d, rfl, h.1⟩
    | succ i => exact matP_get h.2 i t' (by simpa using e)
theorem fnsOf_get : ∀ {ts : List Ent} {k : Nat} {p : Str × Nat}, p ∈ fnsOf k ts → ∃ i t, p.2 = k + i ∧ ts[i]? = some t ∧ t.x = p.1
  | [], _, _, h => by simp [fnsOf] at h
  | t :: ts, k, p, h => by
    simp only [fnsOf, List.mem_cons] at h
    rcases h with rfl | h
    · exact ⟨0, t, rfl, rfl, rfl⟩
    · obtain ⟨i, t', h1, h2, h3⟩ := fnsOf_get h
      exact ⟨i + 1, t', by omega, by simpa using h2, h3⟩
section
variable {P : Program} {w : World} {K : PySem.W.Frag} {mg : Str → Option Value} {base : Heap}
/-- a def, as the top has written it -/
structure EntOk (K : PySem.W.Frag) (mg : Str → Option Value) (t : Ent) : Prop where
  ex : ∃ fa fd, Fun K t.x t.x t.st fa fd ∧ mg t.x = some (.ref fa) ∧ Binds K fd t.ps []
theorem prog_ok {m : Mods} {ts : List Ent} {D : List Df} (hm : matP m (fnsOf 0 ts) ts D = true) (ok : ∀ t ∈ ts, EntOk K mg t) (bl : ∀ x ∈ m.bl, mg x = none) (cI : ∀ p ∈ m.cI, ∃ t, mg p.1 = some (.int p.2 t)) (cS : ∀ p ∈ m.cS, ∃ t, mg p.1 = some (.str ⟨p.2.toArray⟩ t)) :
    ∀ (n i : Nat) (t : Ent) (d : Df) (fa : Addr) (fd : FuncData), ts[i]? = some t → D[i]? = some d → Fun K t.x t.x t.st fa fd → FnOk P w K mg base CX0 n fa fd t.ps (spV K (run D n) d.par i) := by
  intro n
  induction n with
  | zero =>
    intro i t d fa fd ht hd F
    have no : ∀ vs H Q E, spV K (run D 0) d.par i vs H Q E → False := fun vs H Q E h => by
      obtain ⟨_, ds, c, _, _, h⟩ := h
      exact h
    exact ⟨fun vs H Q E h => (no _ _ _ _ h).elim, fun A outer s H args us vs Q E _ _ _ _ h => (no _ _ _ _ h).elim⟩
  | succ n ih =>
    intro i t d fa fd ht hd F
    obtain ⟨d', hd', hmat⟩ := matP_get hm i t ht
    rw [hd] at hd'
    cases hd'
    refine fn_df (G := run D n) (G' := run D (n + 1)) F hmat (fun ds => ?_) bl (fun p hp => ?_) cI cS
    · show (match D[i]? with | some d => callD (run D n) d ds | none => .no) = _
      rw [hd]
    · obtain ⟨j, t', e1, e2, e3⟩ := fnsOf_get hp
      rw [Nat.zero_add] at e1
      obtain ⟨d2, hd2, _⟩ := matP_get hm j t' e2
      obtain ⟨fa2, fd2, F2, g2, b2⟩ := (ok t' (List.mem_of_getElem? e2)).ex
      refine ⟨fa2, fd2, t'.ps, d2.par, ?_, ?_, F2.kp, b2, fun ds d rs e => ?_⟩
      · rw [e1]; exact ih j t' d2 fa2 fd2 e2 hd2 F2
      · rw [← e3]; exact g2
      · rw [e1] at e
        cases n with
        | zero => cases e
        | succ n =>
          have e : (match D[j]? with | some d => callD (run D n) d ds | none => .no) = Rs.ok d rs := e
          rw [hd2] at e
          have e : callD (run D n) d2 ds = .ok d rs := e
          unfold callD at e
          by_cases hl : ds.length = d2.par
          · exact hl
          · rw [if_neg hl] at e; cases e
/-- what the head of a law asks -/
def spLaw (K : PySem.W.Frag) : Sp := fun vs H Q _ => ∃ (a : Addr) (ns : List Int), vs = [.ref a] ∧ Kl K H a (ns.map V.int) ∧ ns.length ≤ 63 ∧ ∀ H', Q (.bl true) H'
theorem law_imp {D : List Df} {n i : Nat} (h : ∀ ns : List Int, ns.length ≤ 63 → ∃ rs, run D n i [.scr ns] = .ok (.bl true) rs) : ∀ vs H Q E, spLaw K vs H Q E → spV K (run D n) 1 i vs H Q E := fun vs H Q E ⟨a, ns, e, k, l, q⟩ => by
  subst e
  refine ⟨rfl, [.scr ns], [], rfl, ⟨[], .cons (.scr k) .nil, by simp, by simp⟩, ?_⟩
  obtain ⟨rs, e⟩ := h ns l
  rw [e]
  intro v H' s
  rw [s.bl_of .head]
  exact q H'
theorem kl_of {H : Hp} {a : Addr} {xs : List V} (o : Only H) (h : SqL K H a xs) : Kl K H a xs := by
  rcases h with h | h
  · rcases o a with e | ⟨ob, ys, e⟩
    · rcases h with h | h
      · rw [e] at h; cases h
      · obtain ⟨o', h⟩ := h; rw [e] at h; cases h
    · rcases h with h | h
      · rw [e] at h; cases h
      · exact .inl h
  · exact .inr h
end
end VL

/-! VL21: the evaluator's equations (printed by genvl21.py). -/
namespace VL
open PySem PySem.Spec PyProof.Rows L2

@[simp] theorem ev_cst (G : Calls) (ρ : Rho) (d : D) : evalE G (.cst d) ρ = .ok d ρ := (rfl)
@[simp] theorem ev_glb (G : Calls) (ρ : Rho) (x : Str) (d : D) : evalE G (.glb x d) ρ = .ok d ρ := (rfl)
@[simp] theorem ev_var (G : Calls) (ρ : Rho) (i : Nat) : evalE G (.var i) ρ = (Rs.of ρ (getS ρ i)).bind fun d _ => if d.isF = true then .ok d ρ else .ok d.frz (putS ρ i d.frz) := (rfl)
@[simp] theorem ev_mov (G : Calls) (ρ : Rho) (i : Nat) : evalE G (.mov i) ρ = (Rs.of ρ (getS ρ i)).bind fun d _ => .ok d (goneS ρ i) := (rfl)
@[simp] theorem ev_pk (G : Calls) (ρ : Rho) (i : Nat) : evalE G (.pk i) ρ = (Rs.of ρ (getS ρ i)).bind fun d _ => if d.isF = true then .ok d ρ else .no := (rfl)
@[simp] theorem ev_frz (G : Calls) (ρ : Rho) (e : Ex) : evalE G (.frz e) ρ = (evalE G e ρ).bind fun d ρ => .ok d.frz ρ := (rfl)
@[simp] theorem ev_ckI (G : Calls) (ρ : Rho) (e : Ex) : evalE G (.ckI e) ρ = (evalE G e ρ).bind fun d ρ => match d with | .int i => .ok (.int i) ρ | _ => .no := (rfl)
@[simp] theorem ev_ckS (G : Calls) (ρ : Rho) (e : Ex) : evalE G (.ckS e) ρ = (evalE G e ρ).bind fun d ρ => match d with | .str i => .ok (.str i) ρ | _ => .no := (rfl)
@[simp] theorem ev_prm (G : Calls) (ρ : Rho) (p : Prim) (as : Exs) : evalE G (.prm p as) ρ = (evalO G as ρ).bind fun ds ρ => (Rs.of ρ (fetchL as ds ρ)).bind fun ds _ => Rs.of ρ (prim p ds) := (rfl)
@[simp] theorem ev_chn (G : Calls) (ρ : Rho) (p q : Prim) (a b c : Ex) : evalE G (.chn p q a b c) ρ = (evalE G a ρ).bind fun x ρ => (evalE G b ρ).bind fun y ρ => (Rs.of ρ (prim p [x, y])).bind fun z _ => match z with | .bl true => (evalE G c ρ).bind fun u ρ => Rs.of ρ (prim q [y, u]) | .bl false => .ok (.bl false) ρ | _ => .no := (rfl)
@[simp] theorem ev_and (G : Calls) (ρ : Rho) (as : Exs) : evalE G (.and as) ρ = evalAnd G as ρ := (rfl)
@[simp] theorem ev_or (G : Calls) (ρ : Rho) (as : Exs) : evalE G (.or as) ρ = evalOr G as ρ := (rfl)
@[simp] theorem ev_not (G : Calls) (ρ : Rho) (a : Ex) : evalE G (.not a) ρ = (evalE G a ρ).bind fun x ρ => match x with | .bl b => .ok (.bl (!b)) ρ | _ => .no := (rfl)
@[simp] theorem ev_ife (G : Calls) (ρ : Rho) (c a b : Ex) : evalE G (.ife c a b) ρ = (evalE G c ρ).bind fun x ρ => match x with | .bl t => if t = true then evalE G a ρ else evalE G b ρ | _ => .no := (rfl)
@[simp] theorem ev_call (G : Calls) (ρ : Rho) (f : Nat) (as : Exs) : evalE G (.call f as) ρ = (evalO G as ρ).bind fun ds ρ => (Rs.of ρ (lendL as ds ρ)).bind fun r _ => match G f r.1 with | .ok d rs => .ok d (backL as r.1 rs r.2) | .exn k d rs => .exn k d (backL as r.1 rs r.2) | .no => .no := (rfl)
@[simp] theorem ev_mut (G : Calls) (ρ : Rho) (m : Mt) (i : Nat) (as : Exs) : evalE G (.mut m i as) ρ = if isLst (getS ρ i) = true then (evalS G as ρ).bind fun ds ρ => (Rs.of ρ (getS ρ i)).bind fun d _ => match d with | .lst true xs => (Rs.of ρ (mutL m xs ds)).bind fun r _ => .ok r.1 (putS ρ i (.lst true r.2)) | _ => .no else .no := (rfl)
@[simp] theorem ev_tup (G : Calls) (ρ : Rho) (as : Exs) : evalE G (.tup as) ρ = (evalS G as ρ).bind fun ds ρ => .ok (.tup ds) ρ := (rfl)
@[simp] theorem ev_lst (G : Calls) (ρ : Rho) (as : Exs) : evalE G (.lst as) ρ = (evalS G as ρ).bind fun ds ρ => .ok (.lst true ds) ρ := (rfl)
@[simp] theorem ev_dic (G : Calls) (ρ : Rho) : evalE G .dic ρ = .ok (.dct true [] []) ρ := (rfl)
theorem ev_comp (G : Calls) (ρ : Rho) (own : List Nat) (t : Tg) (it : VL.It) (ifs : Exs) (e : Ex) : evalE G (.comp own t it ifs e) ρ = (evalI G it ρ).bind fun ds ρ => (compL (fun d ρ => bindT t d (wipeS ρ own)) (fun ρ => (evalAnd G ifs ρ).bind fun x ρ => match x with | .bl b => .ok b ρ | _ => .no) (fun ρ => evalE G e ρ) ds [] ρ).bind fun d ρ1 => .ok d (backS ρ1 ρ own) := (rfl)
@[simp] theorem eo_nil (G : Calls) (ρ : Rho) : evalO G .nil ρ = .ok [] ρ := (rfl)
@[simp] theorem eo_pk (G : Calls) (ρ : Rho) (i : Nat) (es : Exs) : evalO G (.cons (.pk i) es) ρ = (Rs.of ρ (getS ρ i)).bind fun _ _ => (evalO G es ρ).bind fun ds ρ => .ok (none :: ds) ρ := (rfl)
@[simp] theorem fe_nil (ρ : Rho) : fetchL .nil [] ρ = some [] := (rfl)
@[simp] theorem fe_pk (ρ : Rho) (i : Nat) (es : Exs) (o : Option D) (ds : List (Option D)) : fetchL (.cons (.pk i) es) (o :: ds) ρ = (getS ρ i).bind fun d => (fetchL es ds ρ).map (d :: ·) := (rfl)
@[simp] theorem le_nil (ρ : Rho) : lendL .nil [] ρ = some ([], ρ) := (rfl)
@[simp] theorem le_pk (ρ : Rho) (i : Nat) (es : Exs) (o : Option D) (ds : List (Option D)) : lendL (.cons (.pk i) es) (o :: ds) ρ = (getS ρ i).bind fun d => (lendL es ds (goneS ρ i)).map fun r => (d :: r.1, r.2) := (rfl)
@[simp] theorem ba_nil (ρ : Rho) (ds : List D) (rs : List (Option D)) : backL .nil ds rs ρ = ρ := (rfl)
@[simp] theorem ba_pk (ρ : Rho) (i : Nat) (es : Exs) (d : D) (ds : List D) (r : Option D) (rs : List (Option D)) : backL (.cons (.pk i) es) (d :: ds) (r :: rs) ρ = backL es ds rs (ρ.set i (if d.flat = true then some d else r)) := (rfl)
@[simp] theorem eo_cst (G : Calls) (ρ : Rho) (d0 : D) (es : Exs) : evalO G (.cons (.cst d0) es) ρ = (evalE G (.cst d0) ρ).bind fun d ρ => (evalO G es ρ).bind fun ds ρ => .ok (some d :: ds) ρ := (rfl)
@[simp] theorem fe_cst (ρ : Rho) (d0 : D) (es : Exs) (d : D) (ds : List (Option D)) : fetchL (.cons (.cst d0) es) (some d :: ds) ρ = (fetchL es ds ρ).map (d :: ·) := (rfl)
@[simp] theorem le_cst (ρ : Rho) (d0 : D) (es : Exs) (d : D) (ds : List (Option D)) : lendL (.cons (.cst d0) es) (some d :: ds) ρ = (lendL es ds ρ).map fun r => (d :: r.1, r.2) := (rfl)
@[simp] theorem ba_cst (ρ : Rho) (d0 : D) (es : Exs) (d : D) (ds : List D) (r : Option D) (rs : List (Option D)) : backL (.cons (.cst d0) es) (d :: ds) (r :: rs) ρ = backL es ds rs ρ := (rfl)
@[simp] theorem eo_glb (G : Calls) (ρ : Rho) (x : Str) (d0 : D) (es : Exs) : evalO G (.cons (.glb x d0) es) ρ = (evalE G (.glb x d0) ρ).bind fun d ρ => (evalO G es ρ).bind fun ds ρ => .ok (some d :: ds) ρ := (rfl)
@[simp] theorem fe_glb (ρ : Rho) (x : Str) (d0 : D) (es : Exs) (d : D) (ds : List (Option D)) : fetchL (.cons (.glb x d0) es) (some d :: ds) ρ = (fetchL es ds ρ).map (d :: ·) := (rfl)
@[simp] theorem le_glb (ρ : Rho) (x : Str) (d0 : D) (es : Exs) (d : D) (ds : List (Option D)) : lendL (.cons (.glb x d0) es) (some d :: ds) ρ = (lendL es ds ρ).map fun r => (d :: r.1, r.2) := (rfl)
@[simp] theorem ba_glb (ρ : Rho) (x : Str) (d0 : D) (es : Exs) (d : D) (ds : List D) (r : Option D) (rs : List (Option D)) : backL (.cons (.glb x d0) es) (d :: ds) (r :: rs) ρ = backL es ds rs ρ := (rfl)
@[simp] theorem eo_var (G : Calls) (ρ : Rho) (i : Nat) (es : Exs) : evalO G (.cons (.var i) es) ρ = (evalE G (.var i) ρ).bind fun d ρ => (evalO G es ρ).bind fun ds ρ => .ok (some d :: ds) ρ := (rfl)
@[simp] theorem fe_var (ρ : Rho) (i : Nat) (es : Exs) (d : D) (ds : List (Option D)) : fetchL (.cons (.var i) es) (some d :: ds) ρ = (fetchL es ds ρ).map (d :: ·) := (rfl)
@[simp] theorem le_var (ρ : Rho) (i : Nat) (es : Exs) (d : D) (ds : List (Option D)) : lendL (.cons (.var i) es) (some d :: ds) ρ = (lendL es ds ρ).map fun r => (d :: r.1, r.2) := (rfl)
@[simp] theorem ba_var (ρ : Rho) (i : Nat) (es : Exs) (d : D) (ds : List D) (r : Option D) (rs : List (Option D)) : backL (.cons (.var i) es) (d :: ds) (r :: rs) ρ = backL es ds rs ρ := (rfl)
@[simp] theorem eo_mov (G : Calls) (ρ : Rho) (i : Nat) (es : Exs) : evalO G (.cons (.mov i) es) ρ = (evalE G (.mov i) ρ).bind fun d ρ => (evalO G es ρ).bind fun ds ρ => .ok (some d :: ds) ρ := (rfl)
@[simp] theorem fe_mov (ρ : Rho) (i : Nat) (es : Exs) (d : D) (ds : List (Option D)) : fetchL (.cons (.mov i) es) (some d :: ds) ρ = (fetchL es ds ρ).map (d :: ·) := (rfl)
@[simp] theorem le_mov (ρ : Rho) (i : Nat) (es : Exs) (d : D) (ds : List (Option D)) : lendL (.cons (.mov i) es) (some d :: ds) ρ = (lendL es ds ρ).map fun r => (d :: r.1, r.2) := (rfl)
@[simp] theorem ba_mov (ρ : Rho) (i : Nat) (es : Exs) (d : D) (ds : List D) (r : Option D) (rs : List (Option D)) : backL (.cons (.mov i) es) (d :: ds) (r :: rs) ρ = backL es ds rs ρ := (rfl)
@[simp] theorem eo_frz (G : Calls) (ρ : Rho) (e0 : Ex) (es : Exs) : evalO G (.cons (.frz e0) es) ρ = (evalE G (.frz e0) ρ).bind fun d ρ => (evalO G es ρ).bind fun ds ρ => .ok (some d :: ds) ρ := (rfl)
@[simp] theorem fe_frz (ρ : Rho) (e0 : Ex) (es : Exs) (d : D) (ds : List (Option D)) : fetchL (.cons (.frz e0) es) (some d :: ds) ρ = (fetchL es ds ρ).map (d :: ·) := (rfl)
@[simp] theorem le_frz (ρ : Rho) (e0 : Ex) (es : Exs) (d : D) (ds : List (Option D)) : lendL (.cons (.frz e0) es) (some d :: ds) ρ = (lendL es ds ρ).map fun r => (d :: r.1, r.2) := (rfl)
@[simp] theorem ba_frz (ρ : Rho) (e0 : Ex) (es : Exs) (d : D) (ds : List D) (r : Option D) (rs : List (Option D)) : backL (.cons (.frz e0) es) (d :: ds) (r :: rs) ρ = backL es ds rs ρ := (rfl)
@[simp] theorem eo_ckI (G : Calls) (ρ : Rho) (e0 : Ex) (es : Exs) : evalO G (.cons (.ckI e0) es) ρ = (evalE G (.ckI e0) ρ).bind fun d ρ => (evalO G es ρ).bind fun ds ρ => .ok (some d :: ds) ρ := (rfl)
@[simp] theorem fe_ckI (ρ : Rho) (e0 : Ex) (es : Exs) (d : D) (ds : List (Option D)) : fetchL (.cons (.ckI e0) es) (some d :: ds) ρ = (fetchL es ds ρ).map (d :: ·) := (rfl)
@[simp] theorem le_ckI (ρ : Rho) (e0 : Ex) (es : Exs) (d : D) (ds : List (Option D)) : lendL (.cons (.ckI e0) es) (some d :: ds) ρ = (lendL es ds ρ).map fun r => (d :: r.1, r.2) := (rfl)
@[simp] theorem ba_ckI (ρ : Rho) (e0 : Ex) (es : Exs) (d : D) (ds : List D) (r : Option D) (rs : List (Option D)) : backL (.cons (.ckI e0) es) (d :: ds) (r :: rs) ρ = backL es ds rs ρ := (rfl)
@[simp] theorem eo_ckS (G : Calls) (ρ : Rho) (e0 : Ex) (es : Exs) : evalO G (.cons (.ckS e0) es) ρ = (evalE G (.ckS e0) ρ).bind fun d ρ => (evalO G es ρ).bind fun ds ρ => .ok (some d :: ds) ρ := (rfl)
@[simp] theorem fe_ckS (ρ : Rho) (e0 : Ex) (es : Exs) (d : D) (ds : List (Option D)) : fetchL (.cons (.ckS e0) es) (some d :: ds) ρ = (fetchL es ds ρ).map (d :: ·) := (rfl)
@[simp] theorem le_ckS (ρ : Rho) (e0 : Ex) (es : Exs) (d : D) (ds : List (Option D)) : lendL (.cons (.ckS e0) es) (some d :: ds) ρ = (lendL es ds ρ).map fun r => (d :: r.1, r.2) := (rfl)
@[simp] theorem ba_ckS (ρ : Rho) (e0 : Ex) (es : Exs) (d : D) (ds : List D) (r : Option D) (rs : List (Option D)) : backL (.cons (.ckS e0) es) (d :: ds) (r :: rs) ρ = backL es ds rs ρ := (rfl)
@[simp] theorem eo_ckL (G : Calls) (ρ : Rho) (e0 : Ex) (es : Exs) : evalO G (.cons (.ckL e0) es) ρ = (evalE G (.ckL e0) ρ).bind fun d ρ => (evalO G es ρ).bind fun ds ρ => .ok (some d :: ds) ρ := (rfl)
@[simp] theorem fe_ckL (ρ : Rho) (e0 : Ex) (es : Exs) (d : D) (ds : List (Option D)) : fetchL (.cons (.ckL e0) es) (some d :: ds) ρ = (fetchL es ds ρ).map (d :: ·) := (rfl)
@[simp] theorem le_ckL (ρ : Rho) (e0 : Ex) (es : Exs) (d : D) (ds : List (Option D)) : lendL (.cons (.ckL e0) es) (some d :: ds) ρ = (lendL es ds ρ).map fun r => (d :: r.1, r.2) := (rfl)
@[simp] theorem ba_ckL (ρ : Rho) (e0 : Ex) (es : Exs) (d : D) (ds : List D) (r : Option D) (rs : List (Option D)) : backL (.cons (.ckL e0) es) (d :: ds) (r :: rs) ρ = backL es ds rs ρ := (rfl)
@[simp] theorem eo_prm (G : Calls) (ρ : Rho) (p : Prim) (as : Exs) (es : Exs) : evalO G (.cons (.prm p as) es) ρ = (evalE G (.prm p as) ρ).bind fun d ρ => (evalO G es ρ).bind fun ds ρ => .ok (some d :: ds) ρ := (rfl)
@[simp] theorem fe_prm (ρ : Rho) (p : Prim) (as : Exs) (es : Exs) (d : D) (ds : List (Option D)) : fetchL (.cons (.prm p as) es) (some d :: ds) ρ = (fetchL es ds ρ).map (d :: ·) := (rfl)
@[simp] theorem le_prm (ρ : Rho) (p : Prim) (as : Exs) (es : Exs) (d : D) (ds : List (Option D)) : lendL (.cons (.prm p as) es) (some d :: ds) ρ = (lendL es ds ρ).map fun r => (d :: r.1, r.2) := (rfl)
@[simp] theorem ba_prm (ρ : Rho) (p : Prim) (as : Exs) (es : Exs) (d : D) (ds : List D) (r : Option D) (rs : List (Option D)) : backL (.cons (.prm p as) es) (d :: ds) (r :: rs) ρ = backL es ds rs ρ := (rfl)
@[simp] theorem eo_chn (G : Calls) (ρ : Rho) (p : Prim) (q : Prim) (a : Ex) (b : Ex) (c : Ex) (es : Exs) : evalO G (.cons (.chn p q a b c) es) ρ = (evalE G (.chn p q a b c) ρ).bind fun d ρ => (evalO G es ρ).bind fun ds ρ => .ok (some d :: ds) ρ := (rfl)
@[simp] theorem fe_chn (ρ : Rho) (p : Prim) (q : Prim) (a : Ex) (b : Ex) (c : Ex) (es : Exs) (d : D) (ds : List (Option D)) : fetchL (.cons (.chn p q a b c) es) (some d :: ds) ρ = (fetchL es ds ρ).map (d :: ·) := (rfl)
@[simp] theorem le_chn (ρ : Rho) (p : Prim) (q : Prim) (a : Ex) (b : Ex) (c : Ex) (es : Exs) (d : D) (ds : List (Option D)) : lendL (.cons (.chn p q a b c) es) (some d :: ds) ρ = (lendL es ds ρ).map fun r => (d :: r.1, r.2) := (rfl)
@[simp] theorem ba_chn (ρ : Rho) (p : Prim) (q : Prim) (a : Ex) (b : Ex) (c : Ex) (es : Exs) (d : D) (ds : List D) (r : Option D) (rs : List (Option D)) : backL (.cons (.chn p q a b c) es) (d :: ds) (r :: rs) ρ = backL es ds rs ρ := (rfl)
@[simp] theorem eo_and (G : Calls) (ρ : Rho) (as : Exs) (es : Exs) : evalO G (.cons (.and as) es) ρ = (evalE G (.and as) ρ).bind fun d ρ => (evalO G es ρ).bind fun ds ρ => .ok (some d :: ds) ρ := (rfl)
@[simp] theorem fe_and (ρ : Rho) (as : Exs) (es : Exs) (d : D) (ds : List (Option D)) : fetchL (.cons (.and as) es) (some d :: ds) ρ = (fetchL es ds ρ).map (d :: ·) := (rfl)
@[simp] theorem le_and (ρ : Rho) (as : Exs) (es : Exs) (d : D) (ds : List (Option D)) : lendL (.cons (.and as) es) (some d :: ds) ρ = (lendL es ds ρ).map fun r => (d :: r.1, r.2) := (rfl)
@[simp] theorem ba_and (ρ : Rho) (as : Exs) (es : Exs) (d : D) (ds : List D) (r : Option D) (rs : List (Option D)) : backL (.cons (.and as) es) (d :: ds) (r :: rs) ρ = backL es ds rs ρ := (rfl)
@[simp] theorem eo_or (G : Calls) (ρ : Rho) (as : Exs) (es : Exs) : evalO G (.cons (.or as) es) ρ = (evalE G (.or as) ρ).bind fun d ρ => (evalO G es ρ).bind fun ds ρ => .ok (some d :: ds) ρ := (rfl)
@[simp] theorem fe_or (ρ : Rho) (as : Exs) (es : Exs) (d : D) (ds : List (Option D)) : fetchL (.cons (.or as) es) (some d :: ds) ρ = (fetchL es ds ρ).map (d :: ·) := (rfl)
@[simp] theorem le_or (ρ : Rho) (as : Exs) (es : Exs) (d : D) (ds : List (Option D)) : lendL (.cons (.or as) es) (some d :: ds) ρ = (lendL es ds ρ).map fun r => (d :: r.1, r.2) := (rfl)
@[simp] theorem ba_or (ρ : Rho) (as : Exs) (es : Exs) (d : D) (ds : List D) (r : Option D) (rs : List (Option D)) : backL (.cons (.or as) es) (d :: ds) (r :: rs) ρ = backL es ds rs ρ := (rfl)
@[simp] theorem eo_not (G : Calls) (ρ : Rho) (a : Ex) (es : Exs) : evalO G (.cons (.not a) es) ρ = (evalE G (.not a) ρ).bind fun d ρ => (evalO G es ρ).bind fun ds ρ => .ok (some d :: ds) ρ := (rfl)
@[simp] theorem fe_not (ρ : Rho) (a : Ex) (es : Exs) (d : D) (ds : List (Option D)) : fetchL (.cons (.not a) es) (some d :: ds) ρ = (fetchL es ds ρ).map (d :: ·) := (rfl)
@[simp] theorem le_not (ρ : Rho) (a : Ex) (es : Exs) (d : D) (ds : List (Option D)) : lendL (.cons (.not a) es) (some d :: ds) ρ = (lendL es ds ρ).map fun r => (d :: r.1, r.2) := (rfl)
@[simp] theorem ba_not (ρ : Rho) (a : Ex) (es : Exs) (d : D) (ds : List D) (r : Option D) (rs : List (Option D)) : backL (.cons (.not a) es) (d :: ds) (r :: rs) ρ = backL es ds rs ρ := (rfl)
@[simp] theorem eo_ife (G : Calls) (ρ : Rho) (c : Ex) (a : Ex) (b : Ex) (es : Exs) : evalO G (.cons (.ife c a b) es) ρ = (evalE G (.ife c a b) ρ).bind fun d ρ => (evalO G es ρ).bind fun ds ρ => .ok (some d :: ds) ρ := (rfl)
@[simp] theorem fe_ife (ρ : Rho) (c : Ex) (a : Ex) (b : Ex) (es : Exs) (d : D) (ds : List (Option D)) : fetchL (.cons (.ife c a b) es) (some d :: ds) ρ = (fetchL es ds ρ).map (d :: ·) := (rfl)
@[simp] theorem le_ife (ρ : Rho) (c : Ex) (a : Ex) (b : Ex) (es : Exs) (d : D) (ds : List (Option D)) : lendL (.cons (.ife c a b) es) (some d :: ds) ρ = (lendL es ds ρ).map fun r => (d :: r.1, r.2) := (rfl)
@[simp] theorem ba_ife (ρ : Rho) (c : Ex) (a : Ex) (b : Ex) (es : Exs) (d : D) (ds : List D) (r : Option D) (rs : List (Option D)) : backL (.cons (.ife c a b) es) (d :: ds) (r :: rs) ρ = backL es ds rs ρ := (rfl)
@[simp] theorem eo_call (G : Calls) (ρ : Rho) (f : Nat) (as : Exs) (es : Exs) : evalO G (.cons (.call f as) es) ρ = (evalE G (.call f as) ρ).bind fun d ρ => (evalO G es ρ).bind fun ds ρ => .ok (some d :: ds) ρ := (rfl)
@[simp] theorem fe_call (ρ : Rho) (f : Nat) (as : Exs) (es : Exs) (d : D) (ds : List (Option D)) : fetchL (.cons (.call f as) es) (some d :: ds) ρ = (fetchL es ds ρ).map (d :: ·) := (rfl)
@[simp] theorem le_call (ρ : Rho) (f : Nat) (as : Exs) (es : Exs) (d : D) (ds : List (Option D)) : lendL (.cons (.call f as) es) (some d :: ds) ρ = (lendL es ds ρ).map fun r => (d :: r.1, r.2) := (rfl)
@[simp] theorem ba_call (ρ : Rho) (f : Nat) (as : Exs) (es : Exs) (d : D) (ds : List D) (r : Option D) (rs : List (Option D)) : backL (.cons (.call f as) es) (d :: ds) (r :: rs) ρ = backL es ds rs ρ := (rfl)
@[simp] theorem eo_mut (G : Calls) (ρ : Rho) (m : Mt) (i : Nat) (as : Exs) (es : Exs) : evalO G (.cons (.mut m i as) es) ρ = (evalE G (.mut m i as) ρ).bind fun d ρ => (evalO G es ρ).bind fun ds ρ => .ok (some d :: ds) ρ := (rfl)
@[simp] theorem fe_mut (ρ : Rho) (m : Mt) (i : Nat) (as : Exs) (es : Exs) (d : D) (ds : List (Option D)) : fetchL (.cons (.mut m i as) es) (some d :: ds) ρ = (fetchL es ds ρ).map (d :: ·) := (rfl)
@[simp] theorem le_mut (ρ : Rho) (m : Mt) (i : Nat) (as : Exs) (es : Exs) (d : D) (ds : List (Option D)) : lendL (.cons (.mut m i as) es) (some d :: ds) ρ = (lendL es ds ρ).map fun r => (d :: r.1, r.2) := (rfl)
@[simp] theorem ba_mut (ρ : Rho) (m : Mt) (i : Nat) (as : Exs) (es : Exs) (d : D) (ds : List D) (r : Option D) (rs : List (Option D)) : backL (.cons (.mut m i as) es) (d :: ds) (r :: rs) ρ = backL es ds rs ρ := (rfl)
@[simp] theorem eo_tup (G : Calls) (ρ : Rho) (as : Exs) (es : Exs) : evalO G (.cons (.tup as) es) ρ = (evalE G (.tup as) ρ).bind fun d ρ => (evalO G es ρ).bind fun ds ρ => .ok (some d :: ds) ρ := (rfl)
@[simp] theorem fe_tup (ρ : Rho) (as : Exs) (es : Exs) (d : D) (ds : List (Option D)) : fetchL (.cons (.tup as) es) (some d :: ds) ρ = (fetchL es ds ρ).map (d :: ·) := (rfl)
@[simp] theorem le_tup (ρ : Rho) (as : Exs) (es : Exs) (d : D) (ds : List (Option D)) : lendL (.cons (.tup as) es) (some d :: ds) ρ = (lendL es ds ρ).map fun r => (d :: r.1, r.2) := (rfl)
@[simp] theorem ba_tup (ρ : Rho) (as : Exs) (es : Exs) (d : D) (ds : List D) (r : Option D) (rs : List (Option D)) : backL (.cons (.tup as) es) (d :: ds) (r :: rs) ρ = backL es ds rs ρ := (rfl)
@[simp] theorem eo_lst (G : Calls) (ρ : Rho) (as : Exs) (es : Exs) : evalO G (.cons (.lst as) es) ρ = (evalE G (.lst as) ρ).bind fun d ρ => (evalO G es ρ).bind fun ds ρ => .ok (some d :: ds) ρ := (rfl)
@[simp] theorem fe_lst (ρ : Rho) (as : Exs) (es : Exs) (d : D) (ds : List (Option D)) : fetchL (.cons (.lst as) es) (some d :: ds) ρ = (fetchL es ds ρ).map (d :: ·) := (rfl)
@[simp] theorem le_lst (ρ : Rho) (as : Exs) (es : Exs) (d : D) (ds : List (Option D)) : lendL (.cons (.lst as) es) (some d :: ds) ρ = (lendL es ds ρ).map fun r => (d :: r.1, r.2) := (rfl)
@[simp] theorem ba_lst (ρ : Rho) (as : Exs) (es : Exs) (d : D) (ds : List D) (r : Option D) (rs : List (Option D)) : backL (.cons (.lst as) es) (d :: ds) (r :: rs) ρ = backL es ds rs ρ := (rfl)
@[simp] theorem eo_dic (G : Calls) (ρ : Rho)  (es : Exs) : evalO G (.cons .dic es) ρ = (evalE G .dic ρ).bind fun d ρ => (evalO G es ρ).bind fun ds ρ => .ok (some d :: ds) ρ := (rfl)
@[simp] theorem fe_dic (ρ : Rho)  (es : Exs) (d : D) (ds : List (Option D)) : fetchL (.cons .dic es) (some d :: ds) ρ = (fetchL es ds ρ).map (d :: ·) := (rfl)
@[simp] theorem le_dic (ρ : Rho)  (es : Exs) (d : D) (ds : List (Option D)) : lendL (.cons .dic es) (some d :: ds) ρ = (lendL es ds ρ).map fun r => (d :: r.1, r.2) := (rfl)
@[simp] theorem ba_dic (ρ : Rho)  (es : Exs) (d : D) (ds : List D) (r : Option D) (rs : List (Option D)) : backL (.cons .dic es) (d :: ds) (r :: rs) ρ = backL es ds rs ρ := (rfl)
@[simp] theorem eo_comp (G : Calls) (ρ : Rho) (own : List Nat) (t : Tg) (it : VL.It) (ifs : Exs) (e0 : Ex) (es : Exs) : evalO G (.cons (.comp own t it ifs e0) es) ρ = (evalE G (.comp own t it ifs e0) ρ).bind fun d ρ => (evalO G es ρ).bind fun ds ρ => .ok (some d :: ds) ρ := (rfl)
@[simp] theorem fe_comp (ρ : Rho) (own : List Nat) (t : Tg) (it : VL.It) (ifs : Exs) (e0 : Ex) (es : Exs) (d : D) (ds : List (Option D)) : fetchL (.cons (.comp own t it ifs e0) es) (some d :: ds) ρ = (fetchL es ds ρ).map (d :: ·) := (rfl)
@[simp] theorem le_comp (ρ : Rho) (own : List Nat) (t : Tg) (it : VL.It) (ifs : Exs) (e0 : Ex) (es : Exs) (d : D) (ds : List (Option D)) : lendL (.cons (.comp own t it ifs e0) es) (some d :: ds) ρ = (lendL es ds ρ).map fun r => (d :: r.1, r.2) := (rfl)
@[simp] theorem ba_comp (ρ : Rho) (own : List Nat) (t : Tg) (it : VL.It) (ifs : Exs) (e0 : Ex) (es : Exs) (d : D) (ds : List D) (r : Option D) (rs : List (Option D)) : backL (.cons (.comp own t it ifs e0) es) (d :: ds) (r :: rs) ρ = backL es ds rs ρ := (rfl)
@[simp] theorem es_nil (G : Calls) (ρ : Rho) : evalS G .nil ρ = .ok [] ρ := (rfl)
@[simp] theorem es_cons (G : Calls) (ρ : Rho) (e : Ex) (es : Exs) : evalS G (.cons e es) ρ = (evalE G e ρ).bind fun d ρ => (evalS G es ρ).bind fun ds ρ => .ok (d :: ds) ρ := (rfl)
@[simp] theorem ea_nil (G : Calls) (ρ : Rho) : evalAnd G .nil ρ = .ok (.bl true) ρ := (rfl)
@[simp] theorem ea_cons (G : Calls) (ρ : Rho) (e : Ex) (es : Exs) : evalAnd G (.cons e es) ρ = (evalE G e ρ).bind fun x ρ => match x with | .bl b => if b = true then evalAnd G es ρ else .ok (.bl false) ρ | _ => .no := (rfl)
@[simp] theorem er_nil (G : Calls) (ρ : Rho) : evalOr G .nil ρ = .ok (.bl false) ρ := (rfl)
@[simp] theorem er_cons (G : Calls) (ρ : Rho) (e : Ex) (es : Exs) : evalOr G (.cons e es) ρ = (evalE G e ρ).bind fun x ρ => match x with | .bl b => if b = true then .ok (.bl true) ρ else evalOr G es ρ | _ => .no := (rfl)
@[simp] theorem ei_val (G : Calls) (ρ : Rho) (e : Ex) : evalI G (.val e) ρ = (evalE G e ρ).bind fun d ρ => Rs.of ρ (itemsOf d) := (rfl)
@[simp] theorem ei_rng1 (G : Calls) (ρ : Rho) (a : Ex) : evalI G (.rng1 a) ρ = (evalE G a ρ).bind fun x ρ => match x with | .int a => if small64 a = true then .ok ((rng2 0 a).map .int) ρ else .no | _ => .no := (rfl)
@[simp] theorem ei_rng2 (G : Calls) (ρ : Rho) (a b : Ex) : evalI G (.rng2 a b) ρ = (evalE G a ρ).bind fun x ρ => (evalE G b ρ).bind fun y ρ => match x, y with | .int a, .int b => if (small64 a && small64 b) = true then .ok ((rng2 a b).map .int) ρ else .no | _, _ => .no := (rfl)
@[simp] theorem ei_rng3 (G : Calls) (ρ : Rho) (a b c : Ex) : evalI G (.rng3 a b c) ρ = (evalE G a ρ).bind fun x ρ => (evalE G b ρ).bind fun y ρ => (evalE G c ρ).bind fun z ρ => match x, y, z with | .int a, .int b, .int c => if (small64 a && small64 b && decide (c = -1)) = true then .ok ((rngD a b).map .int) ρ else .no | _, _, _ => .no := (rfl)
@[simp] theorem ei_enum (G : Calls) (ρ : Rho) (a : Ex) : evalI G (.enum a) ρ = (evalE G a ρ).bind fun d ρ => (Rs.of ρ (lstOf d)).bind fun xs _ => .ok (enumD 0 xs) ρ := (rfl)
@[simp] theorem ei_zip (G : Calls) (ρ : Rho) (a b : Ex) : evalI G (.zip a b) ρ = (evalE G a ρ).bind fun d ρ => (evalE G b ρ).bind fun e ρ => (Rs.of ρ (lstOf d)).bind fun xs _ => (Rs.of ρ (lstOf e)).bind fun ys _ => .ok (zipD xs ys) ρ := (rfl)
@[simp] theorem ei_zipS (G : Calls) (ρ : Rho) (a b : Ex) : evalI G (.zipS a b) ρ = (evalE G a ρ).bind fun d ρ => (evalE G b ρ).bind fun e ρ => (Rs.of ρ (strOf d)).bind fun x _ => (Rs.of ρ (lstOf e)).bind fun ys _ => .ok (zipD (x.map fun k => .str [k]) ys) ρ := (rfl)
@[simp] theorem ex_asg (G : Calls) (ρ : Rho) (i : Nat) (e : Ex) : execS G (.asg i e) ρ = (evalE G e ρ).bind fun d ρ => (Rs.of ρ (bindT (.nm i) d ρ)).bind fun ρ _ => .ok .nx ρ := (rfl)
@[simp] theorem ex_unp (G : Calls) (ρ : Rho) (t : Tg) (e : Ex) : execS G (.unp t e) ρ = (evalE G e ρ).bind fun d ρ => (Rs.of ρ (bindT t d ρ)).bind fun ρ _ => .ok .nx ρ := (rfl)
@[simp] theorem ex_par (G : Calls) (ρ : Rho) (i j : Nat) (a b : Ex) : execS G (.par i j a b) ρ = (evalE G a ρ).bind fun x ρ => (evalE G b ρ).bind fun y ρ => (Rs.of ρ (bindT (.nm i) x ρ)).bind fun ρ _ => (Rs.of ρ (bindT (.nm j) y ρ)).bind fun ρ _ => .ok .nx ρ := (rfl)
@[simp] theorem ex_seti (G : Calls) (ρ : Rho) (i : Nat) (k e : Ex) : execS G (.seti i k e) ρ = (evalE G e ρ).bind fun d ρ => (Rs.of ρ (getS ρ i)).bind fun _ _ => (evalE G k ρ).bind fun x ρ => (Rs.of ρ (getS ρ i)).bind fun l _ => match l with | .lst true xs => (Rs.of ρ (mutL .setI xs [x, d])).bind fun r _ => .ok .nx (putS ρ i (.lst true r.2)) | _ => .no := (rfl)
@[simp] theorem ex_dput (G : Calls) (ρ : Rho) (i : Nat) (k e : Ex) : execS G (.dput i k e) ρ = (evalE G e ρ).bind fun d ρ => (Rs.of ρ (getS ρ i)).bind fun _ _ => (evalE G k ρ).bind fun x ρ => (Rs.of ρ (keyOf x)).bind fun k _ => (Rs.of ρ (getS ρ i)).bind fun l _ => match l with | .dct true ks xs => if ks.length < 16777216 ∧ d.isF = true then .ok .nx (putS ρ i (.dct true (putKV k d ks xs).1 (putKV k d ks xs).2)) else .no | _ => .no := (rfl)
@[simp] theorem ex_aug (G : Calls) (ρ : Rho) (i : Nat) (p : Prim) (e : Ex) : execS G (.aug i p e) ρ = (Rs.of ρ (getS ρ i)).bind fun x _ => if x.flat = true then (evalE G e ρ).bind fun y ρ => (Rs.of ρ (prim p [x, y])).bind fun z _ => if z.isF = true then .ok .nx (putS ρ i z) else .no else .no := (rfl)
@[simp] theorem ex_augi (G : Calls) (ρ : Rho) (i : Nat) (k : Ex) (p : Prim) (e : Ex) : execS G (.augi i k p e) ρ = (Rs.of ρ (getS ρ i)).bind fun _ _ => (evalE G k ρ).bind fun n ρ => (Rs.of ρ (getS ρ i)).bind fun l _ => (Rs.of ρ (prim .idx [l, n])).bind fun x _ => if (isLst (some l) && x.flat) = true then (evalE G e ρ).bind fun y ρ => (Rs.of ρ (prim p [x, y])).bind fun z _ => (Rs.of ρ (getS ρ i)).bind fun l _ => match l with | .lst true xs => (Rs.of ρ (mutL .setI xs [n, z])).bind fun r _ => .ok .nx (putS ρ i (.lst true r.2)) | _ => .no else .no := (rfl)
@[simp] theorem ex_exp (G : Calls) (ρ : Rho) (e : Ex) : execS G (.exp e) ρ = (evalE G e ρ).bind fun _ ρ => .ok .nx ρ := (rfl)
@[simp] theorem ex_ret (G : Calls) (ρ : Rho) (e : Ex) : execS G (.ret e) ρ = (evalE G e ρ).bind fun d ρ => .ok (.rt d) ρ := (rfl)
@[simp] theorem ex_retN (G : Calls) (ρ : Rho)  : execS G .retN ρ = .ok (.rt .non) ρ := (rfl)
@[simp] theorem ex_ifs (G : Calls) (ρ : Rho) (c : Ex) (a b : Sms) : execS G (.ifs c a b) ρ = (evalE G c ρ).bind fun x ρ => match x with | .bl t => if t = true then execB G a ρ else execB G b ρ | _ => .no := (rfl)
theorem ex_for (G : Calls) (ρ : Rho) (t : Tg) (it : VL.It) (b : Sms) : execS G (.for t it b) ρ = (evalI G it ρ).bind fun ds ρ => forL (bindT t) (fun ρ => execB G b ρ) ds ρ := (rfl)
theorem ex_whl (G : Calls) (ρ : Rho) (c : Ex) (b : Sms) : execS G (.whl c b) ρ = whlL (fun ρ => evalE G c ρ) (fun ρ => execB G b ρ) whlMost ρ := (rfl)
@[simp] theorem ex_brk (G : Calls) (ρ : Rho)  : execS G .brk ρ = .ok .bk ρ := (rfl)
@[simp] theorem ex_cnt (G : Calls) (ρ : Rho)  : execS G .cnt ρ = .ok .ct ρ := (rfl)
@[simp] theorem ex_pas (G : Calls) (ρ : Rho)  : execS G .pas ρ = .ok .nx ρ := (rfl)
@[simp] theorem eb_nil (G : Calls) (ρ : Rho) : execB G .nil ρ = .ok .nx ρ := (rfl)
@[simp] theorem eb_cons (G : Calls) (ρ : Rho) (s : Sm) (ss : Sms) : execB G (.cons s ss) ρ = (execS G s ρ).bind fun f ρ => match f with | .nx => execB G ss ρ | f => .ok f ρ := (rfl)
@[simp] theorem pm_1 (a : Int) (b : Int) : prim .add [.int a, .int b] = some (.int (a + b)) := (rfl)
@[simp] theorem pm_2 (a : List Nat) (b : List Nat) : prim .add [.str a, .str b] = if a.length + b.length ≤ 16777216 then some (.str (a ++ b)) else none := (rfl)
@[simp] theorem pm_3 (a : List D) (b : List D) (o1 : Bool) (o2 : Bool) : prim .add [.lst o1 a, .lst o2 b] = if (D.isFL a && D.isFL b) = true then (if a.length + b.length ≤ 16777216 then some (.lst true (a ++ b)) else none) else none := (rfl)
@[simp] theorem pm_4 (a : Int) (b : Int) : prim .sub [.int a, .int b] = some (.int (a - b)) := (rfl)
@[simp] theorem pm_5 (a : Int) (b : Int) : prim .mul [.int a, .int b] = if (small2 a || small2 b) = true then some (.int (a * b)) else none := (rfl)
@[simp] theorem pm_6 (a : List Nat) (b : Int) : prim .mul [.str a, .int b] = if (small64 b && decide (a.length * b.toNat ≤ 16777216)) = true then some (.str (List.replicate b.toNat a).flatten) else none := (rfl)
@[simp] theorem pm_7 (a : List D) (b : Int) (o1 : Bool) : prim .mul [.lst o1 a, .int b] = if (small64 b && D.isFL a && decide (a.length * b.toNat ≤ 16777216)) = true then some (.lst true (List.replicate b.toNat a).flatten) else none := (rfl)
@[simp] theorem pm_8 (a : Int) (b : Int) : prim .fdiv [.int a, .int b] = if 0 < b ∧ b < 1073741824 then some (.int (a / b)) else none := (rfl)
@[simp] theorem pm_9 (a : Int) (b : Int) : prim .mod [.int a, .int b] = if 0 < b then some (.int (a % b)) else none := (rfl)
@[simp] theorem pm_10 (a : Int) (b : Int) : prim .pow [.int a, .int b] = if (0 ≤ b ∧ b ≤ 1000) ∧ small2 a = true then some (.int (a ^ b.toNat)) else none := (rfl)
@[simp] theorem pm_11 (a : Int) : prim .neg [.int a] = some (.int (-a)) := (rfl)
@[simp] theorem pm_12 (a : D) (b : D) : prim .eq [a, b] = if (shal 8 a && shal 8 b) = true then some (.bl (deqv a b)) else none := (rfl)
@[simp] theorem pm_13 (a : D) (b : D) : prim .ne [a, b] = if (shal 8 a && shal 8 b) = true then some (.bl (!deqv a b)) else none := (rfl)
@[simp] theorem pm_14 (a : Int) (b : Int) : prim .lt [.int a, .int b] = some (.bl (decide (a < b))) := (rfl)
@[simp] theorem pm_15 (a : Int) (b : Int) : prim .le [.int a, .int b] = some (.bl (decide (a ≤ b))) := (rfl)
@[simp] theorem pm_16 (a : Int) (b : Int) : prim .gt [.int a, .int b] = some (.bl (decide (b < a))) := (rfl)
@[simp] theorem pm_17 (a : Int) (b : Int) : prim .ge [.int a, .int b] = some (.bl (decide (b ≤ a))) := (rfl)
@[simp] theorem pm_18 (a : List Nat) (b : List Nat) : prim .lt [.str a, .str b] = some (.bl (strLt a b)) := (rfl)
@[simp] theorem pm_19 (a : List Nat) (b : List Nat) : prim .inn [.str a, .str b] = some (.bl (isPart a b)) := (rfl)
@[simp] theorem pm_20 (a : List Nat) (b : List Nat) : prim .nin [.str a, .str b] = some (.bl (!isPart a b)) := (rfl)
@[simp] theorem pm_21 (a : List Nat) : prim .len [.str a] = some (.int a.length) := (rfl)
@[simp] theorem pm_22 (a : List D) (o1 : Bool) : prim .len [.lst o1 a] = some (.int a.length) := (rfl)
@[simp] theorem pm_23 (a : List D) : prim .len [.tup a] = some (.int a.length) := (rfl)
@[simp] theorem pm_24 (a : Int) : prim .abs [.int a] = some (.int (if a < 0 then -a else a)) := (rfl)
@[simp] theorem pm_25 (a : Int) : prim .toInt [.int a] = some (.int a) := (rfl)
@[simp] theorem pm_26 (b : Bool) : prim .toInt [.bl b] = some (.int (if b then 1 else 0)) := (rfl)
@[simp] theorem pm_27 (a : List D) (o1 : Bool) : prim .toList [.lst o1 a] = if D.isFL a = true then some (.lst true a) else none := (rfl)
@[simp] theorem pm_28 (a : List D) : prim .toList [.tup a] = if D.isFL a = true then some (.lst true a) else none := (rfl)
@[simp] theorem pm_29 (a : List Int) : prim .toList [.scr a] = some (.lst true (a.map .int)) := (rfl)
@[simp] theorem pm_30 (a : Int) : prim .lrng1 [.int a] = if (small64 a && decide (a.toNat ≤ 16777216)) = true then some (.lst true ((rng2 0 a).map .int)) else none := (rfl)
@[simp] theorem pm_31 (a : Int) (b : Int) : prim .lrng2 [.int a, .int b] = if (small64 a && small64 b && decide ((b - a).toNat ≤ 16777216)) = true then some (.lst true ((rng2 a b).map .int)) else none := (rfl)
@[simp] theorem pm_32 (a : Int) (b : Int) (c : Int) : prim .lrng3 [.int a, .int b, .int c] = if (small64 a && small64 b && decide (c = -1) && decide ((a - b).toNat ≤ 16777216)) = true then some (.lst true ((rngD a b).map .int)) else none := (rfl)
@[simp] theorem pm_33 (a : List D) (o1 : Bool) : prim .sum [.lst o1 a] = (asInts a).map fun ns => .int ns.sum := (rfl)
@[simp] theorem pm_34 (a : List D) (o1 : Bool) : prim .all [.lst o1 a] = (asBls a).map fun ns => .bl (ns.all id) := (rfl)
@[simp] theorem pm_35 (a : List D) (o1 : Bool) : prim .any [.lst o1 a] = (asBls a).map fun ns => .bl (ns.any id) := (rfl)
@[simp] theorem pm_36 (a : Int) (b : Int) : prim .min2 [.int a, .int b] = some (.int (if b < a then b else a)) := (rfl)
@[simp] theorem pm_37 (a : Int) (b : Int) : prim .max2 [.int a, .int b] = some (.int (if b > a then b else a)) := (rfl)
@[simp] theorem pm_38 (i : Int) (o1 : Bool) (xs : List D) : prim .idx [.lst o1 xs, .int i] = (ixAt xs.length i).bind fun j => (xs[j]?).bind fun d => if d.isF = true then some d else none := (rfl)
@[simp] theorem pm_39 (i : Int) (xs : List D) : prim .idx [.tup xs, .int i] = (ixAt xs.length i).bind fun j => (xs[j]?).bind fun d => if d.isF = true then some d else none := (rfl)
@[simp] theorem pm_40 (i : Int) (x : List Nat) : prim .idx [.str x, .int i] = (ixAt x.length i).bind fun j => (x[j]?).map fun k => .str [k] := (rfl)
@[simp] theorem pm_41 (i : Int) (j : Int) (o1 : Bool) (xs : List D) : prim .slLH [.lst o1 xs, .int i, .int j] = if D.isFL xs = true then some (.lst true (cutL xs (clip xs.length i) (clip xs.length j))) else none := (rfl)
@[simp] theorem pm_42 (i : Int) (j : Int) (xs : List Nat) : prim .slLH [.str xs, .int i, .int j] = some (.str (cutL xs (clip xs.length i) (clip xs.length j))) := (rfl)
@[simp] theorem pt_slLH (i : Int) (j : Int) (xs : List D) : prim .slLH [.tup xs, .int i, .int j] = if D.isFL xs = true then some (.tup (cutL xs (clip xs.length i) (clip xs.length j))) else none := (rfl)
@[simp] theorem pm_43 (i : Int) (o1 : Bool) (xs : List D) : prim .slL [.lst o1 xs, .int i] = if D.isFL xs = true then some (.lst true (xs.drop (clip xs.length i))) else none := (rfl)
@[simp] theorem pm_44 (i : Int) (xs : List Nat) : prim .slL [.str xs, .int i] = some (.str (xs.drop (clip xs.length i))) := (rfl)
@[simp] theorem pt_slL (i : Int) (xs : List D) : prim .slL [.tup xs, .int i] = if D.isFL xs = true then some (.tup (xs.drop (clip xs.length i))) else none := (rfl)
@[simp] theorem pm_45 (i : Int) (o1 : Bool) (xs : List D) : prim .slH [.lst o1 xs, .int i] = if D.isFL xs = true then some (.lst true (xs.take (clip xs.length i))) else none := (rfl)
@[simp] theorem pm_46 (i : Int) (xs : List Nat) : prim .slH [.str xs, .int i] = some (.str (xs.take (clip xs.length i))) := (rfl)
@[simp] theorem pt_slH (i : Int) (xs : List D) : prim .slH [.tup xs, .int i] = if D.isFL xs = true then some (.tup (xs.take (clip xs.length i))) else none := (rfl)
@[simp] theorem pm_47 (o1 : Bool) (xs : List D) : prim .rev [.lst o1 xs] = if D.isFL xs = true then some (.lst true xs.reverse) else none := (rfl)
@[simp] theorem pm_48 (xs : List Nat) : prim .rev [.str xs] = some (.str xs.reverse) := (rfl)
@[simp] theorem pm_49 (o1 : Bool) (s : List Nat) (xs : List D) : prim .join [.str s, .lst o1 xs] = (asStrs xs).bind fun ys => if (ys.map List.length).sum + ys.length * s.length ≤ 16777216 then some (.str (joinS s ys)) else none := (rfl)
@[simp] theorem pm_50 (x : List Nat) (y : List Nat) : prim .sindex [.str x, .str y] = (firstAt y x).map fun k => .int (k : Nat) := (rfl)
@[simp] theorem pm_51 (k : D) (ks : List Key) (o1 : Bool) (xs : List D) : prim .dget [.dct o1 ks xs, k] = (keyOf k).bind fun k => (lookKV k ks xs).bind fun d => if d.isF = true then some d else none := (rfl)
@[simp] theorem pm_52 (k : D) (ks : List Key) (o1 : Bool) (o2 : List D) : prim .din [k, .dct o1 ks o2] = (keyOf k).map fun k => .bl (ks.any fun k' => decide (k' = k)) := (rfl)
@[simp] theorem pm_53 (k : D) (ks : List Key) (o1 : Bool) (o2 : List D) : prim .dnin [k, .dct o1 ks o2] = (keyOf k).map fun k => .bl (!ks.any fun k' => decide (k' = k)) := (rfl)
@[simp] theorem pm_54 (a : Bool) (b : Bool) : prim .isB [.bl a, .bl b] = some (.bl (a == b)) := (rfl)
@[simp] theorem pm_55 (a : Bool) (b : Bool) : prim .niB [.bl a, .bl b] = some (.bl (a != b)) := (rfl)
@[simp] theorem pm_56 (a : List D) (o1 : Bool) : prim .sorted [.lst o1 a] = sortD a := (rfl)
@[simp] theorem pm_57 (x : List Nat) (y : List Nat) : prim .scount [.str x, .str y] = countD x y := (rfl)
@[simp] theorem pm_58 (a : List D) (o1 : Bool) : prim .max1 [.lst o1 a] = (asInts a).bind fun ns => (maxL ns).map .int := (rfl)
@[simp] theorem pm_59 (a : List D) (o1 : Bool) : prim .min1 [.lst o1 a] = (asInts a).bind fun ns => (minL ns).map .int := (rfl)
end VL

/-! VL22: loops of the evaluator, by invariants; small facts of the values. -/
namespace VL
open PySem PySem.Spec PyProof.Rows L2

@[simp] theorem getS_c0 (d : Option D) (ρ : Rho) : getS (d :: ρ) 0 = d := by simp [getS]
@[simp] theorem getS_cs (d : Option D) (ρ : Rho) (i : Nat) : getS (d :: ρ) (i + 1) = getS ρ i := by simp [getS]
@[simp] theorem putS_c0 (d : Option D) (ρ : Rho) (x : D) : putS (d :: ρ) 0 x = some x :: ρ := (rfl)
@[simp] theorem putS_cs (d : Option D) (ρ : Rho) (i : Nat) (x : D) : putS (d :: ρ) (i + 1) x = d :: putS ρ i x := (rfl)
@[simp] theorem goneS_c0 (d : Option D) (ρ : Rho) : goneS (d :: ρ) 0 = none :: ρ := (rfl)
@[simp] theorem goneS_cs (d : Option D) (ρ : Rho) (i : Nat) : goneS (d :: ρ) (i + 1) = d :: goneS ρ i := (rfl)
@[simp] theorem wipeS_nil (ρ : Rho) : wipeS ρ [] = ρ := (rfl)
@[simp] theorem wipeS_cons (ρ : Rho) (i : Nat) (is : List Nat) : wipeS ρ (i :: is) = goneS (wipeS ρ is) i := (rfl)
@[simp] theorem backS_nil (ρ ρ0 : Rho) : backS ρ ρ0 [] = ρ := (rfl)
@[simp] theorem backS_cons (ρ ρ0 : Rho) (i : Nat) (is : List Nat) : backS ρ ρ0 (i :: is) = (backS ρ ρ0 is).set i (getS ρ0 i) := (rfl)
@[simp] theorem bindT_nm' (i : Nat) (d : D) (ρ : Rho) : bindT (.nm i) d ρ = if i < ρ.length then some (ρ.set i (some d)) else none := by cases d <;> rfl
@[simp] theorem bindT_tp (a r : Tg) (x : D) (xs : List D) (ρ : Rho) : bindT (.tp a r) (.tup (x :: xs)) ρ = (bindT a x ρ).bind fun ρ => bindT r (.tup xs) ρ := (rfl)
@[simp] theorem bindT_en (ρ : Rho) : bindT .en (.tup []) ρ = some ρ := (rfl)

/-- a comprehension, by an invariant: the items taken, the list so far, the state -/
theorem compL_rel {bind : D → Rho → Option Rho} {test : Rho → Rs Rho Bool} {elt : Rho → Rs Rho D} (R : List D → List D → Rho → Prop) : ∀ (ds pre acc : List D) (ρ : Rho),
    (∀ (p : List D) (d : D) (q acc : List D) (ρ : Rho), pre ++ ds = p ++ d :: q → R p acc ρ → ∃ ρ1, bind d ρ = some ρ1 ∧ ∃ b ρ2, test ρ1 = .ok b ρ2 ∧ (b = true → ∃ x ρ3, elt ρ2 = .ok x ρ3 ∧ acc.length < 16777216 ∧ R (p ++ [d]) (acc ++ [x]) ρ3) ∧ (b = false → R (p ++ [d]) acc ρ2)) →
    R pre acc ρ → ∃ acc' ρ', compL bind test elt ds acc ρ = .ok (.lst true acc') ρ' ∧ R (pre ++ ds) acc' ρ'
  | [], pre, acc, ρ, h, r => ⟨acc, ρ, rfl, by rw [List.append_nil]; exact r⟩
  | d :: ds, pre, acc, ρ, h, r => by
    obtain ⟨ρ1, e1, b, ρ2, e2, ht, hf⟩ := h pre d ds acc ρ rfl r
    have e : compL bind test elt (d :: ds) acc ρ = (Rs.of ρ (bind d ρ)).bind fun ρ1 _ => (test ρ1).bind fun b ρ2 =>
      if b = true then (elt ρ2).bind fun x ρ3 => if acc.length < 16777216 then compL bind test elt ds (acc ++ [x]) ρ3 else .no
      else compL bind test elt ds acc ρ2 := rfl
    rw [e, e1]
    simp only [Rs.of_some, Rs.bind_ok, e2]
    cases b with
    | true =>
      obtain ⟨x, ρ3, e3, hl, r3⟩ := ht rfl
      simp only [if_true, e3, Rs.bind_ok, if_pos hl]
      obtain ⟨acc', ρ', e4, r4⟩ := compL_rel R ds (pre ++ [d]) (acc ++ [x]) ρ3 (fun p d' q a ρ he => h p d' q a ρ (by rw [← he]; simp)) r3
      exact ⟨acc', ρ', e4, by simpa using r4⟩
    | false =>
      simp only [Bool.false_eq_true, if_false]
      obtain ⟨acc', ρ', e4, r4⟩ := compL_rel R ds (pre ++ [d]) acc ρ2 (fun p d' q a ρ he => h p d' q a ρ (by rw [← he]; simp)) (hf rfl)
      exact ⟨acc', ρ', e4, by simpa using r4⟩
/-- .. of a pure one: each turn begins and ends in the same state but for the own slots -/
theorem compL_pure {bind : D → Rho → Option Rho} {test : Rho → Rs Rho Bool} {elt : Rho → Rs Rho D} {α : Type} (R : Rho → Prop) (g : α → D) (f : α → Option D) (xs : List α) (ρ : Rho) (hl : xs.length ≤ 16777216)
    (h : ∀ x ∈ xs, ∀ ρ, R ρ → ∃ ρ1, bind (g x) ρ = some ρ1 ∧ ∃ ρ2, test ρ1 = .ok (f x).isSome ρ2 ∧ (∀ y, f x = some y → ∃ ρ3, elt ρ2 = .ok y ρ3 ∧ R ρ3) ∧ (f x = none → R ρ2)) (r : R ρ) :
    ∃ ρ', compL bind test elt (xs.map g) [] ρ = .ok (.lst true (xs.filterMap f)) ρ' ∧ R ρ' := by
  have key : ∀ (ys pre : List α) (ρ : Rho), pre ++ ys = xs → R ρ → ∃ ρ', compL bind test elt (ys.map g) (pre.filterMap f) ρ = .ok (.lst true (xs.filterMap f)) ρ' ∧ R ρ' := by
    intro ys
    induction ys with
    | nil => intro pre ρ e r; rw [List.append_nil] at e; subst e; exact ⟨ρ, rfl, r⟩
    | cons y ys ih =>
      intro pre ρ e r
      obtain ⟨ρ1, e1, ρ2, e2, hs, hn⟩ := h y (by rw [← e]; simp) ρ r
      have hx : pre ++ [y] ++ ys = xs := by simpa using e
      have ec : compL bind test elt ((y :: ys).map g) (pre.filterMap f) ρ = (Rs.of ρ (bind (g y) ρ)).bind fun ρ1 _ => (test ρ1).bind fun b ρ2 =>
        if b = true then (elt ρ2).bind fun x ρ3 => if (pre.filterMap f).length < 16777216 then compL bind test elt (ys.map g) (pre.filterMap f ++ [x]) ρ3 else .no
        else compL bind test elt (ys.map g) (pre.filterMap f) ρ2 := rfl
      rw [ec, e1]
      simp only [Rs.of_some, Rs.bind_ok, e2]
      cases ef : f y with
      | none =>
        simp only [Option.isSome_none, Bool.false_eq_true, if_false]
        have := ih (pre ++ [y]) ρ2 hx (hn ef)
        simpa [List.filterMap_append, ef] using this
      | some z =>
        obtain ⟨ρ3, e3, r3⟩ := hs z ef
        have hlen : (pre.filterMap f).length < 16777216 := by
          have h1 := List.length_filterMap_le f pre
          have h2 : xs.length = pre.length + (ys.length + 1) := by rw [← e]; simp
          omega
        simp only [Option.isSome_some, if_true, e3, Rs.bind_ok, if_pos hlen]
        have := ih (pre ++ [y]) ρ3 hx r3
        simpa [List.filterMap_append, ef] using this
  exact key xs [] ρ rfl r
/-- a for, by an invariant; T: what a return bears; B: what stands behind a break -/
theorem forL_rel {bind : D → Rho → Option Rho} {body : Rho → Rs Rho Fl} (R : List D → Rho → Prop) (B : Rho → Prop) (T : D → Rho → Prop) : ∀ (ds pre : List D) (ρ : Rho),
    (∀ (p : List D) (d : D) (q : List D) (ρ : Rho), pre ++ ds = p ++ d :: q → R p ρ → ∃ ρ1, bind d ρ = some ρ1 ∧ ((∃ ρ2, (body ρ1 = .ok .nx ρ2 ∨ body ρ1 = .ok .ct ρ2) ∧ R (p ++ [d]) ρ2) ∨ (∃ ρ2, body ρ1 = .ok .bk ρ2 ∧ B ρ2) ∨ ∃ v ρ2, body ρ1 = .ok (.rt v) ρ2 ∧ T v ρ2)) →
    R pre ρ → (∃ ρ', forL bind body ds ρ = .ok .nx ρ' ∧ (R (pre ++ ds) ρ' ∨ B ρ')) ∨ ∃ v ρ', forL bind body ds ρ = .ok (.rt v) ρ' ∧ T v ρ'
  | [], pre, ρ, h, r => .inl ⟨ρ, rfl, .inl (by rw [List.append_nil]; exact r)⟩
  | d :: ds, pre, ρ, h, r => by
    obtain ⟨ρ1, e1, h1⟩ := h pre d ds ρ rfl r
    have e : forL bind body (d :: ds) ρ = (Rs.of ρ (bind d ρ)).bind fun ρ1 _ => (body ρ1).bind fun f ρ2 => match f with
      | .nx => forL bind body ds ρ2
      | .ct => forL bind body ds ρ2
      | .bk => .ok .nx ρ2
      | .rt d => .ok (.rt d) ρ2 := rfl
    rw [e, e1]
    simp only [Rs.of_some, Rs.bind_ok]
    rcases h1 with ⟨ρ2, e2, r2⟩ | ⟨ρ2, e2, b2⟩ | ⟨v, ρ2, e2, t2⟩
    · have ih := forL_rel R B T ds (pre ++ [d]) ρ2 (fun p d' q ρ he => h p d' q ρ (by rw [← he]; simp)) r2
      rw [show pre ++ [d] ++ ds = pre ++ d :: ds by simp] at ih
      rcases e2 with e2 | e2 <;> (rw [e2]; exact ih)
    · rw [e2]; exact .inl ⟨ρ2, rfl, .inr b2⟩
    · rw [e2]; exact .inr ⟨v, ρ2, rfl, t2⟩
/-- .. without break and return: a fold -/
theorem forL_fold {bind : D → Rho → Option Rho} {body : Rho → Rs Rho Fl} {α σ : Type} (enc : σ → Rho → Prop) (g : α → D) (step : σ → α → σ) : ∀ (xs : List α) (s : σ) (ρ : Rho),
    (∀ (s : σ) (x : α) (ρ : Rho), x ∈ xs → enc s ρ → ∃ ρ1 ρ2, bind (g x) ρ = some ρ1 ∧ body ρ1 = .ok .nx ρ2 ∧ enc (step s x) ρ2) → enc s ρ → ∃ ρ', forL bind body (xs.map g) ρ = .ok .nx ρ' ∧ enc (xs.foldl step s) ρ'
  | [], s, ρ, h, r => ⟨ρ, rfl, r⟩
  | x :: xs, s, ρ, h, r => by
    obtain ⟨ρ1, ρ2, e1, e2, r2⟩ := h s x ρ (List.mem_cons_self ..) r
    have e : forL bind body ((x :: xs).map g) ρ = (Rs.of ρ (bind (g x) ρ)).bind fun ρ1 _ => (body ρ1).bind fun f ρ2 => match f with
      | .nx => forL bind body (xs.map g) ρ2
      | .ct => forL bind body (xs.map g) ρ2
      | .bk => .ok .nx ρ2
      | .rt d => .ok (.rt d) ρ2 := rfl
    rw [e, e1]
    simp only [Rs.of_some, Rs.bind_ok, e2]
    exact forL_fold enc g step xs (step s x) ρ2 (fun s x ρ hx => h s x ρ (List.mem_cons_of_mem _ hx)) r2

/-! ### values -/
@[simp] theorem isF_non : D.isF .non = true := (rfl)
@[simp] theorem isF_bl (b : Bool) : D.isF (.bl b) = true := (rfl)
@[simp] theorem isF_int (b : Int) : D.isF (.int b) = true := (rfl)
@[simp] theorem isF_str (b : List Nat) : D.isF (.str b) = true := (rfl)
@[simp] theorem isF_scr (b : List Int) : D.isF (.scr b) = true := (rfl)
@[simp] theorem isF_tup (b : List D) : D.isF (.tup b) = D.isFL b := (rfl)
@[simp] theorem isF_lst (o : Bool) (b : List D) : D.isF (.lst o b) = (!o && D.isFL b) := (rfl)
@[simp] theorem isF_dct (o : Bool) (k : List Key) (b : List D) : D.isF (.dct o k b) = (!o && D.isFL b) := (rfl)
@[simp] theorem isFL_nil : D.isFL [] = true := (rfl)
@[simp] theorem isFL_cons (x : D) (xs : List D) : D.isFL (x :: xs) = (x.isF && D.isFL xs) := (rfl)
@[simp] theorem isFL_app (xs ys : List D) : D.isFL (xs ++ ys) = (D.isFL xs && D.isFL ys) := by rw [isFL_all, isFL_all, isFL_all, List.all_append]
theorem isFL_of {xs : List D} (h : ∀ x ∈ xs, x.isF = true) : D.isFL xs = true := by rw [isFL_all, List.all_eq_true]; exact h
@[simp] theorem isFL_ints {α : Type} (f : α → Int) (xs : List α) : D.isFL (xs.map fun x => D.int (f x)) = true := isFL_of fun x hx => by
  obtain ⟨y, _, rfl⟩ := List.mem_map.mp hx; rfl
@[simp] theorem isFL_ints' (xs : List Int) : D.isFL (xs.map D.int) = true := isFL_ints (fun x => x) xs
@[simp] theorem isFL_strs {α : Type} (f : α → List Nat) (xs : List α) : D.isFL (xs.map fun x => D.str (f x)) = true := isFL_of fun x hx => by
  obtain ⟨y, _, rfl⟩ := List.mem_map.mp hx; rfl
@[simp] theorem isFL_strs' (xs : List (List Nat)) : D.isFL (xs.map D.str) = true := isFL_strs (fun x => x) xs
@[simp] theorem frz_non : D.frz .non = .non := (rfl)
@[simp] theorem frz_bl (b : Bool) : D.frz (.bl b) = .bl b := (rfl)
@[simp] theorem frz_int (b : Int) : D.frz (.int b) = .int b := (rfl)
@[simp] theorem frz_str (b : List Nat) : D.frz (.str b) = .str b := (rfl)
@[simp] theorem frz_scr (b : List Int) : D.frz (.scr b) = .scr b := (rfl)
@[simp] theorem frz_tup (b : List D) : D.frz (.tup b) = .tup (D.frzL b) := (rfl)
@[simp] theorem frz_lst (o : Bool) (b : List D) : D.frz (.lst o b) = .lst false (D.frzL b) := (rfl)
@[simp] theorem frzL_nil : D.frzL [] = [] := (rfl)
@[simp] theorem frzL_cons (x : D) (xs : List D) : D.frzL (x :: xs) = x.frz :: D.frzL xs := (rfl)
theorem frzL_id : ∀ {xs : List D}, D.isFL xs = true → D.frzL xs = xs
  | [], _ => rfl
  | x :: xs, h => by
    simp only [isFL_cons, Bool.and_eq_true] at h
    rw [frzL_cons, frzL_id h.2, frz_id h.1]
where
  frz_id : ∀ {d : D}, d.isF = true → d.frz = d
  | .non, _ => rfl
  | .bl _, _ => rfl
  | .int _, _ => rfl
  | .str _, _ => rfl
  | .scr _, _ => rfl
  | .tup xs, h => by rw [frz_tup, frzL_id h]
  | .lst o xs, h => by
    simp only [isF_lst, Bool.and_eq_true, Bool.not_eq_true'] at h
    rw [frz_lst, frzL_id h.2, h.1]
  | .dct o k xs, h => by
    simp only [isF_dct, Bool.and_eq_true, Bool.not_eq_true'] at h
    show D.dct false k (D.frzL xs) = _
    rw [frzL_id h.2, h.1]
@[simp] theorem frzL_ints (xs : List Int) : D.frzL (xs.map D.int) = xs.map D.int := frzL_id (isFL_ints' xs)
@[simp] theorem shal_int (n : Nat) (b : Int) : shal n (.int b) = true := by cases n <;> rfl
@[simp] theorem shal_bl (n : Nat) (b : Bool) : shal n (.bl b) = true := by cases n <;> rfl
@[simp] theorem shal_str (n : Nat) (b : List Nat) : shal n (.str b) = true := by cases n <;> rfl
@[simp] theorem shal_non (n : Nat) : shal n .non = true := by cases n <;> rfl
@[simp] theorem shal_lst (n : Nat) (o : Bool) (b : List D) : shal (n + 1) (.lst o b) = shalL n b := (rfl)
@[simp] theorem shal_tup (n : Nat) (b : List D) : shal (n + 1) (.tup b) = shalL n b := (rfl)
@[simp] theorem shalL_nil (n : Nat) : shalL n [] = true := by cases n <;> rfl
@[simp] theorem shalL_cons (n : Nat) (x : D) (xs : List D) : shalL n (x :: xs) = (shal n x && shalL n xs) := by cases n <;> rfl
@[simp] theorem shalL_ints (n : Nat) (xs : List Int) : shalL n (xs.map D.int) = true := by rw [shalL_all, List.all_eq_true]; intro x hx; obtain ⟨y, _, rfl⟩ := List.mem_map.mp hx; simp
@[simp] theorem shalL_strs (n : Nat) (xs : List (List Nat)) : shalL n (xs.map D.str) = true := by rw [shalL_all, List.all_eq_true]; intro x hx; obtain ⟨y, _, rfl⟩ := List.mem_map.mp hx; simp
@[simp] theorem deqv_ints (a b : Int) : deqv (.int a) (.int b) = decide (a = b) := (rfl)
@[simp] theorem deqv_bls (a b : Bool) : deqv (.bl a) (.bl b) = (a == b) := (rfl)
@[simp] theorem deqv_strs (a b : List Nat) : deqv (.str a) (.str b) = decide (a = b) := (rfl)
@[simp] theorem deqv_lsts (o p : Bool) (a b : List D) : deqv (.lst o a) (.lst p b) = deqvL a b := (rfl)
@[simp] theorem deqv_tups (a b : List D) : deqv (.tup a) (.tup b) = deqvL a b := (rfl)
@[simp] theorem deqvL_nil : deqvL [] [] = true := (rfl)
@[simp] theorem deqvL_nc (x : D) (xs : List D) : deqvL [] (x :: xs) = false := (rfl)
@[simp] theorem deqvL_cn (x : D) (xs : List D) : deqvL (x :: xs) [] = false := (rfl)
@[simp] theorem deqvL_cc (x y : D) (xs ys : List D) : deqvL (x :: xs) (y :: ys) = (deqv x y && deqvL xs ys) := (rfl)
@[simp] theorem deqvL_mapI : ∀ (xs ys : List Int), deqvL (xs.map D.int) (ys.map D.int) = decide (xs = ys)
  | [], [] => rfl
  | [], _ :: _ => by simp
  | _ :: _, [] => by simp
  | x :: xs, y :: ys => by simp [deqvL_mapI xs ys]
@[simp] theorem deqvL_mapS : ∀ (xs ys : List (List Nat)), deqvL (xs.map D.str) (ys.map D.str) = decide (xs = ys)
  | [], [] => rfl
  | [], _ :: _ => by simp
  | _ :: _, [] => by simp
  | x :: xs, y :: ys => by simp [deqvL_mapS xs ys]
@[simp] theorem flat_int (i : Int) : D.flat (.int i) = true := (rfl)
@[simp] theorem flat_str (i : List Nat) : D.flat (.str i) = true := (rfl)
@[simp] theorem flat_bl (i : Bool) : D.flat (.bl i) = true := (rfl)
@[simp] theorem flat_non : D.flat .non = true := (rfl)
@[simp] theorem flat_lst (o : Bool) (i : List D) : D.flat (.lst o i) = false := (rfl)
@[simp] theorem flat_tup (i : List D) : D.flat (.tup i) = false := (rfl)
@[simp] theorem flat_scr (i : List Int) : D.flat (.scr i) = false := (rfl)
@[simp] theorem flat_dct (o : Bool) (k : List Key) (i : List D) : D.flat (.dct o k i) = false := (rfl)
@[simp] theorem prim_isStr (x : List Nat) : prim (.isI .str) [.str x] = some (.bl true) := (rfl)
@[simp] theorem prim_isInt (x : Int) : prim (.isI .int) [.int x] = some (.bl true) := (rfl)
@[simp] theorem prim_isBool (x : Int) : prim (.isI .bool) [.int x] = some (.bl false) := (rfl)
@[simp] theorem prim_isList (o : Bool) (x : List D) : prim (.isI .list) [.lst o x] = some (.bl true) := (rfl)
@[simp] theorem prim_isTup (x : List D) : prim (.isI .tuple) [.tup x] = some (.bl true) := (rfl)
@[simp] theorem prim_isDict (o : Bool) (k : List Key) (x : List D) : prim (.isI .dict) [.dct o k x] = some (.bl true) := (rfl)
theorem asStrs_map : ∀ xs : List (List Nat), asStrs (xs.map D.str) = some xs
  | [] => rfl
  | x :: xs => by show (asStrs (xs.map D.str)).map (x :: ·) = _; rw [asStrs_map xs]; rfl
theorem asInts_map : ∀ xs : List Int, asInts (xs.map D.int) = some xs
  | [] => rfl
  | x :: xs => by show (asInts (xs.map D.int)).map (x :: ·) = _; rw [asInts_map xs]; rfl
theorem asBls_map : ∀ xs : List Bool, asBls (xs.map D.bl) = some xs
  | [] => rfl
  | x :: xs => by show (asBls (xs.map D.bl)).map (x :: ·) = _; rw [asBls_map xs]; rfl
theorem small_nat {n : Nat} (h : n ≤ 100000000000) : small64 (n : Int) = true := by
  rw [small64_iff]
  omega
theorem rng0 (n : Nat) : rng2 0 (n : Int) = (List.range n).map fun (k : Nat) => (k : Int) := by simp [rng2]
theorem clip_nat (n i : Nat) : clip n (i : Int) = min i n := by
  unfold clip
  rw [if_neg (by omega)]
  simp
theorem ixAt_nat {n i : Nat} (h : i < n) : ixAt n (i : Int) = some i := by
  unfold ixAt
  rw [if_pos (by omega), if_pos (by omega)]
  simp

/-! ### steps -/
theorem callD_rt {G : Calls} {d : Df} {ds : List D} {x : D} {ρ0 ρ : Rho} (hl : ds.length = d.par) (h0 : ds.map some ++ List.replicate (d.slots - d.par) none = ρ0) (h : execB G d.body ρ0 = .ok (.rt x) ρ) : callD G d ds = .ok x (outS d ρ) := by
  unfold callD
  rw [if_pos hl, h0, h]
theorem callD_nx {G : Calls} {d : Df} {ds : List D} {ρ0 ρ : Rho} (hl : ds.length = d.par) (h0 : ds.map some ++ List.replicate (d.slots - d.par) none = ρ0) (h : execB G d.body ρ0 = .ok .nx ρ) : callD G d ds = .ok .non (outS d ρ) := by
  unfold callD
  rw [if_pos hl, h0, h]
@[simp] theorem isLst_lst (o : Bool) (xs : List D) : isLst (some (.lst o xs)) = true := (rfl)
@[simp] theorem mt_append' (xs : List D) (d : D) : mutL .append xs [d] = if xs.length < 16777216 then some (.non, xs ++ [d]) else none := (rfl)
@[simp] theorem mt_extend' (xs ys : List D) (o : Bool) : mutL .extend xs [.lst o ys] = if xs.length + ys.length ≤ 16777216 then some (.non, xs ++ ys) else none := (rfl)
@[simp] theorem mt_pop' (xs : List D) (i : Int) : mutL .pop xs [.int i] = if small64 i = true then (ixAt xs.length i).bind fun j => (xs[j]?).map fun d => (d, xs.eraseIdx j) else none := (rfl)
@[simp] theorem mt_setI' (xs : List D) (i : Int) (d : D) : mutL .setI xs [.int i, d] = (ixAt xs.length i).map fun j => (.non, xs.set j d) := (rfl)
theorem eb_nx {G : Calls} {s : Sm} {ss : Sms} {ρ ρ' : Rho} {r : Rs Rho Fl} (h : execS G s ρ = .ok .nx ρ') (k : execB G ss ρ' = r) : execB G (.cons s ss) ρ = r := by
  rw [eb_cons, h]
  exact k
theorem eb_rt {G : Calls} {s : Sm} {ss : Sms} {ρ ρ' : Rho} {d : D} (h : execS G s ρ = .ok (.rt d) ρ') : execB G (.cons s ss) ρ = .ok (.rt d) ρ' := by
  rw [eb_cons, h]
  rfl
theorem ex_asg_of {G : Calls} {i : Nat} {e : Ex} {ρ ρ' : Rho} {d : D} (h : evalE G e ρ = .ok d ρ') (hi : i < ρ'.length) : execS G (.asg i e) ρ = .ok .nx (ρ'.set i (some d)) := by
  rw [ex_asg, h]
  simp [hi]
theorem wipe_len (ρ : Rho) : ∀ is : List Nat, (wipeS ρ is).length = ρ.length
  | [] => rfl
  | i :: is => by show (List.set _ _ _).length = _; rw [List.length_set, wipe_len ρ is]
theorem wipe_ne (ρ : Rho) : ∀ (is : List Nat) (j : Nat), j ∉ is → (wipeS ρ is)[j]? = ρ[j]?
  | [], _, _ => rfl
  | i :: is, j, h => by
    simp only [List.mem_cons, not_or] at h
    show (List.set _ _ _)[j]? = _
    rw [List.getElem?_set_ne (Ne.symm h.1), wipe_ne ρ is j h.2]
theorem back_len (ρ ρ0 : Rho) : ∀ is : List Nat, (backS ρ ρ0 is).length = ρ.length
  | [] => rfl
  | i :: is => by show (List.set _ _ _).length = _; rw [List.length_set, back_len ρ ρ0 is]
theorem back_get (ρ ρ0 : Rho) (hl : ρ.length = ρ0.length) : ∀ (is : List Nat) (j : Nat), (backS ρ ρ0 is)[j]? = if j ∈ is then ρ0[j]? else ρ[j]?
  | [], _ => by simp [backS]
  | i :: is, j => by
    show (List.set _ _ _)[j]? = _
    by_cases e : i = j
    · subst e
      rw [if_pos (List.mem_cons_self ..), List.getElem?_set, if_pos rfl, back_len]
      by_cases hi : i < ρ.length
      · rw [if_pos hi]
        unfold getS
        rw [List.getElem?_eq_getElem (by omega : i < ρ0.length)]
        rfl
      · rw [if_neg hi, List.getElem?_eq_none (by omega)]
    · rw [List.getElem?_set_ne e, back_get ρ ρ0 hl is j]
      simp [Ne.symm e]
theorem back_wipe {ρ ρ' : Rho} {own : List Nat} (h : wipeS ρ' own = wipeS ρ own) : backS ρ' ρ own = ρ := by
  have hl : ρ'.length = ρ.length := by rw [← wipe_len ρ' own, h, wipe_len]
  apply List.ext_getElem?
  intro j
  rw [back_get ρ' ρ hl own j]
  by_cases hj : j ∈ own
  · rw [if_pos hj]
  · rw [if_neg hj, ← wipe_ne ρ' own j hj, h, wipe_ne ρ own j hj]
/-- a comprehension that changes nothing -/
theorem ev_comp_pure {G : Calls} {own : List Nat} {t : Tg} {it : VL.It} {ifs : Exs} {e : Ex} {ρ : Rho} {α : Type} {xs : List α} {g : α → D} (f : α → Option D) (hI : evalI G it ρ = .ok (xs.map g) ρ) (hl : xs.length ≤ 16777216)
    (h : ∀ x ∈ xs, ∃ ρ1, bindT t (g x) (wipeS ρ own) = some ρ1 ∧ ∃ ρ2, evalAnd G ifs ρ1 = .ok (.bl (f x).isSome) ρ2 ∧ (∀ y, f x = some y → ∃ ρ3, evalE G e ρ2 = .ok y ρ3 ∧ wipeS ρ3 own = wipeS ρ own) ∧ (f x = none → wipeS ρ2 own = wipeS ρ own)) :
    evalE G (.comp own t it ifs e) ρ = .ok (.lst true (xs.filterMap f)) ρ := by
  rw [ev_comp, hI]
  obtain ⟨ρ', h1, h2⟩ := compL_pure (bind := fun d ρ => bindT t d (wipeS ρ own)) (test := fun ρ => (evalAnd G ifs ρ).bind fun x ρ => match x with | .bl b => .ok b ρ | _ => .no) (elt := fun ρ => evalE G e ρ)
    (fun ρ' => wipeS ρ' own = wipeS ρ own) g f xs ρ hl (fun x hx ρ' hρ => by
      obtain ⟨ρ1, e1, ρ2, e2, k1, k2⟩ := h x hx
      refine ⟨ρ1, by rw [hρ]; exact e1, ρ2, ?_, k1, k2⟩
      rw [e2]
      rfl) rfl
  have h3 := congrArg (fun r : Rs Rho D => r.bind fun d ρ1 => Rs.ok d (backS ρ1 ρ own)) h1
  refine h3.trans ?_
  show Rs.ok _ (backS ρ' ρ own) = _
  rw [back_wipe h2]
/-- .. without a test -/
theorem ev_comp_map {G : Calls} {own : List Nat} {t : Tg} {it : VL.It} {e : Ex} {ρ : Rho} {α : Type} {xs : List α} {g : α → D} (f : α → D) (hI : evalI G it ρ = .ok (xs.map g) ρ) (hl : xs.length ≤ 16777216)
    (h : ∀ x ∈ xs, ∃ ρ1, bindT t (g x) (wipeS ρ own) = some ρ1 ∧ ∃ ρ3, evalE G e ρ1 = .ok (f x) ρ3 ∧ wipeS ρ3 own = wipeS ρ own) :
    evalE G (.comp own t it .nil e) ρ = .ok (.lst true (xs.map f)) ρ := by
  have := ev_comp_pure (G := G) (own := own) (t := t) (it := it) (ifs := .nil) (e := e) (ρ := ρ) (xs := xs) (g := g) (fun x => some (f x)) hI hl (fun x hx => by
    obtain ⟨ρ1, e1, ρ3, e3, k⟩ := h x hx
    exact ⟨ρ1, e1, ρ1, rfl, fun y hy => by cases hy; exact ⟨ρ3, e3, k⟩, fun z => by cases z⟩)
  rw [this]
  congr 2
  simp

/-- a for without break and return, by the items taken -/
theorem forL_pre {bind : D → Rho → Option Rho} {body : Rho → Rs Rho Fl} {α : Type} (g : α → D) (enc : List α → Rho → Prop) (xs : List α) (ρ : Rho)
    (h : ∀ (pre : List α) (x : α) (post : List α) (ρ : Rho), xs = pre ++ x :: post → enc pre ρ → ∃ ρ1 ρ2, bind (g x) ρ = some ρ1 ∧ body ρ1 = .ok .nx ρ2 ∧ enc (pre ++ [x]) ρ2) (r : enc [] ρ) : ∃ ρ', forL bind body (xs.map g) ρ = .ok .nx ρ' ∧ enc xs ρ' := by
  have key : ∀ (ys pre : List α) (ρ : Rho), xs = pre ++ ys → enc pre ρ → ∃ ρ', forL bind body (ys.map g) ρ = .ok .nx ρ' ∧ enc xs ρ' := by
    intro ys
    induction ys with
    | nil => intro pre ρ e r; rw [List.append_nil] at e; subst e; exact ⟨ρ, rfl, r⟩
    | cons y ys ih =>
      intro pre ρ e r
      obtain ⟨ρ1, ρ2, e1, e2, r2⟩ := h pre y ys ρ e r
      have ec : forL bind body ((y :: ys).map g) ρ = (Rs.of ρ (bind (g y) ρ)).bind fun ρ1 _ => (body ρ1).bind fun f ρ2 => match f with
        | .nx => forL bind body (ys.map g) ρ2
        | .ct => forL bind body (ys.map g) ρ2
        | .bk => .ok .nx ρ2
        | .rt d => .ok (.rt d) ρ2 := rfl
      rw [ec, e1]
      simp only [Rs.of_some, Rs.bind_ok, e2]
      exact ih (pre ++ [y]) ρ2 (by rw [e]; simp) r2
  exact key xs [] ρ rfl r
/-- a for that looks for the first item of a kind, and returns there -/
theorem forL_find {bind : D → Rho → Option Rho} {body : Rho → Rs Rho Fl} {α : Type} (g : α → D) (p : α → Bool) (val : α → D) (R T : Rho → Prop) : ∀ (xs : List α) (ρ : Rho),
    (∀ x ∈ xs, ∀ ρ, R ρ → ∃ ρ1, bind (g x) ρ = some ρ1 ∧ ((p x = false → ∃ ρ2, body ρ1 = .ok .nx ρ2 ∧ R ρ2) ∧ (p x = true → ∃ ρ2, body ρ1 = .ok (.rt (val x)) ρ2 ∧ T ρ2))) → R ρ →
    (∃ x, xs.find? p = some x ∧ ∃ ρ', forL bind body (xs.map g) ρ = .ok (.rt (val x)) ρ' ∧ T ρ') ∨ (xs.find? p = none ∧ ∃ ρ', forL bind body (xs.map g) ρ = .ok .nx ρ' ∧ R ρ')
  | [], ρ, _, r => .inr ⟨rfl, ρ, rfl, r⟩
  | y :: ys, ρ, h, r => by
    obtain ⟨ρ1, e1, hf, ht⟩ := h y (List.mem_cons_self ..) ρ r
    have ec : forL bind body ((y :: ys).map g) ρ = (Rs.of ρ (bind (g y) ρ)).bind fun ρ1 _ => (body ρ1).bind fun f ρ2 => match f with
      | .nx => forL bind body (ys.map g) ρ2
      | .ct => forL bind body (ys.map g) ρ2
      | .bk => .ok .nx ρ2
      | .rt d => .ok (.rt d) ρ2 := rfl
    rw [ec, e1]
    cases hp : p y with
    | true =>
      obtain ⟨ρ2, e2, t⟩ := ht hp
      simp only [Rs.of_some, Rs.bind_ok, e2]
      exact .inl ⟨y, by rw [List.find?_cons, hp], ρ2, rfl, t⟩
    | false =>
      obtain ⟨ρ2, e2, r2⟩ := hf hp
      simp only [Rs.of_some, Rs.bind_ok, e2]
      rw [List.find?_cons, hp]
      exact forL_find g p val R T ys ρ2 (fun x hx => h x (List.mem_cons_of_mem _ hx)) r2
theorem ex_for_nx {G : Calls} {t : Tg} {it : VL.It} {b : Sms} {ρ ρ1 ρ' : Rho} {ds : List D} (h : evalI G it ρ = .ok ds ρ1) (k : forL (bindT t) (fun ρ => execB G b ρ) ds ρ1 = .ok .nx ρ') : execS G (.for t it b) ρ = .ok .nx ρ' := by
  rw [ex_for, h]
  exact k
theorem ex_for_rt {G : Calls} {t : Tg} {it : VL.It} {b : Sms} {ρ ρ1 ρ' : Rho} {ds : List D} {d : D} (h : evalI G it ρ = .ok ds ρ1) (k : forL (bindT t) (fun ρ => execB G b ρ) ds ρ1 = .ok (.rt d) ρ') : execS G (.for t it b) ρ = .ok (.rt d) ρ' := by
  rw [ex_for, h]
  exact k
@[simp] theorem items_str (x : List Nat) : itemsOf (.str x) = some (x.map fun k => .str [k]) := (rfl)
@[simp] theorem items_lst (o : Bool) (x : List D) : itemsOf (.lst o x) = if D.isFL x = true then some x else none := (rfl)
@[simp] theorem items_tup (x : List D) : itemsOf (.tup x) = if D.isFL x = true then some x else none := (rfl)
end VL

/-! VL23: the laws' own drawing. -/
namespace VL
open PySem PySem.Spec PyProof.Rows L2
def F (ns : List Int) (a b c : Int) : D := .lst true [.lst false (ns.map .int), .int a, .int b, .int c]
def Feed (d : D) : Prop := ∃ ns a b c, d = F ns a b c ∧ 0 ≤ a ∧ 0 ≤ b ∧ 0 ≤ c ∧ c ≤ 2147483647
def dDraw : Df := ⟨2, 5, [], (.cons (.ifs (.and (.cons (.prm .eq (.cons (.prm .idx (.cons (.pk 0) (.cons (.cst (.int 2)) .nil))) (.cons (.cst (.int 0)) .nil))) (.cons (.prm .lt (.cons (.prm .idx (.cons (.pk 0) (.cons (.cst (.int 1)) .nil))) (.cons (.prm .len (.cons (.prm .idx (.cons (.pk 0) (.cons (.cst (.int 0)) .nil))) .nil)) .nil))) .nil))) (.cons (.asg 3 (.prm .abs (.cons (.prm .toInt (.cons (.prm .idx (.cons (.prm .idx (.cons (.pk 0) (.cons (.cst (.int 0)) .nil))) (.cons (.prm .idx (.cons (.pk 0) (.cons (.cst (.int 1)) .nil))) .nil))) .nil)) .nil))) (.cons (.augi 0 (.cst (.int 1)) .add (.cst (.int 1))) (.cons (.ifs (.prm .ge (.cons (.pk 3) (.cons (.prm .pow (.cons (.cst (.int 10)) (.cons (.cst (.int 18)) .nil))) .nil))) (.cons (.seti 0 (.cst (.int 2)) (.var 3)) .nil) (.cons (.seti 0 (.cst (.int 3)) (.prm .mod (.cons (.prm .toInt (.cons (.prm .add (.cons (.prm .add (.cons (.prm .mul (.cons (.prm .idx (.cons (.pk 0) (.cons (.cst (.int 3)) .nil))) (.cons (.cst (.int 48271)) .nil))) (.cons (.prm .mul (.cons (.pk 3) (.cons (.cst (.int 69621)) .nil))) .nil))) (.cons (.prm .idx (.cons (.pk 0) (.cons (.cst (.int 1)) .nil))) .nil))) .nil)) (.cons (.cst (.int 2147483647)) .nil)))) .nil)) .nil))) .nil) (.cons (.ifs (.prm .gt (.cons (.prm .idx (.cons (.pk 0) (.cons (.cst (.int 2)) .nil))) (.cons (.cst (.int 0)) .nil))) (.cons (.asg 4 (.prm .mod (.cons (.prm .toInt (.cons (.prm .idx (.cons (.pk 0) (.cons (.cst (.int 2)) .nil))) .nil)) (.cons (.pk 1) .nil)))) (.cons (.seti 0 (.cst (.int 2)) (.prm .fdiv (.cons (.prm .idx (.cons (.pk 0) (.cons (.cst (.int 2)) .nil))) (.cons (.pk 1) .nil)))) (.cons (.ret (.mov 4)) .nil))) .nil) (.cons (.seti 0 (.cst (.int 3)) (.prm .mod (.cons (.prm .toInt (.cons (.prm .add (.cons (.prm .mul (.cons (.prm .idx (.cons (.pk 0) (.cons (.cst (.int 3)) .nil))) (.cons (.cst (.int 16807)) .nil))) (.cons (.cst (.int 12345)) .nil))) .nil)) (.cons (.cst (.int 2147483647)) .nil)))) (.cons (.asg 2 (.prm .mod (.cons (.prm .toInt (.cons (.prm .add (.cons (.prm .mul (.cons (.prm .idx (.cons (.pk 0) (.cons (.cst (.int 3)) .nil))) (.cons (.prm .idx (.cons (.pk 0) (.cons (.cst (.int 3)) .nil))) .nil))) (.cons (.prm .idx (.cons (.pk 0) (.cons (.cst (.int 3)) .nil))) .nil))) .nil)) (.cons (.cst (.int 2147483629)) .nil)))) (.cons (.ret (.prm .mod (.cons (.prm .fdiv (.cons (.pk 2) (.cons (.cst (.int 11)) .nil))) (.cons (.pk 1) .nil)))) .nil)))))⟩
def dFeed : Df := ⟨1, 1, [], (.cons (.ret (.lst (.cons (.frz (.prm .toList (.cons (.pk 0) .nil))) (.cons (.cst (.int 0)) (.cons (.cst (.int 0)) (.cons (.cst (.int 1)) .nil)))))) .nil)⟩
theorem feed_ok (G : Calls) (ns : List Int) : callD G dFeed [.scr ns] = .ok (F ns 0 0 1) [some (.scr ns)] := by
  refine callD_rt (ρ0 := [some (.scr ns)]) (ρ := [some (.scr ns)]) rfl rfl (eb_rt ?_)
  simp [F]
theorem feed_Feed (ns : List Int) : Feed (F ns 0 0 1) := ⟨ns, 0, 0, 1, rfl, by omega, by omega, by omega, by omega⟩
theorem mod_pos {a b : Int} (h : 0 < b) : 0 ≤ a % b ∧ a % b < b := ⟨Int.emod_nonneg _ (by omega), Int.emod_lt_of_pos _ h⟩
theorem draw_ok (G : Calls) {d : D} (hd : Feed d) {m : Int} (h0 : 0 < m) (h1 : m < 1073741824) : ∃ r d', 0 ≤ r ∧ r < m ∧ Feed d' ∧ callD G dDraw [d, .int m] = .ok (.int r) [some d', some (.int m)] := by
  obtain ⟨ns, a, b, c, rfl, ha, hb, hc, hc2⟩ := hd
  -- the first statement
  obtain ⟨s1, s2, ss, es⟩ : ∃ s1 s2 ss, dDraw.body = .cons s1 (.cons s2 ss) := ⟨_, _, _, rfl⟩
  have k1 : ∃ a' b' c' x, 0 ≤ a' ∧ 0 ≤ b' ∧ 0 ≤ c' ∧ c' ≤ 2147483647 ∧ execS G s1 [some (F ns a b c), some (.int m), none, none, none] = .ok .nx [some (F ns a' b' c'), some (.int m), none, x, none] := by
    cases es
    by_cases e1 : b = 0 ∧ a < (ns.length : Int)
    · obtain ⟨rfl, e1⟩ := e1
      obtain ⟨j, rfl⟩ := Int.eq_ofNat_of_zero_le ha
      have hj : j < ns.length := by omega
      by_cases e2 : (1000000000000000000 : Int) ≤ (if ns[j] < 0 then -ns[j] else ns[j])
      · refine ⟨(j : Int) + 1, if ns[j] < 0 then -ns[j] else ns[j], c, some (.int (if ns[j] < 0 then -ns[j] else ns[j])), by omega, by omega, hc, hc2, ?_⟩
        simp [F, ixAt, hj, e2, small2]
      · refine ⟨(j : Int) + 1, 0, (c * 48271 + (if ns[j] < 0 then -ns[j] else ns[j]) * 69621 + ((j : Int) + 1)) % 2147483647, some (.int (if ns[j] < 0 then -ns[j] else ns[j])), by omega, by omega, (mod_pos (by omega)).1, by have := (mod_pos (a := c * 48271 + (if ns[j] < 0 then -ns[j] else ns[j]) * 69621 + ((j : Int) + 1)) (b := 2147483647) (by omega)).2; omega, ?_⟩
        simp [F, ixAt, hj, e2, small2]
    · refine ⟨a, b, c, none, ha, hb, hc, hc2, ?_⟩
      by_cases e0 : b = 0
      · have e2 : ¬ a < (ns.length : Int) := fun z => e1 ⟨e0, z⟩
        simp [F, ixAt, e0, e2]
      · simp [F, ixAt, e0]
  obtain ⟨a', b', c', x, ha', hb', hc', hc2', k1⟩ := k1
  have h0' : dDraw.body = .cons s1 (.cons s2 ss) := es
  cases es
  by_cases e1 : 0 < b'
  · -- a told number
    refine ⟨b' % m, F ns a' (b' / m) c', (mod_pos h0).1, (mod_pos h0).2, ⟨ns, a', b' / m, c', rfl, ha', Int.ediv_nonneg hb' (by omega), hc', hc2'⟩, ?_⟩
    refine callD_rt (ρ0 := [some (F ns a b c), some (.int m), none, none, none]) (ρ := [some (F ns a' (b' / m) c'), some (.int m), none, x, none]) rfl rfl ?_
    rw [h0']
    refine eb_nx k1 (eb_rt ?_)
    simp [F, ixAt, e1, h0, h1]
  · -- a mixed one
    have hx := mod_pos (a := c' * 16807 + 12345) (b := 2147483647) (by omega)
    have hx2 : small2 ((c' * 16807 + 12345) % 2147483647) = true := small2_iff.mpr (by omega)
    refine ⟨((((c' * 16807 + 12345) % 2147483647) * ((c' * 16807 + 12345) % 2147483647) + ((c' * 16807 + 12345) % 2147483647)) % 2147483629) / 11 % m, F ns a' b' ((c' * 16807 + 12345) % 2147483647), (mod_pos h0).1, (mod_pos h0).2, ⟨ns, a', b', _, rfl, ha', hb', hx.1, by omega⟩, ?_⟩
    refine callD_rt (ρ0 := [some (F ns a b c), some (.int m), none, none, none]) (ρ := [some (F ns a' b' ((c' * 16807 + 12345) % 2147483647)), some (.int m), some (.int ((((c' * 16807 + 12345) % 2147483647) * ((c' * 16807 + 12345) % 2147483647) + ((c' * 16807 + 12345) % 2147483647)) % 2147483629)), x, none]) rfl rfl ?_
    rw [h0']
    refine eb_nx k1 (eb_nx (ρ' := [some (F ns a' b' c'), some (.int m), none, x, none]) ?_ ?_)
    · simp [F, ixAt, e1]
    · have s1 : small2 16807 = true := by decide
      simp [F, ixAt, s1, hx2, h0]
end VL

/-! VL24: evaluation, operand by operand. -/
namespace VL
open PySem PySem.Spec PyProof.Rows L2
section
variable {G : Calls} {ρ ρ1 ρ2 ρ3 : Rho} {a b c d : D} {A B C : Ex} {es : Exs} {p : Prim} {i : Nat}
theorem np {e : Ex} (h : nonPk e = true) : ∀ i, e ≠ .pk i := fun i z => by subst z; cases h
theorem fetchL_of {e : Ex} {d : D} {ds : List (Option D)} (h : nonPk e = true) : fetchL (.cons e es) (some d :: ds) ρ = (fetchL es ds ρ).map (d :: ·) := by
  cases e <;> first | rfl | (cases h)
theorem prm1 (nA : nonPk A = true) (hA : evalE G A ρ = .ok a ρ1) (hp : prim p [a] = some d) : evalE G (.prm p (.cons A .nil)) ρ = .ok d ρ1 := by
  rw [ev_prm, evalO_of (np nA), hA]
  simp only [Rs.bind_ok, eo_nil, fetchL_of nA, fe_nil, Option.map_some, Rs.of_some, hp]
theorem prm1k (h : getS ρ i = some a) (hp : prim p [a] = some d) : evalE G (.prm p (.cons (.pk i) .nil)) ρ = .ok d ρ := by
  rw [ev_prm, eo_pk]
  simp only [Rs.bind_ok, eo_nil, h, Rs.of_some, fe_pk, fe_nil, Option.bind_some, Option.map_some, hp]
theorem prm2 (nA : nonPk A = true) (nB : nonPk B = true) (hA : evalE G A ρ = .ok a ρ1) (hB : evalE G B ρ1 = .ok b ρ2) (hp : prim p [a, b] = some d) : evalE G (.prm p (.cons A (.cons B .nil))) ρ = .ok d ρ2 := by
  rw [ev_prm, evalO_of (np nA), hA]
  simp only [Rs.bind_ok]
  rw [evalO_of (np nB), hB]
  simp only [Rs.bind_ok, eo_nil, fetchL_of nA, fetchL_of nB, fe_nil, Option.map_some, Rs.of_some, hp]
/-- the first operand a name -/
theorem prm2k (nB : nonPk B = true) (h0 : getS ρ i = some c) (hB : evalE G B ρ = .ok b ρ2) (h : getS ρ2 i = some a) (hp : prim p [a, b] = some d) : evalE G (.prm p (.cons (.pk i) (.cons B .nil))) ρ = .ok d ρ2 := by
  rw [ev_prm, eo_pk, h0]
  simp only [Rs.bind_ok, Rs.of_some]
  rw [evalO_of (np nB), hB]
  simp only [Rs.bind_ok, eo_nil, fe_pk, h, Option.bind_some, fetchL_of nB, fe_nil, Option.map_some, Rs.of_some, hp]
/-- the second one a name -/
theorem prm2l (nA : nonPk A = true) (hA : evalE G A ρ = .ok a ρ1) (h : getS ρ1 i = some b) (hp : prim p [a, b] = some d) : evalE G (.prm p (.cons A (.cons (.pk i) .nil))) ρ = .ok d ρ1 := by
  rw [ev_prm, evalO_of (np nA), hA]
  simp only [Rs.bind_ok, eo_pk, h, Rs.of_some, eo_nil, fe_pk, Option.bind_some, fetchL_of nA, fe_nil, Option.map_some, hp]
theorem ex_ret_of (h : evalE G A ρ = .ok d ρ1) : execS G (.ret A) ρ = .ok (.rt d) ρ1 := by
  rw [ex_ret, h]
  rfl
theorem ex_ifs_t {s t : Sms} (h : evalE G A ρ = .ok (.bl true) ρ1) : execS G (.ifs A s t) ρ = execB G s ρ1 := by
  rw [ex_ifs, h]
  rfl
theorem ex_ifs_f {s t : Sms} (h : evalE G A ρ = .ok (.bl false) ρ1) : execS G (.ifs A s t) ρ = execB G t ρ1 := by
  rw [ex_ifs, h]
  rfl
theorem eb_one {s : Sm} {f : Fl} (h : execS G s ρ = .ok f ρ1) : execB G (.cons s .nil) ρ = .ok f ρ1 := by
  rw [eb_cons, h]
  cases f <;> rfl
end
end VL

/-! VL25: what a run goes to (weakest preconditions). -/
namespace VL
open PySem PySem.Spec PyProof.Rows L2
/-- the run answers, and the answer and the state are as Q says -/
def Go {σ β : Type} (r : Rs σ β) (Q : β → σ → Prop) : Prop := ∃ y s, r = .ok y s ∧ Q y s
section
variable {σ β γ : Type} {G : Calls} {ρ : Rho}
theorem Go.congr {r r' : Rs σ β} {Q : β → σ → Prop} (h : r = r') : Go r Q = Go r' Q := by rw [h]
theorem Rs.bind_congr {r r' : Rs σ β} {k : β → σ → Rs σ γ} (h : r = r') : r.bind k = r'.bind k := by rw [h]
@[simp] theorem go_ok {y : β} {s : σ} {Q : β → σ → Prop} : Go (.ok y s) Q = Q y s := by
  apply propext
  constructor
  · rintro ⟨_, _, h, k⟩
    cases h
    exact k
  · intro h
    exact ⟨y, s, rfl, h⟩
@[simp] theorem go_no {Q : β → σ → Prop} : Go (.no : Rs σ β) Q = False := by
  apply propext
  constructor
  · rintro ⟨_, _, h, k⟩
    cases h
  · intro h
    exact h.elim
@[simp] theorem go_bind {r : Rs σ β} {k : β → σ → Rs σ γ} {Q : γ → σ → Prop} : Go (r.bind k) Q = Go r (fun y s => Go (k y s) Q) := by
  apply propext
  constructor
  · rintro ⟨z, t, h, q⟩
    cases r with
    | ok a s => exact ⟨a, s, rfl, z, t, h, q⟩
    | exn k d s => cases h
    | no => cases h
  · rintro ⟨a, s, h, z, t, h2, q⟩
    refine ⟨z, t, ?_, q⟩
    rw [h]
    exact h2
theorem Go.imp {r : Rs σ β} {P Q : β → σ → Prop} (h : Go r P) (k : ∀ y s, P y s → Q y s) : Go r Q := by
  obtain ⟨y, s, h1, h2⟩ := h
  exact ⟨y, s, h1, k y s h2⟩
theorem Go.eq {r : Rs σ β} {P : β → σ → Prop} (h : Go r P) : ∃ y s, r = .ok y s ∧ P y s := h
theorem go_of_eq {r : Rs σ β} {y : β} {s : σ} {Q : β → σ → Prop} (h : r = .ok y s) (k : Q y s) : Go r Q := ⟨y, s, h, k⟩
/-- a call's answer, the lent things back -/
def Rs.ret (r : Rs (List (Option D)) D) (f : List (Option D) → Rho) : Rs Rho D := match r with
  | .ok d rs => .ok d (f rs)
  | .exn k d rs => .exn k d (f rs)
  | .no => .no
theorem Rs.ret_congr {r r' : Rs (List (Option D)) D} {f : List (Option D) → Rho} (h : r = r') : r.ret f = r'.ret f := by rw [h]
@[simp] theorem ret_ok {d : D} {rs : List (Option D)} {f : List (Option D) → Rho} : (Rs.ok d rs).ret f = .ok d (f rs) := (rfl)
@[simp] theorem go_ret {r : Rs (List (Option D)) D} {f : List (Option D) → Rho} {Q : D → Rho → Prop} : Go (r.ret f) Q = Go r (fun d rs => Q d (f rs)) := by
  apply propext
  cases r with
  | ok a s => simp
  | exn k d s =>
    constructor
    · rintro ⟨_, _, h, _⟩
      cases h
    · rintro ⟨_, _, h, _⟩
      cases h
  | no =>
    constructor
    · rintro ⟨_, _, h, _⟩
      cases h
    · rintro ⟨_, _, h, _⟩
      cases h
@[simp high] theorem ev_callR {f : Nat} {as : Exs} : evalE G (.call f as) ρ = (evalO G as ρ).bind fun ds ρ => (Rs.of ρ (lendL as ds ρ)).bind fun r _ => (G f r.1).ret fun rs => backL as r.1 rs r.2 := by
  rw [ev_call]
  congr 1
@[simp ↓] theorem go_call {f : Nat} {as : Exs} {Q : D → Rho → Prop} : Go (evalE G (.call f as) ρ) Q = Go (evalO G as ρ) (fun ds ρ => Go (Rs.of ρ (lendL as ds ρ)) fun r _ => Go (G f r.1) fun d rs => Q d (backL as r.1 rs r.2)) := by
  rw [ev_call, go_bind]
  congr 1
  funext ds ρ1
  rw [go_bind]
  congr 1
  funext r _
  cases G f r.1 with
  | ok a s => simp
  | exn k d s =>
    apply propext
    constructor
    · rintro ⟨_, _, h, _⟩
      cases h
    · rintro ⟨_, _, h, _⟩
      cases h
  | no => simp
theorem Go.ok {r : Rs σ β} {y : β} {s : σ} (h : Go r fun a b => a = y ∧ b = s) : r = .ok y s := by
  obtain ⟨a, b, h, rfl, rfl⟩ := h
  exact h
/-- behind a def's body -/
def DefQ (d : Df) (Q : D → List (Option D) → Prop) (f : Fl) (ρ : Rho) : Prop := match f with
  | .rt x => Q x (outS d ρ)
  | .nx => Q .non (outS d ρ)
  | _ => False
@[simp] theorem defQ_rt {d : Df} {Q : D → List (Option D) → Prop} {x : D} : DefQ d Q (.rt x) ρ = Q x (outS d ρ) := (rfl)
@[simp] theorem defQ_nx {d : Df} {Q : D → List (Option D) → Prop} : DefQ d Q .nx ρ = Q .non (outS d ρ) := (rfl)
/-- a def -/
theorem go_def {d : Df} {b : Sms} {ds : List D} {ρ0 : Rho} {Q : D → List (Option D) → Prop} (hl : ds.length = d.par) (h0 : ds.map some ++ List.replicate (d.slots - d.par) none = ρ0) (hb : d.body = b) (h : Go (execB G b ρ0) (DefQ d Q)) : Go (callD G d ds) Q := by
  subst hb
  obtain ⟨f, ρ', h1, h2⟩ := h
  cases f with
  | rt x => exact ⟨x, _, callD_rt hl h0 h1, h2⟩
  | nx => exact ⟨_, _, callD_nx hl h0 h1, h2⟩
  | bk => exact h2.elim
  | ct => exact h2.elim
/-! ### kinds -/
@[simp] theorem isI_bl (k : Ki) (b : Bool) : prim (.isI k) [.bl b] = some (.bl (k.has (.bl b))) := (rfl)
@[simp] theorem isI_int (k : Ki) (b : Int) : prim (.isI k) [.int b] = some (.bl (k.has (.int b))) := (rfl)
@[simp] theorem isI_str (k : Ki) (b : List Nat) : prim (.isI k) [.str b] = some (.bl (k.has (.str b))) := (rfl)
@[simp] theorem isI_non (k : Ki) : prim (.isI k) [.non] = some (.bl (k.has .non)) := (rfl)
@[simp] theorem isI_tup (k : Ki) (b : List D) : prim (.isI k) [.tup b] = some (.bl (k.has (.tup b))) := (rfl)
@[simp] theorem isI_lst (k : Ki) (o : Bool) (b : List D) : prim (.isI k) [.lst o b] = some (.bl (k.has (.lst o b))) := (rfl)
@[simp] theorem isN_bl (b : Bool) : prim .isN [.bl b] = some (.bl false) := (rfl)
@[simp] theorem notN_bl (b : Bool) : prim .notN [.bl b] = some (.bl true) := (rfl)
@[simp] theorem isN_int (b : Int) : prim .isN [.int b] = some (.bl false) := (rfl)
@[simp] theorem notN_int (b : Int) : prim .notN [.int b] = some (.bl true) := (rfl)
@[simp] theorem isN_str (b : List Nat) : prim .isN [.str b] = some (.bl false) := (rfl)
@[simp] theorem notN_str (b : List Nat) : prim .notN [.str b] = some (.bl true) := (rfl)
@[simp] theorem isN_tup (b : List D) : prim .isN [.tup b] = some (.bl false) := (rfl)
@[simp] theorem notN_tup (b : List D) : prim .notN [.tup b] = some (.bl true) := (rfl)
@[simp] theorem isN_lst (o : Bool) (b : List D) : prim .isN [.lst o b] = some (.bl false) := (rfl)
@[simp] theorem notN_lst (o : Bool) (b : List D) : prim .notN [.lst o b] = some (.bl true) := (rfl)
@[simp] theorem isN_non : prim .isN [.non] = some (.bl true) := (rfl)
@[simp] theorem notN_non : prim .notN [.non] = some (.bl false) := (rfl)
/-! ### loops -/
/-- behind a turn of a for: I for the next turn, Q for the end -/
def TurnQ (I : Rho → Prop) (Q : Fl → Rho → Prop) (f : Fl) (ρ : Rho) : Prop := match f with
  | .nx => I ρ
  | .ct => I ρ
  | .bk => Q .nx ρ
  | .rt d => Q (.rt d) ρ
@[simp] theorem turnQ_nx {I : Rho → Prop} {Q : Fl → Rho → Prop} : TurnQ I Q .nx ρ = I ρ := (rfl)
@[simp] theorem turnQ_ct {I : Rho → Prop} {Q : Fl → Rho → Prop} : TurnQ I Q .ct ρ = I ρ := (rfl)
@[simp] theorem turnQ_bk {I : Rho → Prop} {Q : Fl → Rho → Prop} : TurnQ I Q .bk ρ = Q .nx ρ := (rfl)
@[simp] theorem turnQ_rt {I : Rho → Prop} {Q : Fl → Rho → Prop} {d : D} : TurnQ I Q (.rt d) ρ = Q (.rt d) ρ := (rfl)
theorem go_forL {α : Type} {bind : D → Rho → Option Rho} {body : Rho → Rs Rho Fl} {Q : Fl → Rho → Prop} (g : α → D) (I : List α → Rho → Prop) : ∀ (xs pre : List α) (ρ : Rho), I pre ρ →
    (∀ (p : List α) (x : α) (q : List α) (ρ : Rho), pre ++ xs = p ++ x :: q → I p ρ → Go (Rs.of ρ (bind (g x) ρ)) fun ρ1 _ => Go (body ρ1) (TurnQ (I (p ++ [x])) Q)) →
    (∀ ρ', I (pre ++ xs) ρ' → Q .nx ρ') → Go (forL bind body (xs.map g) ρ) Q
  | [], pre, ρ, h0, hs, hk => by
    rw [List.append_nil] at hk
    exact ⟨.nx, ρ, rfl, hk ρ h0⟩
  | x :: xs, pre, ρ, h0, hs, hk => by
    have ec : forL bind body ((x :: xs).map g) ρ = (Rs.of ρ (bind (g x) ρ)).bind fun ρ1 _ => (body ρ1).bind fun f ρ2 => match f with
      | .nx => forL bind body (xs.map g) ρ2
      | .ct => forL bind body (xs.map g) ρ2
      | .bk => .ok .nx ρ2
      | .rt d => .ok (.rt d) ρ2 := rfl
    have hn : ∀ ρ2, I (pre ++ [x]) ρ2 → Go (forL bind body (xs.map g) ρ2) Q := fun ρ2 h2 =>
      go_forL g I xs (pre ++ [x]) ρ2 h2 (fun p y q ρ e => hs p y q ρ (by rw [← e]; simp)) (fun ρ' h => hk ρ' (by simpa using h))
    rw [ec, go_bind]
    refine (hs pre x xs ρ rfl h0).imp fun ρ1 _ h1 => ?_
    rw [go_bind]
    refine h1.imp fun f ρ2 h2 => ?_
    cases f with
    | nx => exact hn ρ2 h2
    | ct => exact hn ρ2 h2
    | bk => exact ⟨.nx, ρ2, rfl, h2⟩
    | rt d => exact ⟨.rt d, ρ2, rfl, h2⟩
/-- a for, its items told -/
theorem go_for {α : Type} {t : Tg} {it : VL.It} {b : Sms} {Q : Fl → Rho → Prop} (g : α → D) (xs : List α) (I : List α → Rho → Prop) (hI : Go (evalI G it ρ) fun ds ρ1 => ds = xs.map g ∧ I [] ρ1)
    (hs : ∀ (p : List α) (x : α) (q : List α) (ρ : Rho), xs = p ++ x :: q → I p ρ → Go (Rs.of ρ (bindT t (g x) ρ)) fun ρ1 _ => Go (execB G b ρ1) (TurnQ (I (p ++ [x])) Q))
    (hk : ∀ ρ', I xs ρ' → Q .nx ρ') : Go (execS G (.for t it b) ρ) Q := by
  rw [ex_for, go_bind]
  refine hI.imp fun ds ρ1 h => ?_
  obtain ⟨rfl, h0⟩ := h
  exact go_forL g I xs [] ρ1 h0 hs hk
theorem go_compL {α : Type} {bind : D → Rho → Option Rho} {test : Rho → Rs Rho Bool} {elt : Rho → Rs Rho D} {Q : D → Rho → Prop} (g : α → D) (I : List α → List D → Rho → Prop) : ∀ (xs pre : List α) (acc : List D) (ρ : Rho), I pre acc ρ →
    (∀ (p : List α) (x : α) (q : List α) (acc : List D) (ρ : Rho), pre ++ xs = p ++ x :: q → I p acc ρ → Go (Rs.of ρ (bind (g x) ρ)) fun ρ1 _ => Go (test ρ1) fun b ρ2 => if b = true then Go (elt ρ2) fun y ρ3 => acc.length < 16777216 ∧ I (p ++ [x]) (acc ++ [y]) ρ3 else I (p ++ [x]) acc ρ2) →
    (∀ acc ρ', I (pre ++ xs) acc ρ' → Q (.lst true acc) ρ') → Go (compL bind test elt (xs.map g) acc ρ) Q
  | [], pre, acc, ρ, h0, hs, hk => by
    rw [List.append_nil] at hk
    exact ⟨_, ρ, rfl, hk acc ρ h0⟩
  | x :: xs, pre, acc, ρ, h0, hs, hk => by
    have ec : compL bind test elt ((x :: xs).map g) acc ρ = (Rs.of ρ (bind (g x) ρ)).bind fun ρ1 _ => (test ρ1).bind fun b ρ2 =>
        if b = true then (elt ρ2).bind fun y ρ3 => if acc.length < 16777216 then compL bind test elt (xs.map g) (acc ++ [y]) ρ3 else .no
        else compL bind test elt (xs.map g) acc ρ2 := rfl
    have hn : ∀ acc2 ρ2, I (pre ++ [x]) acc2 ρ2 → Go (compL bind test elt (xs.map g) acc2 ρ2) Q := fun acc2 ρ2 h2 =>
      go_compL g I xs (pre ++ [x]) acc2 ρ2 h2 (fun p y q acc ρ e => hs p y q acc ρ (by rw [← e]; simp)) (fun acc ρ' h => hk acc ρ' (by simpa using h))
    rw [ec, go_bind]
    refine (hs pre x xs acc ρ rfl h0).imp fun ρ1 _ h1 => ?_
    rw [go_bind]
    refine h1.imp fun b ρ2 h2 => ?_
    cases b with
    | false =>
      rw [if_neg (by decide)] at h2
      rw [if_neg (by decide)]
      exact hn acc ρ2 h2
    | true =>
      rw [if_pos rfl] at h2
      rw [if_pos rfl, go_bind]
      refine h2.imp fun y ρ3 h3 => ?_
      rw [if_pos h3.1]
      exact hn _ ρ3 h3.2
/-- a comprehension with a test -/
theorem go_comp {α : Type} {own : List Nat} {t : Tg} {it : VL.It} {ifs : Exs} {e : Ex} {Q : D → Rho → Prop} (g : α → D) (xs : List α) (I : List α → List D → Rho → Prop) {ρ1 : Rho} (hI : evalI G it ρ = .ok (xs.map g) ρ1) (h0 : I [] [] ρ1)
    (hs : ∀ (p : List α) (x : α) (q : List α) (acc : List D) (ρ : Rho), xs = p ++ x :: q → I p acc ρ → Go (Rs.of ρ (bindT t (g x) (wipeS ρ own))) fun ρ1 _ => Go (evalAnd G ifs ρ1) fun d ρ2 => ∃ b, d = .bl b ∧ if b = true then Go (evalE G e ρ2) fun y ρ3 => acc.length < 16777216 ∧ I (p ++ [x]) (acc ++ [y]) ρ3 else I (p ++ [x]) acc ρ2)
    (hk : ∀ acc ρ', I xs acc ρ' → Q (.lst true acc) (backS ρ' ρ1 own)) : Go (evalE G (.comp own t it ifs e) ρ) Q := by
  rw [ev_comp, hI]
  simp only [Rs.bind_ok]
  rw [go_bind]
  refine go_compL g I xs [] [] ρ1 h0 (fun p x q acc ρ e h => ?_) (fun acc ρ' h => by rw [go_ok]; exact hk acc ρ' h)
  refine (hs p x q acc ρ e h).imp fun ρ1 _ h1 => ?_
  rw [go_bind]
  refine h1.imp fun d ρ2 h2 => ?_
  obtain ⟨b, rfl, h3⟩ := h2
  exact ⟨b, ρ2, rfl, h3⟩
/-- .. without one: each turn makes one item -/
theorem go_map {α : Type} {own : List Nat} {t : Tg} {it : VL.It} {e : Ex} {Q : D → Rho → Prop} (g : α → D) (xs : List α) (I : List α → List D → Rho → Prop) {ρ1 : Rho} (hI : evalI G it ρ = .ok (xs.map g) ρ1) (hl : xs.length ≤ 16777216) (h0 : I [] [] ρ1)
    (hs : ∀ (p : List α) (x : α) (q : List α) (acc : List D) (ρ : Rho), xs = p ++ x :: q → acc.length = p.length → I p acc ρ → Go (Rs.of ρ (bindT t (g x) (wipeS ρ own))) fun ρ1 _ => Go (evalE G e ρ1) fun y ρ3 => I (p ++ [x]) (acc ++ [y]) ρ3)
    (hk : ∀ acc ρ', acc.length = xs.length → I xs acc ρ' → Q (.lst true acc) (backS ρ' ρ1 own)) : Go (evalE G (.comp own t it .nil e) ρ) Q := by
  refine go_comp g xs (fun p acc ρ => acc.length = p.length ∧ I p acc ρ) hI ⟨rfl, h0⟩ (fun p x q acc ρ e h => ?_) (fun acc ρ' h => hk acc ρ' h.1 h.2)
  refine (hs p x q acc ρ e h.1 h.2).imp fun ρ2 _ h1 => ?_
  rw [ea_nil, go_ok]
  refine ⟨true, rfl, ?_⟩
  rw [if_pos rfl]
  refine h1.imp fun y ρ3 h3 => ⟨?_, ?_, h3⟩
  · have := congrArg List.length e
    rw [List.length_append, List.length_cons] at this
    have := h.1
    omega
  · simp [h.1]
/-- behind a comprehension's source -/
def MapK (G : Calls) (own : List Nat) (t : Tg) (e : Ex) (Q : D → Rho → Prop) (ds : List D) (ρ1 : Rho) : Prop :=
  ∃ (α : Type) (g : α → D) (I : List α → List D → Rho → Prop) (xs : List α), ds = xs.map g ∧ xs.length ≤ 16777216 ∧ I [] [] ρ1 ∧
    (∀ (p : List α) (x : α) (q : List α) (acc : List D) (ρ : Rho), xs = p ++ x :: q → acc.length = p.length → I p acc ρ → Go (Rs.of ρ (bindT t (g x) (wipeS ρ own))) fun ρ1 _ => Go (evalE G e ρ1) fun y ρ3 => I (p ++ [x]) (acc ++ [y]) ρ3) ∧
    (∀ acc ρ', acc.length = xs.length → I xs acc ρ' → Q (.lst true acc) (backS ρ' ρ1 own))
theorem mapK {α : Type} {own : List Nat} {t : Tg} {e : Ex} {Q : D → Rho → Prop} {ds : List D} {ρ1 : Rho} (g : α → D) (xs : List α) (I : List α → List D → Rho → Prop) (hd : ds = xs.map g) (hl : xs.length ≤ 16777216) (h0 : I [] [] ρ1)
    (hs : ∀ (p : List α) (x : α) (q : List α) (acc : List D) (ρ : Rho), xs = p ++ x :: q → acc.length = p.length → I p acc ρ → ∀ I' : D → Rho → Prop, (∀ y ρ, I (p ++ [x]) (acc ++ [y]) ρ → I' y ρ) → Go (Rs.of ρ (bindT t (g x) (wipeS ρ own))) fun ρ1 _ => Go (evalE G e ρ1) I')
    (hk : ∀ acc ρ', acc.length = xs.length → I xs acc ρ' → Q (.lst true acc) (backS ρ' ρ1 own)) : MapK G own t e Q ds ρ1 := ⟨α, g, I, xs, hd, hl, h0, fun p x q acc ρ e hl h => hs p x q acc ρ e hl h _ fun _ _ h => h, hk⟩
theorem go_mapG {own : List Nat} {t : Tg} {it : VL.It} {e : Ex} {Q : D → Rho → Prop} (h : Go (evalI G it ρ) (MapK G own t e Q)) : Go (evalE G (.comp own t it .nil e) ρ) Q := by
  obtain ⟨ds, ρ1, h1, α, g, I, xs, rfl, hl, h0, hs, hk⟩ := h
  exact go_map g xs I h1 hl h0 hs hk
/-- behind a for's source -/
def ForK (G : Calls) (t : Tg) (b : Sms) (Q : Fl → Rho → Prop) (ds : List D) (ρ1 : Rho) : Prop :=
  ∃ (α : Type) (g : α → D) (I : List α → Rho → Prop) (xs : List α), ds = xs.map g ∧ I [] ρ1 ∧ (∀ (p : List α) (x : α) (q : List α) (ρ : Rho), xs = p ++ x :: q → I p ρ → Go (Rs.of ρ (bindT t (g x) ρ)) fun ρ1 _ => Go (execB G b ρ1) (TurnQ (I (p ++ [x])) Q)) ∧ (∀ ρ', I xs ρ' → Q .nx ρ')
theorem forK {α : Type} {t : Tg} {b : Sms} {Q : Fl → Rho → Prop} {ds : List D} {ρ1 : Rho} (g : α → D) (xs : List α) (I : List α → Rho → Prop) (hd : ds = xs.map g) (h0 : I [] ρ1)
    (hs : ∀ (p : List α) (x : α) (q : List α) (ρ : Rho), xs = p ++ x :: q → I p ρ → ∀ I' : Rho → Prop, (∀ ρ, I (p ++ [x]) ρ → I' ρ) → Go (Rs.of ρ (bindT t (g x) ρ)) fun ρ1 _ => Go (execB G b ρ1) (TurnQ I' Q)) (hk : ∀ ρ', I xs ρ' → Q .nx ρ') : ForK G t b Q ds ρ1 := ⟨α, g, I, xs, hd, h0, fun p x q ρ e h => hs p x q ρ e h _ fun _ h => h, hk⟩
theorem go_forG {t : Tg} {it : VL.It} {b : Sms} {Q : Fl → Rho → Prop} (h : Go (evalI G it ρ) (ForK G t b Q)) : Go (execS G (.for t it b) ρ) Q := by
  obtain ⟨ds, ρ1, h1, α, g, I, xs, hd, h0, hs, hk⟩ := h
  exact go_for g xs I ⟨ds, ρ1, h1, hd, h0⟩ hs hk
/-- a for over a list that stays one's own -/
theorem go_forKeep {i : Nat} {o : Bool} {ds : List D} {t : Tg} {b : Sms} {Q : Fl → Rho → Prop} (h1 : getS ρ i = some (.lst o ds)) (hF : D.isFL ds = true) (h : ForK G t b (fun f ρ' => Q f (putS ρ' i (.lst o ds))) ds (goneS ρ i)) : Go (execS G (.forK i t b) ρ) Q := by
  obtain ⟨α, g, I, xs, hd, h0, hs, hk⟩ := h
  subst hd
  have h2 := go_forL (bind := bindT t) (body := fun ρ => execB G b ρ) (Q := fun f ρ' => Q f (putS ρ' i (.lst o (xs.map g)))) g I xs [] (goneS ρ i) h0 hs hk
  have e : execS G (.forK i t b) ρ = (Rs.of ρ (getS ρ i)).bind fun d _ => (Rs.of ρ (lstOf d)).bind fun ds _ => (forL (bindT t) (fun ρ => execB G b ρ) ds (goneS ρ i)).bind fun f ρ' => .ok f (putS ρ' i d) := rfl
  rw [e, h1]
  have e2 : lstOf (.lst o (xs.map g)) = some (xs.map g) := if_pos hF
  simp only [Rs.of_some, Rs.bind_ok, e2, go_bind, go_ok]
  exact h2
theorem go_tg {t : Tg} {d : D} {ρ' : Rho} {K : Rho → Rho → Prop} (h : bindT t d ρ = some ρ') (k : K ρ' ρ) : Go (Rs.of ρ (bindT t d ρ)) K := by
  rw [h, Rs.of_some, go_ok]
  exact k
/-- a statement, what holds behind it, the others -/
theorem go_seq {s : Sm} {ss : Sms} {Q : Fl → Rho → Prop} (P : Rho → Prop) (h : ∀ P' : Rho → Prop, (∀ ρ, P ρ → P' ρ) → Go (execS G s ρ) fun f ρ' => f = .nx ∧ P' ρ') (k : ∀ ρ', P ρ' → Go (execB G ss ρ') Q) : Go (execB G (.cons s ss) ρ) Q := by
  rw [eb_cons, go_bind]
  refine (h P fun _ h => h).imp fun f ρ' h => ?_
  obtain ⟨rfl, h⟩ := h
  exact k ρ' h
/-! ### small facts -/
theorem clipN {n i : Nat} (h : i ≤ n) : clip n (i : Int) = i := by rw [clip_nat, Nat.min_eq_left h]
theorem prim_inS {α : Type} (x : List Nat) (o : Bool) (xs : List α) (f : α → List Nat) : prim .inn [.str x, .lst o (xs.map fun k => D.str (f k))] = some (.bl (xs.any fun k => decide (f k = x))) := by
  show (if (shal 8 (.str x) && shalL 7 (xs.map fun k => D.str (f k))) = true then some (D.bl ((xs.map fun k => D.str (f k)).any fun z => deqv z (.str x))) else none) = _
  have e : (xs.map fun k => D.str (f k)) = (xs.map f).map D.str := by simp [List.map_map, Function.comp_def]
  rw [e, shalL_strs, shal_str, Bool.and_self, if_pos rfl, ← e, List.any_map]
  rfl
theorem range_pre {n : Nat} {p q : List Nat} {x : Nat} (h : List.range n = p ++ x :: q) : x = p.length ∧ p = List.range x ∧ x < n := by
  have hl := congrArg List.length h
  simp at hl
  have hx : x = p.length := by
    have h1 : (List.range n)[p.length]? = some x := by rw [h, List.getElem?_append_right (Nat.le_refl _)]; simp
    rw [List.getElem?_range (by omega)] at h1
    exact (Option.some.inj h1).symm
  refine ⟨hx, ?_, by omega⟩
  have h2 : (List.range n).take p.length = p := by rw [h, List.take_left']; rfl
  rw [List.take_range, Nat.min_eq_left (by omega)] at h2
  rw [hx]
  exact h2.symm
theorem rngN (n : Nat) : (rng2 0 (n : Int)).map D.int = (List.range n).map fun k : Nat => D.int k := by
  simp [rng0, List.map_map, Function.comp_def]
theorem asBls_true {α : Type} (xs : List α) : prim .all [.lst true (xs.map fun _ => D.bl true)] = some (.bl true) := by
  rw [pm_34]
  have : (xs.map fun _ => D.bl true) = (xs.map fun _ => true).map D.bl := by simp [List.map_map, Function.comp_def]
  rw [this, asBls_map]
  simp
theorem idx_tup {xs : List D} (hF : D.isFL xs = true) (i : Nat) (x : D) (h : xs[i]? = some x) : prim .idx [.tup xs, .int (i : Int)] = some x := by
  obtain ⟨h1, h2⟩ := List.getElem?_eq_some_iff.mp h
  have hx : x.isF = true := isFL_get hF h
  simp only [pm_38, pm_39, ixAt_nat h1, h, Option.bind_some, hx, if_true]
theorem idx_lst {o : Bool} {xs : List D} (hF : D.isFL xs = true) (i : Nat) (x : D) (h : xs[i]? = some x) : prim .idx [.lst o xs, .int (i : Int)] = some x := by
  obtain ⟨h1, h2⟩ := List.getElem?_eq_some_iff.mp h
  have hx : x.isF = true := isFL_get hF h
  simp only [pm_38, pm_39, ixAt_nat h1, h, Option.bind_some, hx, if_true]
theorem ixAt_neg {n : Nat} (h : 0 < n) : ixAt n (-1) = some (n - 1) := by
  unfold ixAt
  rw [if_neg (by omega), if_pos (by omega)]
  congr 1
  omega
/-! ### draws -/
def Draws (G : Calls) (i : Nat) : Prop := ∀ d, Feed d → ∀ m : Int, 0 < m → m < 1073741824 → ∃ r d', 0 ≤ r ∧ r < m ∧ Feed d' ∧ G i [d, .int m] = .ok (.int r) [some d', some (.int m)]
theorem Feed.flat {d : D} (h : Feed d) : d.flat = false := by obtain ⟨ns, a, b, c, rfl, _⟩ := h; rfl
theorem go_draw {i : Nat} (hD : Draws G i) {f : D} {m : Int} {Q : D → List (Option D) → Prop} (hf : Feed f) (h0 : 0 < m) (h1 : m < 1073741824) (k : ∀ r f', 0 ≤ r → r < m → Feed f' → Q (.int r) [some f', some (.int m)]) : Go (G i [f, .int m]) Q := by
  obtain ⟨r, f', r0, r1, hf', h⟩ := hD f hf m h0 h1
  exact ⟨_, _, h, k r f' r0 r1 hf'⟩
/-- .. of a number told as a Nat -/
theorem go_drawN {i : Nat} (hD : Draws G i) {f : D} {m : Nat} {Q : D → List (Option D) → Prop} (hf : Feed f) (h0 : 0 < m) (h1 : m < 1073741824) (k : ∀ (r : Nat) f', r < m → Feed f' → Q (.int r) [some f', some (.int m)]) : Go (G i [f, .int m]) Q := by
  refine go_draw hD hf (by omega) (by omega) fun r f' r0 r1 hf' => ?_
  obtain ⟨n, rfl⟩ := Int.eq_ofNat_of_zero_le r0
  exact k n f' (by omega) hf'
end
end VL

/-! VL26: lists of natural numbers, words, dicts by letters. -/
namespace VL
open PySem PySem.Spec PyProof.Rows L2
section
variable {G : Calls} {P : List Nat} {o : Bool} {top bot ls : List Nat}
/-- a list of natural numbers as a function -/
def fn (P : List Nat) (x : Nat) : Nat := (P[x]?).getD 0
def nats (P : List Nat) : List D := P.map fun x : Nat => D.int x
theorem nats_len (P : List Nat) : (nats P).length = P.length := by simp [nats]
theorem nats_F (P : List Nat) : D.isFL (nats P) = true := isFL_of fun x hx => by
  obtain ⟨y, _, rfl⟩ := List.mem_map.mp hx
  rfl
theorem nats_get (P : List Nat) (x : Nat) : (nats P)[x]? = (P[x]?).map fun y : Nat => D.int y := by simp [nats]
theorem idx_nats {x : Nat} (h : x < P.length) : prim .idx [.lst o (nats P), .int (x : Int)] = some (.int (fn P x : Nat)) := by
  refine idx_lst (nats_F P) x _ ?_
  rw [nats_get]
  unfold fn
  rw [List.getElem?_eq_getElem h]
  rfl
theorem fn_lt (hP : ∀ y ∈ P, y < P.length) : ∀ x, x < P.length → fn P x < P.length := fun x hx => by
  unfold fn
  rw [List.getElem?_eq_getElem hx]
  exact hP _ (List.getElem_mem hx)
def metD (n : Nat) (met : Nat → Bool) : List D := (List.range n).map fun i => D.bl (met i)
theorem metD_len (n : Nat) (met : Nat → Bool) : (metD n met).length = n := by simp [metD]
theorem metD_F (n : Nat) (met : Nat → Bool) : D.isFL (metD n met) = true := isFL_of fun x hx => by
  obtain ⟨y, _, rfl⟩ := List.mem_map.mp hx
  rfl
theorem metD_congr {n : Nat} {b c : Nat → Bool} (h : ∀ m, m < n → b m = c m) : metD n b = metD n c := by
  unfold metD
  apply List.map_congr_left
  intro a ha
  rw [h a (List.mem_range.mp ha)]
theorem metD_set {n : Nat} {b : Nat → Bool} {j : Nat} (h : j < n) : (metD n b).set j (.bl true) = metD n (fun i => b i || decide (j = i)) := by
  apply List.ext_getElem?
  intro i
  rw [List.getElem?_set]
  unfold metD
  by_cases e : j = i
  · subst e
    simp [h]
  · rw [if_neg e]
    by_cases hi : i < n
    · simp [hi, e]
    · rw [List.getElem?_eq_none (by simp; omega), List.getElem?_eq_none (by simp; omega)]
theorem idx_met {n : Nat} {b : Nat → Bool} {j : Nat} (h : j < n) : prim .idx [.lst o (metD n b), .int (j : Int)] = some (.bl (b j)) := by
  refine idx_lst (metD_F n b) j _ ?_
  simp [metD, h]
theorem seti_met {n : Nat} {b : Nat → Bool} {j : Nat} (h : j < n) : mutL .setI (metD n b) [.int (j : Int), .bl true] = some (.non, metD n (fun i => b i || decide (j = i))) := by
  rw [mt_setI', metD_len, ixAt_nat h]
  simp only [Option.map_some]
  rw [metD_set h]
theorem met_rep (n : Nat) : List.replicate n (D.bl false) = metD n (fun _ => false) := by
  unfold metD
  rw [List.map_const']
  simp
theorem met_false (n : Nat) : (List.replicate n [D.bl false]).flatten = metD n (fun _ => false) := by
  unfold metD
  rw [List.map_const']
  simp
theorem firstAt_mid {a b : List Nat} {c : Nat} (h : c ∉ a) : firstAt [c] (a ++ c :: b) = some a.length := by
  unfold firstAt
  rw [List.find?_range_eq_some]
  refine ⟨?_, ?_, ?_⟩
  · simp
  · simp; omega
  · intro j hj
    have : (a ++ c :: b)[j]? = some a[j] := by rw [List.getElem?_append_left hj, List.getElem?_eq_getElem hj]
    have h2 : a[j] ≠ c := fun z => h (z ▸ List.getElem_mem hj)
    simp only [Bool.not_eq_true', decide_eq_false_iff_not]
    intro z
    have h3 : ((a ++ c :: b).drop j)[0]? = some c := by
      have := congrArg (fun l => l[0]?) z
      simpa using this
    rw [List.getElem?_drop, Nat.add_zero, this] at h3
    exact h2 (Option.some.inj h3)
def pos (top : List Nat) (c : Nat) : Nat := (firstAt [c] top).getD 0
theorem split_of_mem {top : List Nat} {c : Nat} (h : c ∈ top) : ∃ a b, c ∉ a ∧ top = a ++ c :: b := by
  induction top with
  | nil => cases h
  | cons d t ih =>
    by_cases e : d = c
    · subst e
      exact ⟨[], t, by simp, rfl⟩
    · have h' : c ∈ t := by
        rcases List.mem_cons.mp h with h | h
        · exact absurd h.symm e
        · exact h
      obtain ⟨a, b, h1, h2⟩ := ih h'
      refine ⟨d :: a, b, ?_, by rw [h2]; rfl⟩
      intro z
      rcases List.mem_cons.mp z with z | z
      · exact e z.symm
      · exact h1 z
theorem pos_mem {c : Nat} (h : c ∈ top) : firstAt [c] top = some (pos top c) ∧ pos top c < top.length ∧ top[pos top c]? = some c := by
  obtain ⟨a, b, h1, rfl⟩ := split_of_mem h
  unfold pos
  rw [firstAt_mid h1]
  simp
theorem pos_get (hn : top.Nodup) {a c : Nat} (h : top[a]? = some c) : pos top c = a := by
  obtain ⟨h1, h2, h3⟩ := pos_mem (List.mem_of_getElem? h)
  obtain ⟨h4, h5⟩ := List.getElem?_eq_some_iff.mp h
  obtain ⟨h6, h7⟩ := List.getElem?_eq_some_iff.mp h3
  have hp := List.pairwise_iff_getElem.mp hn
  rcases Nat.lt_trichotomy (pos top c) a with h | h | h
  · exact absurd (h7.trans h5.symm) (hp _ _ h6 h4 h)
  · exact h
  · exact absurd (h5.trans h7.symm) (hp _ _ h4 h6 h)
def kOf (c : Nat) : Key := .inr ⟨[c].toArray⟩
theorem kOf_inj {c d : Nat} (h : kOf c = kOf d) : c = d := by
  unfold kOf at h
  simp at h
  exact h
theorem keyOf_chr (c : Nat) : keyOf (.str [c]) = some (kOf c) := rfl
theorem put_new {pre : List Nat} {c : Nat} {d : D} {xs : List D} (h : c ∉ pre) : putKV (kOf c) d (pre.map kOf) xs = (pre.map kOf ++ [kOf c], xs ++ [d]) := by
  unfold putKV
  rw [if_neg]
  rw [List.any_eq_true]
  rintro ⟨k, h1, h2⟩
  obtain ⟨e, h3, rfl⟩ := List.mem_map.mp h1
  exact h (kOf_inj (of_decide_eq_true h2) ▸ h3)
theorem look_map {f : Nat → D} {c : Nat} : ∀ {l : List Nat}, c ∈ l → lookKV (kOf c) (l.map kOf) (l.map f) = some (f c)
  | d :: l, h => by
    show (if kOf d = kOf c then some (f d) else lookKV (kOf c) (l.map kOf) (l.map f)) = _
    by_cases e : d = c
    · subst e
      rw [if_pos rfl]
    · rw [if_neg (fun z => e (kOf_inj z))]
      apply look_map
      rcases List.mem_cons.mp h with h | h
      · exact absurd h.symm e
      · exact h
theorem dget_map {f : Nat → Nat} {c : Nat} {l : List Nat} {o : Bool} (h : c ∈ l) : prim .dget [.dct o (l.map kOf) (l.map fun c => D.int (f c : Nat)), .str [c]] = some (.int (f c : Nat)) := by
  show (keyOf (.str [c])).bind (fun k => (lookKV k (l.map kOf) (l.map fun c => D.int (f c : Nat))).bind fun d => if d.isF = true then some d else none) = _
  rw [keyOf_chr]
  simp only [Option.bind_some]
  rw [look_map h]
  rfl
theorem sindex_chr {c : Nat} (h : c ∈ top) : prim .sindex [.str top, .str [c]] = some (.int (pos top c : Nat)) := by
  show (firstAt [c] top).map (fun k => D.int (k : Nat)) = _
  rw [(pos_mem h).1]
  rfl
theorem idx_str {x : List Nat} {i : Nat} (h : i < x.length) : prim .idx [.str x, .int (i : Int)] = some (.str [x[i]]) := by
  rw [pm_40, ixAt_nat h]
  simp only [Option.bind_some, List.getElem?_eq_getElem h, Option.map_some]
theorem mem_le_sum : ∀ {l : List Nat} {x : Nat}, x ∈ l → x ≤ l.sum
  | y :: l, x, h => by
    rw [List.sum_cons]
    rcases List.mem_cons.mp h with rfl | h
    · omega
    · have := mem_le_sum h
      omega
theorem add_nats {A B : List Nat} {o p : Bool} (h : A.length + B.length ≤ 16777216) : prim .add [.lst o (nats A), .lst p (nats B)] = some (.lst true (nats (A ++ B))) := by
  rw [pm_3, nats_F, nats_F, Bool.and_self, if_pos rfl, nats_len, nats_len, if_pos h]
  simp [nats]
theorem joinS_nil : ∀ ys : List (List Nat), joinS [] ys = ys.flatten
  | [] => rfl
  | [x] => by simp [joinS]
  | x :: y :: r => by rw [joinS, joinS_nil (y :: r)]; simp
theorem join_strs {ys : List (List Nat)} {o : Bool} (h : (ys.map List.length).sum ≤ 16777216) : prim .join [.str [], .lst o (ys.map D.str)] = some (.str ys.flatten) := by
  show (asStrs (ys.map D.str)).bind (fun zs => if (zs.map List.length).sum + zs.length * ([] : List Nat).length ≤ 16777216 then some (D.str (joinS [] zs)) else none) = _
  rw [asStrs_map]
  simp only [Option.bind_some, List.length_nil, Nat.mul_zero, Nat.add_zero, if_pos h, joinS_nil]
theorem mul_str {c : List Nat} {n : Nat} (h : c.length * n ≤ 16777216) (h2 : n ≤ 100000000000) : prim .mul [.str c, .int (n : Int)] = some (.str (List.replicate n c).flatten) := by
  rw [pm_6, small_nat h2]
  simp [h]
theorem rep_flat (n c : Nat) : (List.replicate n [c]).flatten = List.replicate n c := by
  induction n with
  | zero => rfl
  | succ n ih => rw [List.replicate_succ, List.flatten_cons, ih]; rfl
theorem nats_snoc (ls : List Nat) (x : Nat) : nats ls ++ [D.int (x : Int)] = nats (ls ++ [x]) := by simp [nats]
theorem map_erase {α β : Type} (f : α → β) : ∀ (l : List α) (r : Nat), (l.map f).eraseIdx r = (l.eraseIdx r).map f
  | [], _ => by simp
  | x :: l, 0 => rfl
  | x :: l, r + 1 => by simp [List.eraseIdx, map_erase f l r]
theorem perm_erase {α : Type} : ∀ (l : List α) (r : Nat) (h : r < l.length), (l[r] :: l.eraseIdx r).Perm l
  | x :: l, 0, h => by simp
  | x :: l, r + 1, h => by
    have := perm_erase l r (by simpa using h)
    simp only [List.getElem_cons_succ, List.eraseIdx_cons_succ]
    exact (List.Perm.swap _ _ _).trans (this.cons x)
/-- a drawn word of one or two that read the same backwards -/
theorem flat_chr (cs : List Nat) : (cs.map fun c => [c]).flatten = cs := by
  induction cs with
  | nil => rfl
  | cons c cs ih => simp [ih]
theorem join_chr {cs : List Nat} {o : Bool} (h : cs.length ≤ 16777216) : prim .join [.str [], .lst o (cs.map fun c => D.str [c])] = some (.str cs) := by
  have hcs : (cs.map fun c => D.str [c]) = (cs.map fun c => [c]).map D.str := by simp [List.map_map, Function.comp_def]
  have hj := join_strs (o := o) (ys := cs.map fun c => [c]) (by rw [← List.length_flatten, flat_chr]; exact h)
  rw [flat_chr, ← hcs] at hj
  exact hj
theorem sum_perm {l m : List Nat} (h : l.Perm m) : l.sum = m.sum := by
  induction h with
  | nil => rfl
  | cons x _ ih => simp [ih]
  | swap x y l => simp; omega
  | trans _ _ ih1 ih2 => rw [ih1, ih2]
theorem idx_strN {x : List Nat} {i : Nat} (h : i < x.length) : prim .idx [.str x, .int (i : Int)] = some (.str [fn x i]) := by
  rw [idx_str h]
  unfold fn
  rw [List.getElem?_eq_getElem h]
  rfl
theorem sum_le : ∀ {ls : List Nat} {m : Nat}, (∀ l ∈ ls, l ≤ m) → ls.sum ≤ ls.length * m
  | [], m, _ => by simp
  | l :: ls, m, h => by
    have h1 := sum_le (ls := ls) (m := m) fun x hx => h x (List.mem_cons_of_mem _ hx)
    have h2 := h l (List.mem_cons_self ..)
    rw [List.sum_cons, List.length_cons, Nat.succ_mul]
    omega
theorem map_fn_perm {top ord : List Nat} (h : ord.Perm (List.range top.length)) : (ord.map (fn top)).Perm top := by
  have h1 := h.map (fn top)
  have h2 : (List.range top.length).map (fn top) = top := by
    apply List.ext_getElem (by simp)
    intro i a b
    simp [fn, b]
  rwa [h2] at h1
end
end VL

namespace VL
open PySem PySem.Spec PyProof.Rows L2
def topS (i : Nat) : Stmt := PySem.Challenge.pw_turnedstretches_k71_whole_ways_and_squar.main.body.getD i (.Pass ⟨0, 0, 0, 0⟩)
def d0 : Df := ⟨1, 5, [], (.cons (.unp (.tp (.nm 3) (.tp (.nm 4) .en)) (.tup (.cons (.cst (.int 0)) (.cons (.cst (.int 0)) .nil)))) (.cons (.asg 1 (.lst (.cons (.frz (.tup (.cons (.var 3) (.cons (.var 4) .nil)))) .nil))) (.cons (.for (.nm 2) (.val (.var 0)) (.cons (.ifs (.prm .eq (.cons (.pk 2) (.cons (.glb "RIGHT" (.str [97])) .nil))) (.cons (.aug 3 .add (.cst (.int 1))) .nil) (.cons (.aug 4 .add (.cst (.int 1))) .nil)) (.cons (.exp (.mut .append 1 (.cons (.frz (.tup (.cons (.var 3) (.cons (.var 4) .nil)))) .nil))) .nil))) (.cons (.ret (.mov 1)) .nil))))⟩
theorem b0 : d0.body = (.cons (.unp (.tp (.nm 3) (.tp (.nm 4) .en)) (.tup (.cons (.cst (.int 0)) (.cons (.cst (.int 0)) .nil)))) (.cons (.asg 1 (.lst (.cons (.frz (.tup (.cons (.var 3) (.cons (.var 4) .nil)))) .nil))) (.cons (.for (.nm 2) (.val (.var 0)) (.cons (.ifs (.prm .eq (.cons (.pk 2) (.cons (.glb "RIGHT" (.str [97])) .nil))) (.cons (.aug 3 .add (.cst (.int 1))) .nil) (.cons (.aug 4 .add (.cst (.int 1))) .nil)) (.cons (.exp (.mut .append 1 (.cons (.frz (.tup (.cons (.var 3) (.cons (.var 4) .nil)))) .nil))) .nil))) (.cons (.ret (.mov 1)) .nil)))) := rfl
def d1 : Df := ⟨1, 4, [], (.cons (.ret (.prm .sum (.cons (.comp [1, 2, 3] (.tp (.nm 1) (.tp (.tp (.nm 2) (.tp (.nm 3) .en)) .en)) (.zipS (.var 0) (.call 0 (.cons (.pk 0) .nil))) (.cons (.prm .eq (.cons (.pk 1) (.cons (.glb "RIGHT" (.str [97])) .nil))) .nil) (.var 3)) .nil))) .nil)⟩
theorem b1 : d1.body = (.cons (.ret (.prm .sum (.cons (.comp [1, 2, 3] (.tp (.nm 1) (.tp (.tp (.nm 2) (.tp (.nm 3) .en)) .en)) (.zipS (.var 0) (.call 0 (.cons (.pk 0) .nil))) (.cons (.prm .eq (.cons (.pk 1) (.cons (.glb "RIGHT" (.str [97])) .nil))) .nil) (.var 3)) .nil))) .nil) := rfl
def d2 : Df := ⟨1, 6, [], (.cons (.asg 1 (.call 0 (.cons (.pk 0) .nil))) (.cons (.unp (.tp (.nm 2) (.tp (.nm 3) .en)) (.prm .idx (.cons (.pk 1) (.cons (.prm .neg (.cons (.cst (.int 1)) .nil)) .nil)))) (.cons (.ret (.prm .max1 (.cons (.comp [4, 5] (.tp (.nm 4) (.tp (.nm 5) .en)) (.val (.var 1)) .nil (.prm .abs (.cons (.prm .sub (.cons (.prm .mul (.cons (.pk 4) (.cons (.pk 3) .nil))) (.cons (.prm .mul (.cons (.pk 5) (.cons (.pk 2) .nil))) .nil))) .nil))) .nil))) .nil)))⟩
theorem b2 : d2.body = (.cons (.asg 1 (.call 0 (.cons (.pk 0) .nil))) (.cons (.unp (.tp (.nm 2) (.tp (.nm 3) .en)) (.prm .idx (.cons (.pk 1) (.cons (.prm .neg (.cons (.cst (.int 1)) .nil)) .nil)))) (.cons (.ret (.prm .max1 (.cons (.comp [4, 5] (.tp (.nm 4) (.tp (.nm 5) .en)) (.val (.var 1)) .nil (.prm .abs (.cons (.prm .sub (.cons (.prm .mul (.cons (.pk 4) (.cons (.pk 3) .nil))) (.cons (.prm .mul (.cons (.pk 5) (.cons (.pk 2) .nil))) .nil))) .nil))) .nil))) .nil))) := rfl
def d3 : Df := ⟨1, 1, [], (.cons (.ret (.lst (.cons (.frz (.prm .toList (.cons (.pk 0) .nil))) (.cons (.cst (.int 0)) (.cons (.cst (.int 0)) (.cons (.cst (.int 1)) .nil)))))) .nil)⟩
theorem b3 : d3.body = (.cons (.ret (.lst (.cons (.frz (.prm .toList (.cons (.pk 0) .nil))) (.cons (.cst (.int 0)) (.cons (.cst (.int 0)) (.cons (.cst (.int 1)) .nil)))))) .nil) := rfl
def d4 : Df := ⟨2, 5, [], (.cons (.ifs (.and (.cons (.prm .eq (.cons (.prm .idx (.cons (.pk 0) (.cons (.cst (.int 2)) .nil))) (.cons (.cst (.int 0)) .nil))) (.cons (.prm .lt (.cons (.prm .idx (.cons (.pk 0) (.cons (.cst (.int 1)) .nil))) (.cons (.prm .len (.cons (.prm .idx (.cons (.pk 0) (.cons (.cst (.int 0)) .nil))) .nil)) .nil))) .nil))) (.cons (.asg 3 (.prm .abs (.cons (.prm .toInt (.cons (.prm .idx (.cons (.prm .idx (.cons (.pk 0) (.cons (.cst (.int 0)) .nil))) (.cons (.prm .idx (.cons (.pk 0) (.cons (.cst (.int 1)) .nil))) .nil))) .nil)) .nil))) (.cons (.augi 0 (.cst (.int 1)) .add (.cst (.int 1))) (.cons (.ifs (.prm .ge (.cons (.pk 3) (.cons (.prm .pow (.cons (.cst (.int 10)) (.cons (.cst (.int 18)) .nil))) .nil))) (.cons (.seti 0 (.cst (.int 2)) (.var 3)) .nil) (.cons (.seti 0 (.cst (.int 3)) (.prm .mod (.cons (.prm .toInt (.cons (.prm .add (.cons (.prm .add (.cons (.prm .mul (.cons (.prm .idx (.cons (.pk 0) (.cons (.cst (.int 3)) .nil))) (.cons (.cst (.int 48271)) .nil))) (.cons (.prm .mul (.cons (.pk 3) (.cons (.cst (.int 69621)) .nil))) .nil))) (.cons (.prm .idx (.cons (.pk 0) (.cons (.cst (.int 1)) .nil))) .nil))) .nil)) (.cons (.cst (.int 2147483647)) .nil)))) .nil)) .nil))) .nil) (.cons (.ifs (.prm .gt (.cons (.prm .idx (.cons (.pk 0) (.cons (.cst (.int 2)) .nil))) (.cons (.cst (.int 0)) .nil))) (.cons (.asg 4 (.prm .mod (.cons (.prm .toInt (.cons (.prm .idx (.cons (.pk 0) (.cons (.cst (.int 2)) .nil))) .nil)) (.cons (.pk 1) .nil)))) (.cons (.seti 0 (.cst (.int 2)) (.prm .fdiv (.cons (.prm .idx (.cons (.pk 0) (.cons (.cst (.int 2)) .nil))) (.cons (.pk 1) .nil)))) (.cons (.ret (.mov 4)) .nil))) .nil) (.cons (.seti 0 (.cst (.int 3)) (.prm .mod (.cons (.prm .toInt (.cons (.prm .add (.cons (.prm .mul (.cons (.prm .idx (.cons (.pk 0) (.cons (.cst (.int 3)) .nil))) (.cons (.cst (.int 16807)) .nil))) (.cons (.cst (.int 12345)) .nil))) .nil)) (.cons (.cst (.int 2147483647)) .nil)))) (.cons (.asg 2 (.prm .mod (.cons (.prm .toInt (.cons (.prm .add (.cons (.prm .mul (.cons (.prm .idx (.cons (.pk 0) (.cons (.cst (.int 3)) .nil))) (.cons (.prm .idx (.cons (.pk 0) (.cons (.cst (.int 3)) .nil))) .nil))) (.cons (.prm .idx (.cons (.pk 0) (.cons (.cst (.int 3)) .nil))) .nil))) .nil)) (.cons (.cst (.int 2147483629)) .nil)))) (.cons (.ret (.prm .mod (.cons (.prm .fdiv (.cons (.pk 2) (.cons (.cst (.int 11)) .nil))) (.cons (.pk 1) .nil)))) .nil)))))⟩
theorem b4 : d4.body = (.cons (.ifs (.and (.cons (.prm .eq (.cons (.prm .idx (.cons (.pk 0) (.cons (.cst (.int 2)) .nil))) (.cons (.cst (.int 0)) .nil))) (.cons (.prm .lt (.cons (.prm .idx (.cons (.pk 0) (.cons (.cst (.int 1)) .nil))) (.cons (.prm .len (.cons (.prm .idx (.cons (.pk 0) (.cons (.cst (.int 0)) .nil))) .nil)) .nil))) .nil))) (.cons (.asg 3 (.prm .abs (.cons (.prm .toInt (.cons (.prm .idx (.cons (.prm .idx (.cons (.pk 0) (.cons (.cst (.int 0)) .nil))) (.cons (.prm .idx (.cons (.pk 0) (.cons (.cst (.int 1)) .nil))) .nil))) .nil)) .nil))) (.cons (.augi 0 (.cst (.int 1)) .add (.cst (.int 1))) (.cons (.ifs (.prm .ge (.cons (.pk 3) (.cons (.prm .pow (.cons (.cst (.int 10)) (.cons (.cst (.int 18)) .nil))) .nil))) (.cons (.seti 0 (.cst (.int 2)) (.var 3)) .nil) (.cons (.seti 0 (.cst (.int 3)) (.prm .mod (.cons (.prm .toInt (.cons (.prm .add (.cons (.prm .add (.cons (.prm .mul (.cons (.prm .idx (.cons (.pk 0) (.cons (.cst (.int 3)) .nil))) (.cons (.cst (.int 48271)) .nil))) (.cons (.prm .mul (.cons (.pk 3) (.cons (.cst (.int 69621)) .nil))) .nil))) (.cons (.prm .idx (.cons (.pk 0) (.cons (.cst (.int 1)) .nil))) .nil))) .nil)) (.cons (.cst (.int 2147483647)) .nil)))) .nil)) .nil))) .nil) (.cons (.ifs (.prm .gt (.cons (.prm .idx (.cons (.pk 0) (.cons (.cst (.int 2)) .nil))) (.cons (.cst (.int 0)) .nil))) (.cons (.asg 4 (.prm .mod (.cons (.prm .toInt (.cons (.prm .idx (.cons (.pk 0) (.cons (.cst (.int 2)) .nil))) .nil)) (.cons (.pk 1) .nil)))) (.cons (.seti 0 (.cst (.int 2)) (.prm .fdiv (.cons (.prm .idx (.cons (.pk 0) (.cons (.cst (.int 2)) .nil))) (.cons (.pk 1) .nil)))) (.cons (.ret (.mov 4)) .nil))) .nil) (.cons (.seti 0 (.cst (.int 3)) (.prm .mod (.cons (.prm .toInt (.cons (.prm .add (.cons (.prm .mul (.cons (.prm .idx (.cons (.pk 0) (.cons (.cst (.int 3)) .nil))) (.cons (.cst (.int 16807)) .nil))) (.cons (.cst (.int 12345)) .nil))) .nil)) (.cons (.cst (.int 2147483647)) .nil)))) (.cons (.asg 2 (.prm .mod (.cons (.prm .toInt (.cons (.prm .add (.cons (.prm .mul (.cons (.prm .idx (.cons (.pk 0) (.cons (.cst (.int 3)) .nil))) (.cons (.prm .idx (.cons (.pk 0) (.cons (.cst (.int 3)) .nil))) .nil))) (.cons (.prm .idx (.cons (.pk 0) (.cons (.cst (.int 3)) .nil))) .nil))) .nil)) (.cons (.cst (.int 2147483629)) .nil)))) (.cons (.ret (.prm .mod (.cons (.prm .fdiv (.cons (.pk 2) (.cons (.cst (.int 11)) .nil))) (.cons (.pk 1) .nil)))) .nil))))) := rfl
def d5 : Df := ⟨1, 1, [], (.cons (.ret (.and (.cons (.prm (.isI .int) (.cons (.pk 0) .nil)) (.cons (.not (.prm (.isI .bool) (.cons (.pk 0) .nil))) .nil)))) .nil)⟩
theorem b5 : d5.body = (.cons (.ret (.and (.cons (.prm (.isI .int) (.cons (.pk 0) .nil)) (.cons (.not (.prm (.isI .bool) (.cons (.pk 0) .nil))) .nil)))) .nil) := rfl
def d6 : Df := ⟨2, 4, [], (.cons (.asg 2 (.prm .add (.cons (.pk 0) (.cons (.pk 1) .nil)))) (.cons (.ret (.prm .join (.cons (.ckS (.cst (.str []))) (.cons (.comp [3] (.nm 3) (.rng1 (.var 2)) .nil (.frz (.ife (.prm .gt (.cons (.prm .fdiv (.cons (.prm .mul (.cons (.pk 1) (.cons (.prm .add (.cons (.pk 3) (.cons (.cst (.int 1)) .nil))) .nil))) (.cons (.pk 2) .nil))) (.cons (.prm .fdiv (.cons (.prm .mul (.cons (.pk 1) (.cons (.pk 3) .nil))) (.cons (.pk 2) .nil))) .nil))) (.cst (.str [98])) (.cst (.str [97]))))) .nil)))) .nil))⟩
theorem b6 : d6.body = (.cons (.asg 2 (.prm .add (.cons (.pk 0) (.cons (.pk 1) .nil)))) (.cons (.ret (.prm .join (.cons (.ckS (.cst (.str []))) (.cons (.comp [3] (.nm 3) (.rng1 (.var 2)) .nil (.frz (.ife (.prm .gt (.cons (.prm .fdiv (.cons (.prm .mul (.cons (.pk 1) (.cons (.prm .add (.cons (.pk 3) (.cons (.cst (.int 1)) .nil))) .nil))) (.cons (.pk 2) .nil))) (.cons (.prm .fdiv (.cons (.prm .mul (.cons (.pk 1) (.cons (.pk 3) .nil))) (.cons (.pk 2) .nil))) .nil))) (.cst (.str [98])) (.cst (.str [97]))))) .nil)))) .nil)) := rfl
def d7 : Df := ⟨2, 3, [0, 1], (.cons (.for (.nm 2) (.rng1 (.cst (.int 200))) (.cons (.ifs (.prm .gt (.cons (.pk 1) (.cons (.cst (.int 0)) .nil))) (.cons (.par 0 1 (.var 1) (.prm .mod (.cons (.prm .toInt (.cons (.pk 0) .nil)) (.cons (.pk 1) .nil)))) .nil) .nil) .nil)) (.cons (.ret (.var 0)) .nil))⟩
theorem b7 : d7.body = (.cons (.for (.nm 2) (.rng1 (.cst (.int 200))) (.cons (.ifs (.prm .gt (.cons (.pk 1) (.cons (.cst (.int 0)) .nil))) (.cons (.par 0 1 (.var 1) (.prm .mod (.cons (.prm .toInt (.cons (.pk 0) .nil)) (.cons (.pk 1) .nil)))) .nil) .nil) .nil)) (.cons (.ret (.var 0)) .nil)) := rfl
def d8 : Df := ⟨2, 5, [], (.cons (.asg 2 (.call 4 (.cons (.pk 0) (.cons (.cst (.int 3)) .nil)))) (.cons (.ifs (.prm .eq (.cons (.pk 2) (.cons (.cst (.int 0)) .nil))) (.cons (.asg 3 (.cst (.str []))) (.cons (.for (.nm 4) (.rng1 (.call 4 (.cons (.pk 0) (.cons (.cst (.int 7)) .nil)))) (.cons (.asg 3 (.prm .add (.cons (.pk 3) (.cons (.prm .mul (.cons (.prm .idx (.cons (.cst (.str [97, 98])) (.cons (.call 4 (.cons (.pk 0) (.cons (.cst (.int 2)) .nil))) .nil))) (.cons (.prm .add (.cons (.cst (.int 1)) (.cons (.call 4 (.cons (.pk 0) (.cons (.cst (.int 9)) .nil))) .nil))) .nil))) .nil)))) .nil)) (.cons (.ret (.prm .slH (.cons (.pk 3) (.cons (.ckI (.var 1)) .nil)))) .nil))) .nil) (.cons (.ret (.prm .join (.cons (.ckS (.cst (.str []))) (.cons (.comp [4] (.nm 4) (.rng1 (.call 4 (.cons (.pk 0) (.cons (.prm .add (.cons (.pk 1) (.cons (.cst (.int 1)) .nil))) .nil)))) .nil (.prm .idx (.cons (.cst (.str [97, 98])) (.cons (.call 4 (.cons (.pk 0) (.cons (.cst (.int 2)) .nil))) .nil)))) .nil)))) .nil)))⟩
theorem b8 : d8.body = (.cons (.asg 2 (.call 4 (.cons (.pk 0) (.cons (.cst (.int 3)) .nil)))) (.cons (.ifs (.prm .eq (.cons (.pk 2) (.cons (.cst (.int 0)) .nil))) (.cons (.asg 3 (.cst (.str []))) (.cons (.for (.nm 4) (.rng1 (.call 4 (.cons (.pk 0) (.cons (.cst (.int 7)) .nil)))) (.cons (.asg 3 (.prm .add (.cons (.pk 3) (.cons (.prm .mul (.cons (.prm .idx (.cons (.cst (.str [97, 98])) (.cons (.call 4 (.cons (.pk 0) (.cons (.cst (.int 2)) .nil))) .nil))) (.cons (.prm .add (.cons (.cst (.int 1)) (.cons (.call 4 (.cons (.pk 0) (.cons (.cst (.int 9)) .nil))) .nil))) .nil))) .nil)))) .nil)) (.cons (.ret (.prm .slH (.cons (.pk 3) (.cons (.ckI (.var 1)) .nil)))) .nil))) .nil) (.cons (.ret (.prm .join (.cons (.ckS (.cst (.str []))) (.cons (.comp [4] (.nm 4) (.rng1 (.call 4 (.cons (.pk 0) (.cons (.prm .add (.cons (.pk 1) (.cons (.cst (.int 1)) .nil))) .nil)))) .nil (.prm .idx (.cons (.cst (.str [97, 98])) (.cons (.call 4 (.cons (.pk 0) (.cons (.cst (.int 2)) .nil))) .nil)))) .nil)))) .nil))) := rfl
def d9 : Df := ⟨1, 2, [], (.cons (.ret (.comp [1] (.nm 1) (.rng1 (.prm .add (.cons (.prm .len (.cons (.pk 0) .nil)) (.cons (.cst (.int 1)) .nil)))) .nil (.frz (.tup (.cons (.prm .scount (.cons (.ckS (.prm .slH (.cons (.pk 0) (.cons (.ckI (.var 1)) .nil)))) (.cons (.cst (.str [97])) .nil))) (.cons (.prm .scount (.cons (.ckS (.prm .slH (.cons (.pk 0) (.cons (.ckI (.var 1)) .nil)))) (.cons (.cst (.str [98])) .nil))) .nil)))))) .nil)⟩
theorem b9 : d9.body = (.cons (.ret (.comp [1] (.nm 1) (.rng1 (.prm .add (.cons (.prm .len (.cons (.pk 0) .nil)) (.cons (.cst (.int 1)) .nil)))) .nil (.frz (.tup (.cons (.prm .scount (.cons (.ckS (.prm .slH (.cons (.pk 0) (.cons (.ckI (.var 1)) .nil)))) (.cons (.cst (.str [97])) .nil))) (.cons (.prm .scount (.cons (.ckS (.prm .slH (.cons (.pk 0) (.cons (.ckI (.var 1)) .nil)))) (.cons (.cst (.str [98])) .nil))) .nil)))))) .nil) := rfl
def d10 : Df := ⟨1, 7, [], (.cons (.asg 1 (.call 9 (.cons (.pk 0) .nil))) (.cons (.asg 2 (.cst (.int 0))) (.cons (.for (.nm 3) (.rng1 (.prm .scount (.cons (.ckS (.var 0)) (.cons (.cst (.str [97])) .nil)))) (.cons (.asg 4 (.prm .max1 (.cons (.comp [5] (.nm 5) (.val (.var 1)) (.cons (.prm .eq (.cons (.prm .idx (.cons (.pk 5) (.cons (.cst (.int 0)) .nil))) (.cons (.pk 3) .nil))) .nil) (.prm .idx (.cons (.pk 5) (.cons (.cst (.int 1)) .nil)))) .nil))) (.cons (.aug 2 .add (.prm .len (.cons (.comp [6] (.nm 6) (.rng1 (.var 4)) .nil (.var 6)) .nil))) .nil))) (.cons (.ret (.mov 2)) .nil))))⟩
theorem b10 : d10.body = (.cons (.asg 1 (.call 9 (.cons (.pk 0) .nil))) (.cons (.asg 2 (.cst (.int 0))) (.cons (.for (.nm 3) (.rng1 (.prm .scount (.cons (.ckS (.var 0)) (.cons (.cst (.str [97])) .nil)))) (.cons (.asg 4 (.prm .max1 (.cons (.comp [5] (.nm 5) (.val (.var 1)) (.cons (.prm .eq (.cons (.prm .idx (.cons (.pk 5) (.cons (.cst (.int 0)) .nil))) (.cons (.pk 3) .nil))) .nil) (.prm .idx (.cons (.pk 5) (.cons (.cst (.int 1)) .nil)))) .nil))) (.cons (.aug 2 .add (.prm .len (.cons (.comp [6] (.nm 6) (.rng1 (.var 4)) .nil (.var 6)) .nil))) .nil))) (.cons (.ret (.mov 2)) .nil)))) := rfl
def d11 : Df := ⟨1, 6, [], (.cons (.asg 1 (.call 9 (.cons (.pk 0) .nil))) (.cons (.unp (.tp (.nm 2) (.tp (.nm 3) .en)) (.prm .idx (.cons (.pk 1) (.cons (.prm .neg (.cons (.cst (.int 1)) .nil)) .nil)))) (.cons (.ret (.prm .max1 (.cons (.comp [4, 5] (.tp (.nm 4) (.tp (.nm 5) .en)) (.val (.var 1)) .nil (.frz (.prm .max2 (.cons (.prm .sub (.cons (.prm .mul (.cons (.pk 4) (.cons (.pk 3) .nil))) (.cons (.prm .mul (.cons (.pk 5) (.cons (.pk 2) .nil))) .nil))) (.cons (.prm .sub (.cons (.prm .mul (.cons (.pk 5) (.cons (.pk 2) .nil))) (.cons (.prm .mul (.cons (.pk 4) (.cons (.pk 3) .nil))) .nil))) .nil))))) .nil))) .nil)))⟩
theorem b11 : d11.body = (.cons (.asg 1 (.call 9 (.cons (.pk 0) .nil))) (.cons (.unp (.tp (.nm 2) (.tp (.nm 3) .en)) (.prm .idx (.cons (.pk 1) (.cons (.prm .neg (.cons (.cst (.int 1)) .nil)) .nil)))) (.cons (.ret (.prm .max1 (.cons (.comp [4, 5] (.tp (.nm 4) (.tp (.nm 5) .en)) (.val (.var 1)) .nil (.frz (.prm .max2 (.cons (.prm .sub (.cons (.prm .mul (.cons (.pk 4) (.cons (.pk 3) .nil))) (.cons (.prm .mul (.cons (.pk 5) (.cons (.pk 2) .nil))) .nil))) (.cons (.prm .sub (.cons (.prm .mul (.cons (.pk 5) (.cons (.pk 2) .nil))) (.cons (.prm .mul (.cons (.pk 4) (.cons (.pk 3) .nil))) .nil))) .nil))))) .nil))) .nil))) := rfl
def d12 : Df := ⟨1, 7, [], (.cons (.asg 1 (.call 0 (.cons (.pk 0) .nil))) (.cons (.asg 2 (.call 9 (.cons (.pk 0) .nil))) (.cons (.ifs (.or (.cons (.not (.prm (.isI .list) (.cons (.pk 1) .nil))) (.cons (.prm .ne (.cons (.pk 1) (.cons (.pk 2) .nil))) .nil))) (.cons (.ret (.cst (.bl false))) .nil) .nil) (.cons (.forK 1 (.nm 3) (.cons (.ifs (.or (.cons (.not (.prm (.isI .tuple) (.cons (.pk 3) .nil))) (.cons (.prm .ne (.cons (.prm .len (.cons (.pk 3) .nil)) (.cons (.cst (.int 2)) .nil))) (.cons (.not (.call 5 (.cons (.prm .idx (.cons (.pk 3) (.cons (.cst (.int 0)) .nil))) .nil))) (.cons (.not (.call 5 (.cons (.prm .idx (.cons (.pk 3) (.cons (.cst (.int 1)) .nil))) .nil))) .nil))))) (.cons (.ret (.cst (.bl false))) .nil) .nil) .nil)) (.cons (.exp (.mut .append 1 (.cons (.frz (.tup (.cons (.cst (.int 0)) (.cons (.cst (.int 0)) .nil)))) .nil))) (.cons (.asg 4 (.call 1 (.cons (.pk 0) .nil))) (.cons (.asg 5 (.call 2 (.cons (.pk 0) .nil))) (.cons (.ifs (.or (.cons (.not (.call 5 (.cons (.pk 4) .nil))) (.cons (.prm .ne (.cons (.pk 4) (.cons (.call 10 (.cons (.pk 0) .nil)) .nil))) (.cons (.not (.call 5 (.cons (.pk 5) .nil))) (.cons (.prm .ne (.cons (.pk 5) (.cons (.call 11 (.cons (.pk 0) .nil)) .nil))) .nil))))) (.cons (.ret (.cst (.bl false))) .nil) .nil) (.cons (.asg 6 (.call 1 (.cons (.prm .rev (.cons (.pk 0) .nil)) .nil))) (.cons (.ret (.and (.cons (.prm .eq (.cons (.call 0 (.cons (.pk 0) .nil)) (.cons (.pk 2) .nil))) (.cons (.prm .eq (.cons (.prm .add (.cons (.pk 4) (.cons (.pk 6) .nil))) (.cons (.prm .mul (.cons (.prm .scount (.cons (.ckS (.var 0)) (.cons (.cst (.str [97])) .nil))) (.cons (.prm .scount (.cons (.ckS (.var 0)) (.cons (.cst (.str [98])) .nil))) .nil))) .nil))) (.cons (.prm .eq (.cons (.call 2 (.cons (.prm .rev (.cons (.pk 0) .nil)) .nil)) (.cons (.pk 5) .nil))) .nil))))) .nil))))))))))⟩
theorem b12 : d12.body = (.cons (.asg 1 (.call 0 (.cons (.pk 0) .nil))) (.cons (.asg 2 (.call 9 (.cons (.pk 0) .nil))) (.cons (.ifs (.or (.cons (.not (.prm (.isI .list) (.cons (.pk 1) .nil))) (.cons (.prm .ne (.cons (.pk 1) (.cons (.pk 2) .nil))) .nil))) (.cons (.ret (.cst (.bl false))) .nil) .nil) (.cons (.forK 1 (.nm 3) (.cons (.ifs (.or (.cons (.not (.prm (.isI .tuple) (.cons (.pk 3) .nil))) (.cons (.prm .ne (.cons (.prm .len (.cons (.pk 3) .nil)) (.cons (.cst (.int 2)) .nil))) (.cons (.not (.call 5 (.cons (.prm .idx (.cons (.pk 3) (.cons (.cst (.int 0)) .nil))) .nil))) (.cons (.not (.call 5 (.cons (.prm .idx (.cons (.pk 3) (.cons (.cst (.int 1)) .nil))) .nil))) .nil))))) (.cons (.ret (.cst (.bl false))) .nil) .nil) .nil)) (.cons (.exp (.mut .append 1 (.cons (.frz (.tup (.cons (.cst (.int 0)) (.cons (.cst (.int 0)) .nil)))) .nil))) (.cons (.asg 4 (.call 1 (.cons (.pk 0) .nil))) (.cons (.asg 5 (.call 2 (.cons (.pk 0) .nil))) (.cons (.ifs (.or (.cons (.not (.call 5 (.cons (.pk 4) .nil))) (.cons (.prm .ne (.cons (.pk 4) (.cons (.call 10 (.cons (.pk 0) .nil)) .nil))) (.cons (.not (.call 5 (.cons (.pk 5) .nil))) (.cons (.prm .ne (.cons (.pk 5) (.cons (.call 11 (.cons (.pk 0) .nil)) .nil))) .nil))))) (.cons (.ret (.cst (.bl false))) .nil) .nil) (.cons (.asg 6 (.call 1 (.cons (.prm .rev (.cons (.pk 0) .nil)) .nil))) (.cons (.ret (.and (.cons (.prm .eq (.cons (.call 0 (.cons (.pk 0) .nil)) (.cons (.pk 2) .nil))) (.cons (.prm .eq (.cons (.prm .add (.cons (.pk 4) (.cons (.pk 6) .nil))) (.cons (.prm .mul (.cons (.prm .scount (.cons (.ckS (.var 0)) (.cons (.cst (.str [97])) .nil))) (.cons (.prm .scount (.cons (.ckS (.var 0)) (.cons (.cst (.str [98])) .nil))) .nil))) .nil))) (.cons (.prm .eq (.cons (.call 2 (.cons (.prm .rev (.cons (.pk 0) .nil)) .nil)) (.cons (.pk 5) .nil))) .nil))))) .nil)))))))))) := rfl
def d13 : Df := ⟨1, 5, [], (.cons (.asg 1 (.call 9 (.cons (.pk 0) .nil))) (.cons (.unp (.tp (.nm 2) (.tp (.nm 3) .en)) (.prm .idx (.cons (.pk 1) (.cons (.prm .neg (.cons (.cst (.int 1)) .nil)) .nil)))) (.cons (.ret (.prm .eq (.cons (.prm .len (.cons (.comp [4] (.nm 4) (.val (.var 1)) (.cons (.prm .gt (.cons (.prm .mul (.cons (.prm .idx (.cons (.pk 4) (.cons (.cst (.int 1)) .nil))) (.cons (.pk 2) .nil))) (.cons (.prm .mul (.cons (.prm .idx (.cons (.pk 4) (.cons (.cst (.int 0)) .nil))) (.cons (.pk 3) .nil))) .nil))) .nil) (.var 4)) .nil)) (.cons (.cst (.int 0)) .nil)))) .nil)))⟩
theorem b13 : d13.body = (.cons (.asg 1 (.call 9 (.cons (.pk 0) .nil))) (.cons (.unp (.tp (.nm 2) (.tp (.nm 3) .en)) (.prm .idx (.cons (.pk 1) (.cons (.prm .neg (.cons (.cst (.int 1)) .nil)) .nil)))) (.cons (.ret (.prm .eq (.cons (.prm .len (.cons (.comp [4] (.nm 4) (.val (.var 1)) (.cons (.prm .gt (.cons (.prm .mul (.cons (.prm .idx (.cons (.pk 4) (.cons (.cst (.int 1)) .nil))) (.cons (.pk 2) .nil))) (.cons (.prm .mul (.cons (.prm .idx (.cons (.pk 4) (.cons (.cst (.int 0)) .nil))) (.cons (.pk 3) .nil))) .nil))) .nil) (.var 4)) .nil)) (.cons (.cst (.int 0)) .nil)))) .nil))) := rfl
def d14 : Df := ⟨2, 3, [], (.cons (.asg 2 (.call 4 (.cons (.pk 0) (.cons (.prm .sub (.cons (.prm .len (.cons (.pk 1) .nil)) (.cons (.cst (.int 1)) .nil))) .nil)))) (.cons (.ret (.prm .add (.cons (.prm .add (.cons (.prm .add (.cons (.prm .slH (.cons (.pk 1) (.cons (.ckI (.var 2)) .nil))) (.cons (.prm .idx (.cons (.pk 1) (.cons (.prm .add (.cons (.pk 2) (.cons (.cst (.int 1)) .nil))) .nil))) .nil))) (.cons (.prm .idx (.cons (.pk 1) (.cons (.pk 2) .nil))) .nil))) (.cons (.prm .slL (.cons (.pk 1) (.cons (.ckI (.prm .add (.cons (.pk 2) (.cons (.cst (.int 2)) .nil)))) .nil))) .nil)))) .nil))⟩
theorem b14 : d14.body = (.cons (.asg 2 (.call 4 (.cons (.pk 0) (.cons (.prm .sub (.cons (.prm .len (.cons (.pk 1) .nil)) (.cons (.cst (.int 1)) .nil))) .nil)))) (.cons (.ret (.prm .add (.cons (.prm .add (.cons (.prm .add (.cons (.prm .slH (.cons (.pk 1) (.cons (.ckI (.var 2)) .nil))) (.cons (.prm .idx (.cons (.pk 1) (.cons (.prm .add (.cons (.pk 2) (.cons (.cst (.int 1)) .nil))) .nil))) .nil))) (.cons (.prm .idx (.cons (.pk 1) (.cons (.pk 2) .nil))) .nil))) (.cons (.prm .slL (.cons (.pk 1) (.cons (.ckI (.prm .add (.cons (.pk 2) (.cons (.cst (.int 2)) .nil)))) .nil))) .nil)))) .nil)) := rfl
def d15 : Df := ⟨2, 6, [], (.cons (.ifs (.or (.cons (.not (.call 12 (.cons (.pk 1) .nil))) (.cons (.not (.call 13 (.cons (.pk 1) .nil))) .nil))) (.cons (.ret (.cst (.bl false))) .nil) .nil) (.cons (.asg 2 (.call 4 (.cons (.pk 0) (.cons (.prm .len (.cons (.pk 1) .nil)) .nil)))) (.cons (.ifs (.or (.cons (.prm .ge (.cons (.call 2 (.cons (.prm .add (.cons (.prm .slL (.cons (.pk 1) (.cons (.ckI (.var 2)) .nil))) (.cons (.prm .slH (.cons (.pk 1) (.cons (.ckI (.var 2)) .nil))) .nil))) .nil)) (.cons (.prm .len (.cons (.pk 1) .nil)) .nil))) (.cons (.prm .ge (.cons (.call 2 (.cons (.pk 1) .nil)) (.cons (.prm .len (.cons (.pk 1) .nil)) .nil))) .nil))) (.cons (.ret (.cst (.bl false))) .nil) .nil) (.cons (.asg 3 (.var 1)) (.cons (.for (.nm 4) (.rng1 (.cst (.int 6))) (.cons (.ifs (.prm .gt (.cons (.prm .len (.cons (.pk 1) .nil)) (.cons (.cst (.int 1)) .nil))) (.cons (.asg 5 (.call 14 (.cons (.pk 0) (.cons (.pk 3) .nil)))) (.cons (.ifs (.prm .ne (.cons (.prm .abs (.cons (.prm .sub (.cons (.call 1 (.cons (.pk 5) .nil)) (.cons (.call 1 (.cons (.pk 3) .nil)) .nil))) .nil)) (.cons (.prm .toInt (.cons (.prm .ne (.cons (.pk 5) (.cons (.pk 3) .nil))) .nil)) .nil))) (.cons (.ret (.cst (.bl false))) .nil) .nil) (.cons (.asg 3 (.var 5)) (.cons (.ifs (.and (.cons (.call 13 (.cons (.pk 3) .nil)) (.cons (.prm .gt (.cons (.call 1 (.cons (.pk 3) .nil)) (.cons (.call 1 (.cons (.pk 1) .nil)) .nil))) .nil))) (.cons (.ret (.cst (.bl false))) .nil) .nil) (.cons (.ifs (.and (.cons (.call 13 (.cons (.pk 3) .nil)) (.cons (.prm .eq (.cons (.call 1 (.cons (.pk 3) .nil)) (.cons (.call 1 (.cons (.pk 1) .nil)) .nil))) (.cons (.prm .ne (.cons (.pk 3) (.cons (.pk 1) .nil))) .nil)))) (.cons (.ret (.cst (.bl false))) .nil) .nil) .nil))))) .nil) .nil)) (.cons (.ret (.cst (.bl true))) .nil))))))⟩
theorem b15 : d15.body = (.cons (.ifs (.or (.cons (.not (.call 12 (.cons (.pk 1) .nil))) (.cons (.not (.call 13 (.cons (.pk 1) .nil))) .nil))) (.cons (.ret (.cst (.bl false))) .nil) .nil) (.cons (.asg 2 (.call 4 (.cons (.pk 0) (.cons (.prm .len (.cons (.pk 1) .nil)) .nil)))) (.cons (.ifs (.or (.cons (.prm .ge (.cons (.call 2 (.cons (.prm .add (.cons (.prm .slL (.cons (.pk 1) (.cons (.ckI (.var 2)) .nil))) (.cons (.prm .slH (.cons (.pk 1) (.cons (.ckI (.var 2)) .nil))) .nil))) .nil)) (.cons (.prm .len (.cons (.pk 1) .nil)) .nil))) (.cons (.prm .ge (.cons (.call 2 (.cons (.pk 1) .nil)) (.cons (.prm .len (.cons (.pk 1) .nil)) .nil))) .nil))) (.cons (.ret (.cst (.bl false))) .nil) .nil) (.cons (.asg 3 (.var 1)) (.cons (.for (.nm 4) (.rng1 (.cst (.int 6))) (.cons (.ifs (.prm .gt (.cons (.prm .len (.cons (.pk 1) .nil)) (.cons (.cst (.int 1)) .nil))) (.cons (.asg 5 (.call 14 (.cons (.pk 0) (.cons (.pk 3) .nil)))) (.cons (.ifs (.prm .ne (.cons (.prm .abs (.cons (.prm .sub (.cons (.call 1 (.cons (.pk 5) .nil)) (.cons (.call 1 (.cons (.pk 3) .nil)) .nil))) .nil)) (.cons (.prm .toInt (.cons (.prm .ne (.cons (.pk 5) (.cons (.pk 3) .nil))) .nil)) .nil))) (.cons (.ret (.cst (.bl false))) .nil) .nil) (.cons (.asg 3 (.var 5)) (.cons (.ifs (.and (.cons (.call 13 (.cons (.pk 3) .nil)) (.cons (.prm .gt (.cons (.call 1 (.cons (.pk 3) .nil)) (.cons (.call 1 (.cons (.pk 1) .nil)) .nil))) .nil))) (.cons (.ret (.cst (.bl false))) .nil) .nil) (.cons (.ifs (.and (.cons (.call 13 (.cons (.pk 3) .nil)) (.cons (.prm .eq (.cons (.call 1 (.cons (.pk 3) .nil)) (.cons (.call 1 (.cons (.pk 1) .nil)) .nil))) (.cons (.prm .ne (.cons (.pk 3) (.cons (.pk 1) .nil))) .nil)))) (.cons (.ret (.cst (.bl false))) .nil) .nil) .nil))))) .nil) .nil)) (.cons (.ret (.cst (.bl true))) .nil)))))) := rfl
def d16 : Df := ⟨1, 8, [], (.cons (.asg 1 (.call 3 (.cons (.pk 0) .nil))) (.cons (.for (.nm 2) (.rng1 (.cst (.int 3))) (.cons (.asg 3 (.call 8 (.cons (.pk 1) (.cons (.prm .idx (.cons (.lst (.cons (.cst (.int 12)) (.cons (.cst (.int 12)) (.cons (.cst (.int 12)) (.cons (.cst (.int 60)) .nil))))) (.cons (.call 4 (.cons (.pk 1) (.cons (.cst (.int 4)) .nil))) .nil))) .nil)))) (.cons (.ifs (.not (.call 12 (.cons (.pk 3) .nil))) (.cons (.ret (.cst (.bl false))) .nil) .nil) (.cons (.asg 4 (.call 4 (.cons (.pk 1) (.cons (.cst (.int 31)) .nil)))) (.cons (.asg 5 (.prm .add (.cons (.call 4 (.cons (.pk 1) (.cons (.cst (.int 30)) .nil))) (.cons (.prm .toInt (.cons (.prm .eq (.cons (.pk 4) (.cons (.cst (.int 0)) .nil))) .nil)) .nil)))) (.cons (.asg 6 (.call 7 (.cons (.pk 4) (.cons (.pk 5) .nil)))) (.cons (.asg 7 (.call 6 (.cons (.prm .fdiv (.cons (.pk 4) (.cons (.pk 6) .nil))) (.cons (.prm .fdiv (.cons (.pk 5) (.cons (.pk 6) .nil))) .nil)))) (.cons (.ifs (.or (.cons (.not (.call 15 (.cons (.pk 1) (.cons (.pk 7) .nil)))) (.cons (.not (.call 12 (.cons (.prm .slH (.cons (.prm .mul (.cons (.pk 7) (.cons (.cst (.int 9)) .nil))) (.cons (.ckI (.cst (.int 60))) .nil))) .nil))) .nil))) (.cons (.ret (.cst (.bl false))) .nil) .nil) .nil)))))))) (.cons (.ifs (.or (.cons (.prm .ne (.cons (.call 0 (.cons (.cst (.str [])) .nil)) (.cons (.lst (.cons (.frz (.tup (.cons (.cst (.int 0)) (.cons (.cst (.int 0)) .nil)))) .nil)) .nil))) (.cons (.prm .ne (.cons (.call 1 (.cons (.cst (.str [])) .nil)) (.cons (.cst (.int 0)) .nil))) (.cons (.prm .ne (.cons (.call 2 (.cons (.cst (.str [])) .nil)) (.cons (.cst (.int 0)) .nil))) (.cons (.prm .ne (.cons (.call 1 (.cons (.cst (.str [98, 97])) .nil)) (.cons (.cst (.int 1)) .nil))) (.cons (.prm .ne (.cons (.call 1 (.cons (.cst (.str [97, 98])) .nil)) (.cons (.cst (.int 0)) .nil))) .nil)))))) (.cons (.ret (.cst (.bl false))) .nil) .nil) (.cons (.ret (.and (.cons (.prm .eq (.cons (.call 0 (.cons (.cst (.str [97, 98])) .nil)) (.cons (.lst (.cons (.frz (.tup (.cons (.cst (.int 0)) (.cons (.cst (.int 0)) .nil)))) (.cons (.frz (.tup (.cons (.cst (.int 1)) (.cons (.cst (.int 0)) .nil)))) (.cons (.frz (.tup (.cons (.cst (.int 1)) (.cons (.cst (.int 1)) .nil)))) .nil)))) .nil))) (.cons (.prm .eq (.cons (.call 2 (.cons (.cst (.str [97, 98])) .nil)) (.cons (.cst (.int 1)) .nil))) (.cons (.prm .eq (.cons (.call 2 (.cons (.cst (.str [97, 97, 98, 98])) .nil)) (.cons (.cst (.int 4)) .nil))) (.cons (.prm .eq (.cons (.call 1 (.cons (.cst (.str [98, 98, 97, 97, 98])) .nil)) (.cons (.cst (.int 4)) .nil))) .nil)))))) .nil))))⟩
theorem b16 : d16.body = (.cons (.asg 1 (.call 3 (.cons (.pk 0) .nil))) (.cons (.for (.nm 2) (.rng1 (.cst (.int 3))) (.cons (.asg 3 (.call 8 (.cons (.pk 1) (.cons (.prm .idx (.cons (.lst (.cons (.cst (.int 12)) (.cons (.cst (.int 12)) (.cons (.cst (.int 12)) (.cons (.cst (.int 60)) .nil))))) (.cons (.call 4 (.cons (.pk 1) (.cons (.cst (.int 4)) .nil))) .nil))) .nil)))) (.cons (.ifs (.not (.call 12 (.cons (.pk 3) .nil))) (.cons (.ret (.cst (.bl false))) .nil) .nil) (.cons (.asg 4 (.call 4 (.cons (.pk 1) (.cons (.cst (.int 31)) .nil)))) (.cons (.asg 5 (.prm .add (.cons (.call 4 (.cons (.pk 1) (.cons (.cst (.int 30)) .nil))) (.cons (.prm .toInt (.cons (.prm .eq (.cons (.pk 4) (.cons (.cst (.int 0)) .nil))) .nil)) .nil)))) (.cons (.asg 6 (.call 7 (.cons (.pk 4) (.cons (.pk 5) .nil)))) (.cons (.asg 7 (.call 6 (.cons (.prm .fdiv (.cons (.pk 4) (.cons (.pk 6) .nil))) (.cons (.prm .fdiv (.cons (.pk 5) (.cons (.pk 6) .nil))) .nil)))) (.cons (.ifs (.or (.cons (.not (.call 15 (.cons (.pk 1) (.cons (.pk 7) .nil)))) (.cons (.not (.call 12 (.cons (.prm .slH (.cons (.prm .mul (.cons (.pk 7) (.cons (.cst (.int 9)) .nil))) (.cons (.ckI (.cst (.int 60))) .nil))) .nil))) .nil))) (.cons (.ret (.cst (.bl false))) .nil) .nil) .nil)))))))) (.cons (.ifs (.or (.cons (.prm .ne (.cons (.call 0 (.cons (.cst (.str [])) .nil)) (.cons (.lst (.cons (.frz (.tup (.cons (.cst (.int 0)) (.cons (.cst (.int 0)) .nil)))) .nil)) .nil))) (.cons (.prm .ne (.cons (.call 1 (.cons (.cst (.str [])) .nil)) (.cons (.cst (.int 0)) .nil))) (.cons (.prm .ne (.cons (.call 2 (.cons (.cst (.str [])) .nil)) (.cons (.cst (.int 0)) .nil))) (.cons (.prm .ne (.cons (.call 1 (.cons (.cst (.str [98, 97])) .nil)) (.cons (.cst (.int 1)) .nil))) (.cons (.prm .ne (.cons (.call 1 (.cons (.cst (.str [97, 98])) .nil)) (.cons (.cst (.int 0)) .nil))) .nil)))))) (.cons (.ret (.cst (.bl false))) .nil) .nil) (.cons (.ret (.and (.cons (.prm .eq (.cons (.call 0 (.cons (.cst (.str [97, 98])) .nil)) (.cons (.lst (.cons (.frz (.tup (.cons (.cst (.int 0)) (.cons (.cst (.int 0)) .nil)))) (.cons (.frz (.tup (.cons (.cst (.int 1)) (.cons (.cst (.int 0)) .nil)))) (.cons (.frz (.tup (.cons (.cst (.int 1)) (.cons (.cst (.int 1)) .nil)))) .nil)))) .nil))) (.cons (.prm .eq (.cons (.call 2 (.cons (.cst (.str [97, 98])) .nil)) (.cons (.cst (.int 1)) .nil))) (.cons (.prm .eq (.cons (.call 2 (.cons (.cst (.str [97, 97, 98, 98])) .nil)) (.cons (.cst (.int 4)) .nil))) (.cons (.prm .eq (.cons (.call 1 (.cons (.cst (.str [98, 98, 97, 97, 98])) .nil)) (.cons (.cst (.int 4)) .nil))) .nil)))))) .nil)))) := rfl
def prog : List Df := [d0, d1, d2, d3, d4, d5, d6, d7, d8, d9, d10, d11, d12, d13, d14, d15, d16]
def e0 : Ent := ⟨"way_of", topS 2, ["text"], ["text", "points", "sign", "x", "y"]⟩
def e1 : Ent := ⟨"squares_below", topS 3, ["text"], ["text", "sign", "_", "y"]⟩
def e2 : Ent := ⟨"farthest_off", topS 4, ["text"], ["text", "points", "x", "y", "u", "v"]⟩
def e3 : Ent := ⟨"_law_feed", topS 6, ["script"], ["script"]⟩
def e4 : Ent := ⟨"_law_draw", topS 7, ["feed", "many"], ["feed", "many", "mixed", "cell", "told"]⟩
def e5 : Ent := ⟨"_law_is_whole", topS 8, ["x"], ["x"]⟩
def e6 : Ent := ⟨"_law_lower", topS 9, ["a", "b"], ["a", "b", "n", "k"]⟩
def e7 : Ent := ⟨"_law_divisor", topS 10, ["a", "b"], ["a", "b", "step"]⟩
def e8 : Ent := ⟨"_law_signs", topS 11, ["feed", "most"], ["feed", "most", "kind", "text", "k"]⟩
def e9 : Ent := ⟨"_law_points", topS 12, ["text"], ["text", "k"]⟩
def e10 : Ent := ⟨"_law_squares", topS 13, ["text"], ["text", "points", "found", "x", "height", "point", "y"]⟩
def e11 : Ent := ⟨"_law_off", topS 14, ["text"], ["text", "points", "x", "y", "u", "v"]⟩
def e12 : Ent := ⟨"_law_right", topS 15, ["text"], ["text", "told", "due", "point", "many", "off", "back"]⟩
def e13 : Ent := ⟨"_law_never_above", topS 16, ["text"], ["text", "points", "x", "y", "point"]⟩
def e14 : Ent := ⟨"_law_exchanged", topS 17, ["feed", "text"], ["feed", "text", "k"]⟩
def e15 : Ent := ⟨"_law_lower_right", topS 18, ["feed", "word"], ["feed", "word", "k", "other", "step", "bent"]⟩
def e16 : Ent := ⟨"law", topS 19, ["script"], ["script", "feed", "turn", "text", "a", "b", "many", "word"]⟩
def tab : List Ent := [e0, e1, e2, e3, e4, e5, e6, e7, e8, e9, e10, e11, e12, e13, e14, e15, e16]
def mods : Mods := ⟨["abs", "bool", "int", "isinstance", "len", "list", "max", "range", "sum", "tuple", "zip"], [], [("RIGHT", [97])]⟩
theorem mat : matP mods (fnsOf 0 tab) tab prog = true := by decide +kernel
end VL
/-! k71's mathematics: ways. -/
namespace VL71
/-- the numbers of signs a, of other ones -/
def ca (t : List Nat) : Nat := t.countP fun c => decide (c = 97)
def cb (t : List Nat) : Nat := t.countP fun c => !decide (c = 97)
theorem ca_append (s t : List Nat) : ca (s ++ t) = ca s + ca t := List.countP_append ..
theorem cb_append (s t : List Nat) : cb (s ++ t) = cb s + cb t := List.countP_append ..
theorem ca_cb (t : List Nat) : ca t + cb t = t.length := by
  induction t with
  | nil => rfl
  | cons c t ih =>
    unfold ca cb at *
    rw [List.countP_cons, List.countP_cons, List.length_cons]
    by_cases h : c = 97 <;> simp [h] <;> omega
/-- squares below the way, from the height y on -/
def sq (y : Nat) : List Nat → Nat
  | [] => 0
  | c :: t => if c = 97 then y + sq y t else sq (y + 1) t
theorem sq_cons (y c : Nat) (t : List Nat) : sq y (c :: t) = if c = 97 then y + sq y t else sq (y + 1) t := rfl
theorem sq_y (y : Nat) (t : List Nat) : sq y t = sq 0 t + y * ca t := by
  induction t generalizing y with
  | nil => simp [sq, ca]
  | cons c t ih =>
    rw [sq_cons, sq_cons]
    by_cases h : c = 97
    · rw [if_pos h, if_pos h, ih y]
      have : ca (c :: t) = ca t + 1 := by simp [ca, h]
      rw [this, Nat.mul_add]
      omega
    · rw [if_neg h, if_neg h, ih (y + 1), ih (0 + 1)]
      have : ca (c :: t) = ca t := by simp [ca, h]
      rw [this, Nat.add_mul]
      omega
theorem sq_append (s t : List Nat) (y : Nat) : sq y (s ++ t) = sq y s + sq (y + cb s) t := by
  induction s generalizing y with
  | nil => simp [sq, cb]
  | cons c s ih =>
    rw [List.cons_append, sq_cons, sq_cons]
    by_cases h : c = 97
    · rw [if_pos h, if_pos h, ih]
      have : cb (c :: s) = cb s := by simp [cb, h]
      rw [this]
      omega
    · rw [if_neg h, if_neg h, ih]
      have : cb (c :: s) = cb s + 1 := by simp [cb, h]
      rw [this, show y + 1 + cb s = y + (cb s + 1) by omega]
theorem ca_reverse (t : List Nat) : ca t.reverse = ca t := by simp [ca]
theorem cb_reverse (t : List Nat) : cb t.reverse = cb t := by simp [cb]
/-- with the way read backwards: all pairs -/
theorem sq_back (t : List Nat) : sq 0 t + sq 0 t.reverse = ca t * cb t := by
  induction t with
  | nil => rfl
  | cons c t ih =>
    rw [List.reverse_cons, sq_append, cb_reverse, Nat.zero_add]
    by_cases h : c = 97
    · have h1 : sq 0 (c :: t) = sq 0 t := by simp [sq, h]
      have h2 : sq (cb t) [c] = cb t := by simp [sq, h]
      have h3 : ca (c :: t) = ca t + 1 := by simp [ca, h]
      have h4 : cb (c :: t) = cb t := by simp [cb, h]
      rw [h1, h2, h3, h4, Nat.add_mul]
      omega
    · have h1 : sq 0 (c :: t) = sq 1 t := by simp [sq, h]
      have h2 : sq (cb t) [c] = 0 := by simp [sq, h]
      have h3 : ca (c :: t) = ca t := by simp [ca, h]
      have h4 : cb (c :: t) = cb t + 1 := by simp [cb, h]
      rw [h1, h2, h3, h4, sq_y, Nat.mul_add]
      omega
/-- an exchange of two neighbours -/
theorem sq_swap (s t : List Nat) (c d : Nat) (hc : c = 97 ∨ c = 98) (hd : d = 97 ∨ d = 98) : (c = d → sq 0 (s ++ d :: c :: t) = sq 0 (s ++ c :: d :: t)) ∧ (c ≠ d → sq 0 (s ++ d :: c :: t) = sq 0 (s ++ c :: d :: t) + 1 ∨ sq 0 (s ++ c :: d :: t) = sq 0 (s ++ d :: c :: t) + 1) := by
  constructor
  · rintro rfl; rfl
  · intro h
    rw [sq_append, sq_append]
    rcases hc with rfl | rfl <;> rcases hd with rfl | rfl
    · exact absurd rfl h
    · left
      simp [sq]
      omega
    · right
      simp [sq]
      omega
    · exact absurd rfl h
/-! ### heights -/
/-- how high the way is behind k signs -/
def ht (t : List Nat) (k : Nat) : Nat := cb (t.take k)
def sumH (t : List Nat) : Nat → Nat
  | 0 => 0
  | k + 1 => sumH t k + ht t k
/-- twice the squares, by the heights -/
theorem sq_heights (t : List Nat) : ∀ k, k ≤ t.length → 2 * sq 0 (t.take k) + ht t k * (ht t k - 1) = 2 * sumH t k
  | 0, _ => by simp [sq, ht, cb, sumH]
  | k + 1, hk => by
    have ih := sq_heights t k (by omega)
    have e : t.take (k + 1) = t.take k ++ [t[k]] := List.take_succ_eq_append_getElem (by omega)
    have h1 : sq 0 (t.take (k + 1)) = sq 0 (t.take k) + sq (ht t k) [t[k]] := by rw [e, sq_append, Nat.zero_add]; rfl
    have h2 : ht t (k + 1) = ht t k + cb [t[k]] := by unfold ht; rw [e, cb_append]
    show _ = 2 * (sumH t k + ht t k)
    by_cases h : t[k] = 97
    · have h3 : sq (ht t k) [t[k]] = ht t k := by simp [sq, h]
      have h4 : cb [t[k]] = 0 := by simp [cb, h]
      rw [h1, h2, h3, h4, Nat.add_zero]
      omega
    · have h3 : sq (ht t k) [t[k]] = 0 := by simp [sq, h]
      have h4 : cb [t[k]] = 1 := by simp [cb, h]
      rw [h1, h2, h3, h4, Nat.add_sub_cancel, Nat.add_zero]
      generalize ht t k = v at ih ⊢
      cases v with
      | zero => simp at ih ⊢; omega
      | succ v =>
        rw [Nat.add_sub_cancel] at ih
        have : (v + 1 + 1) * (v + 1) = (v + 1) * v + 2 * (v + 1) := by
          rw [Nat.add_mul (v + 1) 1, Nat.mul_add (v + 1) v 1, Nat.mul_comm 2]
          omega
        rw [this]
        omega
theorem sumH_le {s t : List Nat} : ∀ {n : Nat}, (∀ k, k < n → ht s k ≤ ht t k) → sumH s n ≤ sumH t n
  | 0, _ => Nat.le_refl _
  | n + 1, h => by
    have h1 := sumH_le (n := n) fun k hk => h k (by omega)
    have h2 := h n (by omega)
    show sumH s n + ht s n ≤ sumH t n + ht t n
    omega
theorem sumH_eq {s t : List Nat} : ∀ {n : Nat}, (∀ k, k < n → ht s k ≤ ht t k) → sumH s n = sumH t n → ∀ k, k < n → ht s k = ht t k
  | 0, _, _, k, hk => absurd hk (by omega)
  | n + 1, h, e, k, hk => by
    have h1 := sumH_le (n := n) fun k hk => h k (by omega)
    have h2 := h n (by omega)
    have e' : sumH s n + ht s n = sumH t n + ht t n := e
    by_cases hkn : k = n
    · subst hkn
      omega
    · exact sumH_eq (n := n) (fun k hk => h k (by omega)) (by omega) k (by omega)
/-- a way below another one of as many signs has no more squares, and as many just if it is the other -/
theorem below_squares {s t : List Nat} (hs : ∀ c ∈ s, c = 97 ∨ c = 98) (ht' : ∀ c ∈ t, c = 97 ∨ c = 98) (hl : s.length = t.length) (hb : cb s = cb t) (h : ∀ k, k < t.length → ht s k ≤ ht t k) : sq 0 s ≤ sq 0 t ∧ (sq 0 s = sq 0 t → s = t) := by
  have e1 := sq_heights s s.length (Nat.le_refl _)
  have e2 := sq_heights t t.length (Nat.le_refl _)
  rw [List.take_length] at e1 e2
  have h1 : ht s s.length = cb s := by unfold ht; rw [List.take_length]
  have h2 : ht t t.length = cb t := by unfold ht; rw [List.take_length]
  rw [h1] at e1
  rw [h2] at e2
  rw [hb, hl] at e1
  have h3 := sumH_le h
  refine ⟨by omega, fun e => ?_⟩
  have h4 := sumH_eq h (by omega)
  have h5 : ∀ k, k ≤ t.length → ht s k = ht t k := fun k hk => by
    by_cases q : k < t.length
    · exact h4 k q
    · rw [show k = t.length by omega, h2, ← hl, h1, hb]
  apply List.ext_getElem hl
  intro k k1 k2
  have a1 := h5 k (by omega)
  have a2 := h5 (k + 1) (by omega)
  unfold ht at a1 a2
  rw [List.take_succ_eq_append_getElem k1, List.take_succ_eq_append_getElem k2, cb_append, cb_append] at a2
  have a3 : cb [s[k]] = cb [t[k]] := by omega
  rcases hs _ (List.getElem_mem k1) with q1 | q1 <;> rcases ht' _ (List.getElem_mem k2) with q2 | q2 <;> rw [q1, q2] at a3 ⊢ <;> simp [cb] at a3
end VL71

/-! k71's mathematics: columns, lower words. -/
namespace VL71
/-- the heights at the signs a -/
def aH (y : Nat) : List Nat → List Nat
  | [] => []
  | c :: t => if c = 97 then y :: aH y t else aH (y + 1) t
theorem aH_cons (y c : Nat) (t : List Nat) : aH y (c :: t) = if c = 97 then y :: aH y t else aH (y + 1) t := rfl
theorem aH_sum : ∀ (t : List Nat) (y : Nat), (aH y t).sum = sq y t
  | [], y => rfl
  | c :: t, y => by
    rw [aH_cons, sq_cons]
    by_cases h : c = 97
    · rw [if_pos h, if_pos h, List.sum_cons, aH_sum t y]
    · rw [if_neg h, if_neg h, aH_sum t (y + 1)]
theorem aH_len : ∀ (t : List Nat) (y : Nat), (aH y t).length = ca t
  | [], y => rfl
  | c :: t, y => by
    rw [aH_cons]
    by_cases h : c = 97
    · have : ca (c :: t) = ca t + 1 := by simp [ca, h]
      rw [if_pos h, List.length_cons, aH_len t y, this]
    · have : ca (c :: t) = ca t := by simp [ca, h]
      rw [if_neg h, aH_len t (y + 1), this]
/-- the last point of a column -/
theorem aH_at : ∀ (t : List Nat) (y x h : Nat), (aH y t)[x]? = some h → ∃ k, k < t.length ∧ ca (t.take k) = x ∧ y + ht t k = h ∧ ca (t.take (k + 1)) = x + 1
  | [], y, x, h, e => by simp [aH] at e
  | c :: t, y, x, h, e => by
    rw [aH_cons] at e
    by_cases hc : c = 97
    · rw [if_pos hc] at e
      cases x with
      | zero =>
        simp at e
        exact ⟨0, by simp, rfl, by simp [ht, cb, e], by simp [ca, hc]⟩
      | succ x =>
        obtain ⟨k, k1, k2, k3, k4⟩ := aH_at t y x h (by simpa using e)
        refine ⟨k + 1, by simp; omega, ?_, ?_, ?_⟩
        · rw [List.take_succ_cons, ← k2]
          simp [ca, hc]
        · rw [← k3]
          simp [ht, cb, hc]
        · rw [List.take_succ_cons, ← k4]
          simp [ca, hc]
    · rw [if_neg hc] at e
      obtain ⟨k, k1, k2, k3, k4⟩ := aH_at t (y + 1) x h e
      refine ⟨k + 1, by simp; omega, ?_, ?_, ?_⟩
      · rw [List.take_succ_cons, ← k2]
        simp [ca, hc]
      · rw [← k3]
        simp [ht, cb, hc]
        omega
      · rw [List.take_succ_cons, ← k4]
        simp [ca, hc]
theorem ca_mono (t : List Nat) {i j : Nat} (h : i ≤ j) : ca (t.take i) ≤ ca (t.take j) := by
  have : t.take i = (t.take j).take i := by rw [List.take_take, Nat.min_eq_left h]
  rw [this]
  exact List.Sublist.countP_le (List.take_sublist ..)
theorem ht_mono (t : List Nat) {i j : Nat} (h : i ≤ j) : ht t i ≤ ht t j := by
  unfold ht
  have : t.take i = (t.take j).take i := by rw [List.take_take, Nat.min_eq_left h]
  rw [this]
  exact List.Sublist.countP_le (List.take_sublist ..)
/-- the highest of a column -/
theorem column {t : List Nat} {x h : Nat} (e : (aH 0 t)[x]? = some h) : (∃ k, k ≤ t.length ∧ ca (t.take k) = x ∧ ht t k = h) ∧ ∀ k, ca (t.take k) = x → ht t k ≤ h := by
  obtain ⟨k, k1, k2, k3, k4⟩ := aH_at t 0 x h e
  rw [Nat.zero_add] at k3
  refine ⟨⟨k, by omega, k2, k3⟩, fun j hj => ?_⟩
  by_cases q : j ≤ k
  · rw [← k3]
    exact ht_mono t q
  · have := ca_mono t (show k + 1 ≤ j by omega)
    omega
/-! ### far from the straight line -/
def oo (t : List Nat) (k : Nat) : Int := let z : Int := (ca (t.take k) : Int) * (cb t : Int) - (ht t k : Int) * (ca t : Int); if z < 0 then -z else z
theorem oo_rev (t : List Nat) {k : Nat} (h : k ≤ t.length) : oo t.reverse k = oo t (t.length - k) := by
  have e1 : t.reverse.take k = (t.drop (t.length - k)).reverse := by rw [List.take_reverse]
  have e2 : ca t = ca (t.take (t.length - k)) + ca (t.drop (t.length - k)) := by rw [← ca_append, List.take_append_drop]
  have e3 : cb t = cb (t.take (t.length - k)) + cb (t.drop (t.length - k)) := by rw [← cb_append, List.take_append_drop]
  unfold oo ht
  rw [e1, ca_reverse, cb_reverse, ca_reverse, cb_reverse]
  simp only []
  rw [e2, e3]
  generalize ca (t.take (t.length - k)) = u
  generalize ca (t.drop (t.length - k)) = u'
  generalize cb (t.take (t.length - k)) = v
  generalize cb (t.drop (t.length - k)) = v'
  have e4 : ((u' : Nat) : Int) * ((v + v' : Nat) : Int) - ((v' : Nat) : Int) * ((u + u' : Nat) : Int) = -(((u : Nat) : Int) * ((v + v' : Nat) : Int) - ((v : Nat) : Int) * ((u + u' : Nat) : Int)) := by
    rw [Int.natCast_add, Int.natCast_add, Int.mul_add, Int.mul_add, Int.mul_add, Int.mul_add]
    rw [Int.mul_comm (v' : Int) (u : Int), Int.mul_comm (v' : Int) (u' : Int), Int.mul_comm (v : Int) (u : Int), Int.mul_comm (v : Int) (u' : Int)]
    omega
  rw [e4]
  split <;> split <;> omega
def NA (t : List Nat) : Prop := ∀ k, k ≤ t.length → ht t k * ca t ≤ ca (t.take k) * cb t
theorem ca_take (t : List Nat) {k : Nat} (h : k ≤ t.length) : ca (t.take k) + ht t k = k := by
  have := ca_cb (t.take k)
  rw [List.length_take, Nat.min_eq_left h] at this
  exact this
theorem NA_iff {t : List Nat} : NA t ↔ ∀ k, k ≤ t.length → ht t k * t.length ≤ k * cb t := by
  unfold NA
  constructor
  · intro h k hk
    have h1 := h k hk
    have h2 := ca_take t hk
    have h3 := ca_cb t
    have h4 : ht t k * t.length = ht t k * ca t + ht t k * cb t := by rw [← h3, Nat.mul_add]
    have h5 : k * cb t = ca (t.take k) * cb t + ht t k * cb t := by rw [← Nat.add_mul, h2]
    omega
  · intro h k hk
    have h1 := h k hk
    have h2 := ca_take t hk
    have h3 := ca_cb t
    have h4 : ht t k * t.length = ht t k * ca t + ht t k * cb t := by rw [← h3, Nat.mul_add]
    have h5 : k * cb t = ca (t.take k) * cb t + ht t k * cb t := by rw [← Nat.add_mul, h2]
    omega
/-! ### lower words -/
def lowW (a b : Nat) : List Nat := (List.range (a + b)).map fun k => if b * k / (a + b) < b * (k + 1) / (a + b) then 98 else 97
theorem lowW_len (a b : Nat) : (lowW a b).length = a + b := by simp [lowW]
theorem low_step {a b k : Nat} (hn : 0 < a + b) : b * (k + 1) / (a + b) = b * k / (a + b) ∨ b * (k + 1) / (a + b) = b * k / (a + b) + 1 := by
  have h1 : b * k / (a + b) ≤ b * (k + 1) / (a + b) := Nat.div_le_div_right (Nat.mul_le_mul_left _ (by omega))
  have h2 : b * (k + 1) / (a + b) ≤ (b * k + (a + b)) / (a + b) := Nat.div_le_div_right (by rw [Nat.mul_add]; omega)
  rw [Nat.add_div_right _ hn] at h2
  omega
theorem ht_low {a b : Nat} (hn : 0 < a + b) : ∀ k, k ≤ a + b → ht (lowW a b) k = b * k / (a + b)
  | 0, _ => by simp [ht, cb]
  | k + 1, hk => by
    have ih := ht_low hn k (by omega)
    have hl : k < (lowW a b).length := by rw [lowW_len]; omega
    unfold ht at ih ⊢
    rw [List.take_succ_eq_append_getElem hl, cb_append, ih]
    have e : (lowW a b)[k] = if b * k / (a + b) < b * (k + 1) / (a + b) then 98 else 97 := by simp [lowW]
    rw [e]
    rcases low_step (k := k) hn with q | q
    · rw [if_neg (by omega), q]
      rfl
    · rw [if_pos (by omega), q]
      rfl
theorem cb_low {a b : Nat} (hn : 0 < a + b) : cb (lowW a b) = b := by
  have := ht_low hn (a + b) (Nat.le_refl _)
  unfold ht at this
  rw [List.take_of_length_le (by rw [lowW_len]; exact Nat.le_refl _), Nat.mul_div_cancel _ hn] at this
  exact this
theorem ca_low {a b : Nat} (hn : 0 < a + b) : ca (lowW a b) = a := by
  have := ca_cb (lowW a b)
  rw [cb_low hn, lowW_len] at this
  omega
theorem NA_low {a b : Nat} (hn : 0 < a + b) : NA (lowW a b) := by
  rw [NA_iff]
  intro k hk
  rw [lowW_len] at hk ⊢
  rw [ht_low hn k hk, cb_low hn, Nat.mul_comm k b]
  exact Nat.div_mul_le_self ..
/-- all other ways never above have no more squares -/
theorem low_most {a b : Nat} {s : List Nat} (hn : 0 < a + b) (hs : ∀ c ∈ s, c = 97 ∨ c = 98) (hl : s.length = a + b) (hb : cb s = b) (h : NA s) : sq 0 s ≤ sq 0 (lowW a b) ∧ (sq 0 s = sq 0 (lowW a b) → s = lowW a b) := by
  refine below_squares hs (fun c hc => ?_) (by rw [hl, lowW_len]) (by rw [hb, cb_low hn]) fun k hk => ?_
  · obtain ⟨k, _, rfl⟩ := List.mem_map.mp hc
    split
    · exact .inr rfl
    · exact .inl rfl
  · rw [lowW_len] at hk
    rw [ht_low hn k (by omega)]
    rw [NA_iff] at h
    have := h k (by omega)
    rw [hl, hb, Nat.mul_comm k b] at this
    exact (Nat.le_div_iff_mul_le hn).mpr this
/-- turned ones are near -/
theorem low_near {a b k i : Nat} (hn : 0 < a + b) (hk : k < a + b) (hi : i ≤ a + b) : oo ((lowW a b).drop k ++ (lowW a b).take k) i < ((a + b : Nat) : Int) := by
  have hlen := lowW_len a b
  have e2 : cb (lowW a b) = ht (lowW a b) k + cb ((lowW a b).drop k) := by unfold ht; rw [← cb_append, List.take_append_drop]
  have h0 := ht_low hn k (by omega)
  have hV : ht ((lowW a b).drop k ++ (lowW a b).take k) i + b * k / (a + b) = b * (k + i) / (a + b) := by
    unfold ht
    by_cases q : i ≤ a + b - k
    · rw [List.take_append_of_le_length (by rw [List.length_drop]; omega)]
      have e3 : cb ((lowW a b).take (k + i)) = cb ((lowW a b).take k) + cb (((lowW a b).drop k).take i) := by
        rw [← cb_append, List.take_add]
      have h1 := ht_low hn (k + i) (by omega)
      unfold ht at h0 h1
      omega
    · obtain ⟨j, rfl⟩ : ∃ j, i = (a + b - k) + j := ⟨i - (a + b - k), by omega⟩
      have e4 : ((lowW a b).drop k ++ (lowW a b).take k).take (a + b - k + j) = (lowW a b).drop k ++ (lowW a b).take j := by
        rw [List.take_append, List.length_drop, hlen, List.take_of_length_le (by rw [List.length_drop]; omega), List.take_take]
        congr 2
        omega
      rw [e4, cb_append]
      have h1 := ht_low hn j (by omega)
      have e5 : b * (k + (a + b - k + j)) / (a + b) = b + b * j / (a + b) := by
        rw [show k + (a + b - k + j) = j + (a + b) by omega, Nat.mul_add, Nat.add_mul_div_right _ _ hn]
        omega
      rw [e5]
      rw [cb_low hn] at e2
      unfold ht at h0 h1 e2
      omega
  have hca : ca ((lowW a b).drop k ++ (lowW a b).take k) = a := by
    have := ca_low hn
    rw [← List.take_append_drop k (lowW a b), ca_append] at this
    rw [ca_append]
    omega
  have hcb : cb ((lowW a b).drop k ++ (lowW a b).take k) = b := by
    have := cb_low hn
    rw [← List.take_append_drop k (lowW a b), cb_append] at this
    rw [cb_append]
    omega
  have hct := ca_take ((lowW a b).drop k ++ (lowW a b).take k) (k := i) (by simp [lowW_len]; omega)
  unfold oo
  rw [hca, hcb]
  generalize ht ((lowW a b).drop k ++ (lowW a b).take k) i = h at hV hct
  generalize ca (((lowW a b).drop k ++ (lowW a b).take k).take i) = u at hct
  have d1 := Nat.div_add_mod (b * (k + i)) (a + b)
  have d0 := Nat.div_add_mod (b * k) (a + b)
  have m1 := Nat.mod_lt (b * (k + i)) hn
  have m0 := Nat.mod_lt (b * k) hn
  generalize b * (k + i) % (a + b) = r1 at d1 m1
  generalize b * k % (a + b) = r0 at d0 m0
  rw [← hV, Nat.mul_add, Nat.mul_add b] at d1
  have z : (u : Int) * (b : Int) - (h : Int) * (a : Int) = ((b * i : Nat) : Int) - (((a + b) * h : Nat) : Int) := by
    rw [← hct]
    simp only [Int.natCast_mul, Int.natCast_add, Int.mul_add, Int.add_mul]
    rw [Int.mul_comm (b : Int) (u : Int), Int.mul_comm (a : Int) (h : Int)]
    omega
  simp only []
  rw [z]
  split <;> omega
end VL71

namespace VL
open PySem PySem.Spec PyProof.Rows L2 VL71
section
variable {G : Calls} {t : List Nat}
def AB (t : List Nat) : Prop := ∀ c ∈ t, c = 97 ∨ c = 98
def pt (u v : Nat) : D := .tup [.int (u : Nat), .int (v : Nat)]
def ptk (t : List Nat) (k : Nat) : D := pt (ca (t.take k)) (ht t k)
def pts (t : List Nat) : List D := (List.range (t.length + 1)).map (ptk t)
theorem pts_len (t : List Nat) : (pts t).length = t.length + 1 := by simp [pts]
theorem pts_F (t : List Nat) : D.isFL (pts t) = true := isFL_of fun x hx => by
  obtain ⟨y, _, rfl⟩ := List.mem_map.mp hx
  rfl
theorem pts_snoc (p : List Nat) (c : Nat) : pts (p ++ [c]) = pts p ++ [pt (ca (p ++ [c])) (cb (p ++ [c]))] := by
  unfold pts
  rw [List.length_append, List.length_singleton, List.range_succ, List.map_append]
  congr 1
  · apply List.map_congr_left
    intro k hk
    rw [List.mem_range] at hk
    unfold ptk ht
    rw [List.take_append_of_le_length (by omega)]
  · unfold ptk ht
    rw [List.map_singleton, List.take_of_length_le (by simp)]
theorem ca_snoc (p : List Nat) (c : Nat) : ca (p ++ [c]) = ca p + if c = 97 then 1 else 0 := by
  rw [ca_append]
  by_cases h : c = 97 <;> simp [ca, h]
theorem cb_snoc (p : List Nat) (c : Nat) : cb (p ++ [c]) = cb p + if c = 97 then 0 else 1 := by
  rw [cb_append]
  by_cases h : c = 97 <;> simp [cb, h]
theorem e_way (hl : t.length ≤ 1000) : callD G d0 [.str t] = .ok (.lst true (pts t)) [some (.str t)] := by
  refine (go_def (ρ0 := [some (.str t), none, none, none, none]) rfl rfl b0 ?_).ok
  refine go_seq (fun ρ => ρ = [some (.str t), none, none, some (.int 0), some (.int 0)]) (fun P' hP' => by simp; exact hP' _ rfl) ?_
  rintro _ rfl
  refine go_seq (fun ρ => ρ = [some (.str t), some (.lst true (pts [])), none, some (.int 0), some (.int 0)]) (fun P' hP' => by simp; exact hP' _ rfl) ?_
  rintro _ rfl
  refine go_seq (fun ρ => ∃ x2 x3 x4, ρ = [some (.str t), some (.lst true (pts t)), x2, x3, x4]) (fun P' hP' => ?_) ?_
  · refine go_forG ?_
    simp
    refine forK (fun c : Nat => D.str [c]) t (fun pre ρ => ∃ x2, ρ = [some (.str t), some (.lst true (pts pre)), x2, some (.int (ca pre : Nat)), some (.int (cb pre : Nat))]) rfl ⟨none, rfl⟩ ?_ ?_
    · rintro pre c q ρ e ⟨x2, rfl⟩ I' hI'
      have hpl : pre.length + 1 < 16777216 := by
        have := congrArg List.length e
        simp at this
        omega
      have h1 := ca_snoc pre c
      have h2 := cb_snoc pre c
      have h3 := pts_snoc pre c
      by_cases hc : c = 97
      · rw [if_pos hc] at h1 h2
        simp [hc, pts_len, hpl]
        refine hI' _ ⟨some (.str [c]), ?_⟩
        rw [h3, h1, h2, hc]
        rfl
      · rw [if_neg hc] at h1 h2
        simp [hc, pts_len, hpl]
        refine hI' _ ⟨some (.str [c]), ?_⟩
        rw [h3, h1, h2]
        rfl
    · rintro ρ ⟨x2, rfl⟩
      simp
      exact hP' _ ⟨_, _, _, rfl⟩
  rintro _ ⟨x2, x3, x4, rfl⟩
  simp
  rfl
theorem idx_pts {o : Bool} {k : Nat} (h : k ≤ t.length) : prim .idx [.lst o (pts t), .int (k : Int)] = some (ptk t k) := by
  have hp : (pts t)[k]? = some (ptk t k) := by
    unfold pts
    rw [List.getElem?_map, List.getElem?_range (by omega)]
    rfl
  exact idx_lst (pts_F t) k _ hp
theorem idx_last {o : Bool} : prim .idx [.lst o (pts t), .int (-1)] = some (pt (ca t) (cb t)) := by
  rw [pm_38, pts_len, ixAt_neg (Nat.succ_pos _)]
  have hp : (pts t)[t.length]? = some (ptk t t.length) := by
    unfold pts
    rw [List.getElem?_map, List.getElem?_range (by omega)]
    rfl
  show ((pts t)[t.length]?.bind fun d => if d.isF = true then some d else none) = _
  rw [hp]
  unfold ptk ht
  rw [List.take_length]
  rfl
theorem zipD_pts (t : List Nat) : zipD (t.map fun k => D.str [k]) (pts t) = (List.range t.length).map fun k : Nat => .tup [.str [(t[k]?).getD 0], ptk t k] := by
  apply List.ext_getElem?
  intro i
  have hl : (zipD (t.map fun k => D.str [k]) (pts t)).length = t.length := by rw [zipD_len, List.length_map, pts_len]; omega
  by_cases hi : i < t.length
  · cases e : (zipD (t.map fun k => D.str [k]) (pts t))[i]? with
    | none => rw [List.getElem?_eq_none_iff] at e; omega
    | some d =>
      obtain ⟨a, b, e1, e2, rfl⟩ := zipD_get e
      rw [List.getElem?_map, List.getElem?_eq_getElem hi] at e1
      unfold pts at e2
      rw [List.getElem?_map, List.getElem?_range (by omega)] at e2
      cases e1
      cases e2
      rw [List.getElem?_map, List.getElem?_range hi]
      simp [hi]
  · rw [List.getElem?_eq_none (by omega), List.getElem?_eq_none (by simp; omega)]
theorem asInts_nats (ls : List Nat) : asInts (nats ls) = some (ls.map fun x : Nat => (x : Int)) := by
  have e : nats ls = (ls.map fun x : Nat => (x : Int)).map D.int := by simp [nats, List.map_map, Function.comp_def]
  rw [e, asInts_map]
theorem sum_cast : ∀ ls : List Nat, (ls.map fun x : Nat => (x : Int)).sum = ((ls.sum : Nat) : Int)
  | [] => rfl
  | x :: ls => by rw [List.map_cons, List.sum_cons, List.sum_cons, sum_cast ls]; omega
theorem sum_nats {o : Bool} {ls : List Nat} : prim .sum [.lst o (nats ls)] = some (.int (ls.sum : Nat)) := by
  rw [pm_33, asInts_nats]
  simp only [Option.map_some, sum_cast]
def HWay (G : Calls) : Prop := ∀ t : List Nat, t.length ≤ 1000 → G 0 [.str t] = .ok (.lst true (pts t)) [some (.str t)]
theorem e_squares (H : HWay G) (hl : t.length ≤ 1000) : callD G d1 [.str t] = .ok (.int (sq 0 t : Nat)) [some (.str t)] := by
  refine (go_def (ρ0 := [some (.str t), none, none, none]) rfl rfl b1 ?_).ok
  simp
  refine go_comp (fun k : Nat => .tup [.str [(t[k]?).getD 0], ptk t k]) (List.range t.length) (fun pre acc ρ => ∃ hs x1 x2 x3, acc = nats hs ∧ hs.length ≤ pre.length ∧ hs.sum = sq 0 (t.take pre.length) ∧ ρ = [some (.str t), x1, x2, x3]) (ρ1 := [some (.str t), none, none, none]) ?_ ⟨[], none, none, none, rfl, Nat.le_refl _, rfl, rfl⟩ ?_ ?_
  · simp [H t hl, strOf, lstOf, pts_F, zipD_pts]
  · rintro p k q acc ρ e ⟨hs, x1, x2, x3, rfl, hhl, hsum, rfl⟩
    obtain ⟨hk, hpr, hkl⟩ := range_pre e
    rw [← hk] at hsum
    have hg : (t[k]?).getD 0 = t[k] := by rw [List.getElem?_eq_getElem hkl]; rfl
    have h1 : sq 0 (t.take (k + 1)) = sq 0 (t.take k) + if t[k] = 97 then ht t k else 0 := by
      rw [List.take_succ_eq_append_getElem hkl, sq_append, Nat.zero_add]
      by_cases c : t[k] = 97 <;> simp [sq, c, ht]
    by_cases c : t[k] = 97
    · rw [if_pos c] at h1
      simp [hg, ptk, pt, c, nats_len]
      refine ⟨by omega, hs ++ [ht t k], by rw [nats_snoc], by simp; omega, ?_⟩
      rw [← hk, h1, ← hsum]
      simp
    · rw [if_neg c] at h1
      simp [hg, ptk, pt, c]
      refine ⟨hs, rfl, by omega, ?_⟩
      rw [← hk, h1, ← hsum]
      simp
  · rintro acc ρ ⟨hs, x1, x2, x3, rfl, hhl, hsum, rfl⟩
    simp at hsum
    simp [-pm_33, sum_nats, hsum]
    rfl
/-! ### far from the straight line -/
def offs (t : List Nat) : List Int := (List.range (t.length + 1)).map (oo t)
def far (t : List Nat) : Int := (maxL (offs t)).getD 0
theorem foldMaxW : ∀ (xs : List Int) (x : Int), (xs.foldl (fun a b => if a < b then b else a) x) ∈ x :: xs ∧ ∀ y ∈ x :: xs, y ≤ xs.foldl (fun a b => if a < b then b else a) x := foldMax
theorem far_spec (t : List Nat) : maxL (offs t) = some (far t) ∧ (∃ k, k ≤ t.length ∧ oo t k = far t) ∧ ∀ k, k ≤ t.length → oo t k ≤ far t := by
  have h0 : ∃ m, maxL (offs t) = some m := by
    unfold offs
    rw [List.range_succ_eq_map]
    exact ⟨_, rfl⟩
  obtain ⟨m, hm⟩ := h0
  have hf : far t = m := by unfold far; rw [hm]; rfl
  obtain ⟨h1, h2⟩ := maxL_spec hm
  rw [hf]
  refine ⟨hm, ?_, fun k hk => ?_⟩
  · obtain ⟨k, hk, e⟩ := List.mem_map.mp h1
    rw [List.mem_range] at hk
    exact ⟨k, by omega, e⟩
  · exact h2 _ (List.mem_map.mpr ⟨k, List.mem_range.mpr (by omega), rfl⟩)
theorem far_rev (t : List Nat) : far t.reverse = far t := by
  obtain ⟨_, ⟨k, k1, k2⟩, k3⟩ := far_spec t
  obtain ⟨_, ⟨j, j1, j2⟩, j3⟩ := far_spec t.reverse
  rw [List.length_reverse] at j1 j3
  rw [oo_rev t j1] at j2
  have h1 := k3 (t.length - j) (by omega)
  have h2 := j3 (t.length - k) (by omega)
  rw [oo_rev t (by omega), show t.length - (t.length - k) = k by omega] at h2
  omega
theorem max_ints {o : Bool} {xs : List Int} {m : Int} (h : maxL xs = some m) : prim .max1 [.lst o (xs.map D.int)] = some (.int m) := by
  rw [pm_58, asInts_map]
  simp [h]
theorem small_mul {a b : Nat} (ha : a ≤ 1000) : prim .mul [.int (a : Nat), .int (b : Nat)] = some (.int ((a : Int) * (b : Int))) := by
  rw [pm_5, small2_iff.mpr (by omega)]
  rfl
theorem ca_le (t : List Nat) : ca t ≤ t.length ∧ cb t ≤ t.length := by
  have := ca_cb t
  omega
theorem pk_le (t : List Nat) (k : Nat) : ca (t.take k) ≤ t.length ∧ ht t k ≤ t.length := by
  have h := ca_cb (t.take k)
  rw [List.length_take] at h
  unfold ht
  omega
theorem e_far (H : HWay G) (hl : t.length ≤ 1000) : callD G d2 [.str t] = .ok (.int (far t)) [some (.str t)] := by
  refine (go_def (ρ0 := [some (.str t), none, none, none, none, none]) rfl rfl b2 ?_).ok
  have z1 : D.frzL (pts t) = pts t := frzL_id (pts_F t)
  refine go_seq (fun ρ => ρ = [some (.str t), some (.lst true (pts t)), none, none, none, none]) (fun P' hP' => by simp [H t hl]; exact hP' _ rfl) ?_
  rintro _ rfl
  refine go_seq (fun ρ => ρ = [some (.str t), some (.lst true (pts t)), some (.int (ca t : Nat)), some (.int (cb t : Nat)), none, none]) (fun P' hP' => ?_) ?_
  · simp [-pm_38, idx_last, pts_F, pt]
    exact hP' _ rfl
  rintro _ rfl
  simp
  refine go_mapG ?_
  simp [pts_F, z1]
  refine mapK (fun k : Nat => ptk t k) (List.range (t.length + 1)) (fun pre acc ρ => ∃ x4 x5, acc = (pre.map (oo t)).map D.int ∧ ρ = [some (.str t), some (.lst false (pts t)), some (.int (ca t : Nat)), some (.int (cb t : Nat)), x4, x5]) rfl (by simp; omega) ⟨_, _, rfl, rfl⟩ ?_ ?_
  · rintro p k q acc ρ e hl2 ⟨x4, x5, rfl, rfl⟩ I' hI'
    have hp := pk_le t k
    have e1 := small_mul (a := ca (t.take k)) (b := cb t) (by omega)
    have e2 := small_mul (a := ht t k) (b := ca t) (by omega)
    simp [-pm_5, ptk, pt, e1, e2]
    refine hI' _ _ ⟨some (.int (ca (t.take k) : Nat)), some (.int (ht t k : Nat)), ?_, rfl⟩
    simp [oo]
  · rintro acc ρ hl2 ⟨x4, x5, rfl, rfl⟩
    have e1 := max_ints (o := true) (far_spec t).1
    unfold offs at e1
    simp [-pm_58, -List.map_map, e1]
    rfl
theorem e_lfar (H : G 9 [.str t] = .ok (.lst true (pts t)) [some (.str t)]) (hl : t.length ≤ 1000) : callD G d11 [.str t] = .ok (.int (far t)) [some (.str t)] := by
  refine (go_def (ρ0 := [some (.str t), none, none, none, none, none]) rfl rfl b11 ?_).ok
  have z1 : D.frzL (pts t) = pts t := frzL_id (pts_F t)
  refine go_seq (fun ρ => ρ = [some (.str t), some (.lst true (pts t)), none, none, none, none]) (fun P' hP' => by simp [H]; exact hP' _ rfl) ?_
  rintro _ rfl
  refine go_seq (fun ρ => ρ = [some (.str t), some (.lst true (pts t)), some (.int (ca t : Nat)), some (.int (cb t : Nat)), none, none]) (fun P' hP' => ?_) ?_
  · simp [-pm_38, idx_last, pts_F, pt]
    exact hP' _ rfl
  rintro _ rfl
  simp
  refine go_mapG ?_
  simp [pts_F, z1]
  refine mapK (fun k : Nat => ptk t k) (List.range (t.length + 1)) (fun pre acc ρ => ∃ x4 x5, acc = (pre.map (oo t)).map D.int ∧ ρ = [some (.str t), some (.lst false (pts t)), some (.int (ca t : Nat)), some (.int (cb t : Nat)), x4, x5]) rfl (by simp; omega) ⟨_, _, rfl, rfl⟩ ?_ ?_
  · rintro p k q acc ρ e hl2 ⟨x4, x5, rfl, rfl⟩ I' hI'
    have hp := pk_le t k
    have e1 := small_mul (a := ca (t.take k)) (b := cb t) (by omega)
    have e2 := small_mul (a := ht t k) (b := ca t) (by omega)
    simp [-pm_5, ptk, pt, e1, e2]
    refine hI' _ _ ⟨some (.int (ca (t.take k) : Nat)), some (.int (ht t k : Nat)), ?_, rfl⟩
    have : (if (ca (t.take k) : Int) * (cb t : Int) - (ht t k : Int) * (ca t : Int) < (ht t k : Int) * (ca t : Int) - (ca (t.take k) : Int) * (cb t : Int) then (ht t k : Int) * (ca t : Int) - (ca (t.take k) : Int) * (cb t : Int) else (ca (t.take k) : Int) * (cb t : Int) - (ht t k : Int) * (ca t : Int)) = oo t k := by
      unfold oo
      simp only []
      split <;> split <;> omega
    simp [this]
  · rintro acc ρ hl2 ⟨x4, x5, rfl, rfl⟩
    have e1 := max_ints (o := true) (far_spec t).1
    unfold offs at e1
    simp [-pm_58, -List.map_map, e1]
    rfl
end
end VL

namespace VL
open PySem PySem.Spec PyProof.Rows L2 VL71
section
variable {G : Calls} {t : List Nat}
theorem AB.take {t : List Nat} (h : AB t) (k : Nat) : AB (t.take k) := fun c hc => h c (List.mem_of_mem_take hc)
theorem AB.drop {t : List Nat} (h : AB t) (k : Nat) : AB (t.drop k) := fun c hc => h c (List.mem_of_mem_drop hc)
theorem AB.append {s t : List Nat} (hs : AB s) (h : AB t) : AB (s ++ t) := fun c hc => by
  rcases List.mem_append.mp hc with q | q
  · exact hs c q
  · exact h c q
theorem cnt_a (t : List Nat) : (t.countP fun z => decide (z = 97)) = ca t := rfl
theorem cnt_b {t : List Nat} (h : AB t) : (t.countP fun z => decide (z = 98)) = cb t := by
  unfold cb
  apply List.countP_congr
  intro c hc
  rcases h c hc with rfl | rfl <;> decide
theorem count_a (t : List Nat) : prim .scount [.str t, .str [97]] = some (.int (ca t : Nat)) := rfl
theorem count_b {t : List Nat} (h : AB t) : prim .scount [.str t, .str [98]] = some (.int (cb t : Nat)) := by
  rw [pm_57]
  show some (D.int ((t.countP fun z => decide (z = 98) : Nat))) = _
  rw [cnt_b h]
theorem e_whole (i : Int) : callD G d5 [.int i] = .ok (.bl true) [some (.int i)] := by
  refine (go_def (ρ0 := [some (.int i)]) rfl rfl b5 ?_).ok
  simp [Ki.has]
  rfl
theorem e_lpts (h : AB t) (hl : t.length ≤ 1000) : callD G d9 [.str t] = .ok (.lst true (pts t)) [some (.str t)] := by
  refine (go_def (ρ0 := [some (.str t), none]) rfl rfl b9 ?_).ok
  have hs := small_nat (show t.length + 1 ≤ 100000000000 by omega)
  rw [show ((t.length + 1 : Nat) : Int) = (t.length : Int) + 1 by omega] at hs
  simp
  refine go_mapG ?_
  simp [hs]
  refine mapK (fun k : Nat => .int k) (List.range (t.length + 1)) (fun pre acc ρ => ∃ x1, acc = pre.map (ptk t) ∧ ρ = [some (.str t), x1]) (by rw [show (t.length : Int) + 1 = ((t.length + 1 : Nat) : Int) by omega, rngN]) (by simp; omega) ⟨_, rfl, rfl⟩ ?_ ?_
  · rintro p k q acc ρ e hl2 ⟨x1, rfl, rfl⟩ I' hI'
    obtain ⟨hk, hpr, hkl⟩ := range_pre e
    have hsk := small_nat (show k ≤ 100000000000 by omega)
    have e1 := clipN (show k ≤ t.length by omega)
    have e2 := count_a (t.take k)
    have e3 := count_b (h.take k)
    simp [-pm_57, hsk, e1, e2, e3]
    refine hI' _ _ ⟨_, ?_, rfl⟩
    simp [ptk, ht, pt]
  · rintro acc ρ hl2 ⟨x1, rfl, rfl⟩
    simp
    exact ⟨rfl, rfl⟩
theorem maxL_eq {xs : List Int} {m : Int} (h1 : m ∈ xs) (h2 : ∀ y ∈ xs, y ≤ m) : maxL xs = some m := by
  cases xs with
  | nil => cases h1
  | cons x xs =>
    obtain ⟨n, hn⟩ : ∃ n, maxL (x :: xs) = some n := ⟨_, rfl⟩
    obtain ⟨h3, h4⟩ := maxL_spec hn
    have h5 := h4 _ h1
    have h6 := h2 _ h3
    rw [hn, show n = m by omega]
theorem idx_pt0 (u v : D) (hu : u.isF = true) : prim .idx [.tup [u, v], .int 0] = some u := by
  show (if u.isF = true then some u else none) = _
  rw [if_pos hu]
theorem idx_pt1 (u v : D) (hv : v.isF = true) : prim .idx [.tup [u, v], .int 1] = some v := by
  show (if v.isF = true then some v else none) = _
  rw [if_pos hv]
def colH (t : List Nat) (x : Nat) (l : List Nat) : List Nat := (l.filter fun k => decide (ca (t.take k) = x)).map (ht t)
theorem max_col {o : Bool} {x h : Nat} (e : (aH 0 t)[x]? = some h) : prim .max1 [.lst o (nats (colH t x (List.range (t.length + 1))))] = some (.int (h : Nat)) := by
  obtain ⟨⟨k, k1, k2, k3⟩, c2⟩ := column e
  rw [pm_58, asInts_nats]
  simp only [Option.bind_some]
  rw [maxL_eq (m := (h : Int))]
  · rfl
  · refine List.mem_map.mpr ⟨h, ?_, rfl⟩
    unfold colH
    exact List.mem_map.mpr ⟨k, List.mem_filter.mpr ⟨List.mem_range.mpr (by omega), by simp [k2]⟩, k3⟩
  · intro y hy
    obtain ⟨y', hy', rfl⟩ := List.mem_map.mp hy
    unfold colH at hy'
    obtain ⟨j, hj, rfl⟩ := List.mem_map.mp hy'
    have h1 := (List.mem_filter.mp hj).2
    have h2 := c2 j (of_decide_eq_true h1)
    omega
theorem take_sum {l : List Nat} {i x : Nat} (h : l[i]? = some x) : (l.take (i + 1)).sum = (l.take i).sum + x := by
  rw [List.take_succ, h]
  simp
theorem e_lsq (H : G 9 [.str t] = .ok (.lst true (pts t)) [some (.str t)]) (h : AB t) (hl : t.length ≤ 1000) : callD G d10 [.str t] = .ok (.int (sq 0 t : Nat)) [some (.str t)] := by
  refine (go_def (ρ0 := [some (.str t), none, none, none, none, none, none]) rfl rfl b10 ?_).ok
  refine go_seq (fun ρ => ρ = [some (.str t), some (.lst true (pts t)), none, none, none, none, none]) (fun P' hP' => by simp [H]; exact hP' _ rfl) ?_
  rintro _ rfl
  refine go_seq (fun ρ => ρ = [some (.str t), some (.lst true (pts t)), some (.int (0 : Nat)), none, none, none, none]) (fun P' hP' => by simp; exact hP' _ rfl) ?_
  rintro _ rfl
  refine go_seq (fun ρ => ∃ o x3 x4 x5 x6, ρ = [some (.str t), some (.lst o (pts t)), some (.int (sq 0 t : Nat)), x3, x4, x5, x6]) (fun P' hP' => ?_) ?_
  · refine go_forG ?_
    have hcl := (ca_le t).1
    have hs := small_nat (show ca t ≤ 100000000000 by omega)
    simp [-pm_57, count_a, hs]
    refine forK (fun k : Nat => D.int k) (List.range (ca t)) (fun pre ρ => ∃ o x3 x4 x5 x6, ρ = [some (.str t), some (.lst o (pts t)), some (.int (((aH 0 t).take pre.length).sum : Nat)), x3, x4, x5, x6]) (rngN _) ⟨_, _, _, _, _, rfl⟩ ?_ ?_
    · rintro p x q ρ e ⟨o, x3, x4, x5, x6, rfl⟩ I' hI'
      obtain ⟨hk, hpr, hkl⟩ := range_pre e
      have hlen := aH_len t 0
      obtain ⟨hh, eh⟩ : ∃ hh, (aH 0 t)[x]? = some hh := ⟨(aH 0 t)[x]'(by omega), List.getElem?_eq_getElem (by omega)⟩
      have hhl : hh ≤ t.length := by
        obtain ⟨⟨k, k1, k2, k3⟩, c2⟩ := column eh
        have := (pk_le t k).2
        omega
      have z1 : D.frzL (pts t) = pts t := frzL_id (pts_F t)
      refine go_tg (ρ' := [some (.str t), some (.lst o (pts t)), some (.int (((aH 0 t).take p.length).sum : Nat)), some (.int x), x4, x5, x6]) rfl ?_
      refine go_seq (fun ρ => ∃ x5, ρ = [some (.str t), some (.lst false (pts t)), some (.int (((aH 0 t).take p.length).sum : Nat)), some (.int x), some (.int hh), x5, x6]) (fun P' hP' => ?_) ?_
      · simp
        refine go_comp (fun k : Nat => ptk t k) (List.range (t.length + 1)) (fun pre acc ρ => ∃ x5, acc = nats (colH t x pre) ∧ ρ = [some (.str t), some (.lst false (pts t)), some (.int (((aH 0 t).take p.length).sum : Nat)), some (.int x), x4, x5, x6]) (ρ1 := [some (.str t), some (.lst false (pts t)), some (.int (((aH 0 t).take p.length).sum : Nat)), some (.int x), x4, x5, x6]) ?_ ⟨x5, rfl, rfl⟩ ?_ ?_
        · cases o <;> simp [pts_F, z1] <;> rfl
        · rintro p' k q' acc ρ e' ⟨x5, rfl, rfl⟩
          obtain ⟨hk', hpr', hkl'⟩ := range_pre e'
          by_cases hc : ca (t.take k) = x
          · have e3 : colH t x (p' ++ [k]) = colH t x p' ++ [ht t k] := by simp [colH, hc]
            have e4 : (colH t x p').length ≤ p'.length := by
              unfold colH
              rw [List.length_map]
              exact List.length_filter_le ..
            have hg := idx_pt0 (.int (ca (t.take k) : Nat)) (.int (ht t k : Nat)) rfl
            have hg1 := idx_pt1 (.int (ca (t.take k) : Nat)) (.int (ht t k : Nat)) rfl
            rw [hc] at hg hg1
            simp [-pm_39, ptk, pt, hc, hg, hg1, nats_len]
            refine ⟨by omega, ?_⟩
            rw [e3, nats_snoc]
          · have e3 : colH t x (p' ++ [k]) = colH t x p' := by simp [colH, hc]
            have hc' : ¬ ((ca (t.take k) : Int) = (x : Int)) := by omega
            have hg := idx_pt0 (.int (ca (t.take k) : Nat)) (.int (ht t k : Nat)) rfl
            simp [-pm_39, ptk, pt, hg, hc, hc']
            rw [e3]
        · rintro acc ρ ⟨x5, rfl, rfl⟩
          have e1 := max_col (o := true) eh
          simp [-pm_58, e1]
          exact hP' _ ⟨_, rfl⟩
      rintro _ ⟨x5, rfl⟩
      have hs2 := small_nat (show hh ≤ 100000000000 by omega)
      have hs3 : hh ≤ 16777216 := by omega
      simp
      refine go_mapG ?_
      simp [hs2, hs3]
      refine mapK (fun k : Nat => .int k) (List.range hh) (fun pre acc ρ => ∃ x6, ρ = [some (.str t), some (.lst false (pts t)), some (.int (((aH 0 t).take p.length).sum : Nat)), some (.int x), some (.int hh), x5, x6]) (rngN _) (by simp; omega) ⟨_, rfl⟩ ?_ ?_
      · rintro p' k q' acc ρ e' hl2 ⟨y6, rfl⟩ I'' hI''
        simp
        exact hI'' _ _ ⟨_, rfl⟩
      · rintro acc ρ hl2 ⟨y6, rfl⟩
        simp at hl2
        simp [hl2]
        refine hI' _ ⟨false, some (.int x), some (.int hh), x5, x6, ?_⟩
        rw [List.length_append, List.length_singleton, ← hk, take_sum eh]
        simp
    · rintro ρ ⟨o, x3, x4, x5, x6, rfl⟩
      simp
      refine hP' _ ⟨o, x3, x4, x5, x6, ?_⟩
      rw [List.take_of_length_le (by rw [aH_len]; exact Nat.le_refl _), aH_sum]
  rintro _ ⟨o, x3, x4, x5, x6, rfl⟩
  simp
  rfl
end
end VL

namespace VL
open PySem PySem.Spec PyProof.Rows L2 VL71
section
variable {G : Calls} {f : D} {Q : D → List (Option D) → Prop}
theorem e_lowW {a b : Nat} (hn : 0 < a + b) (h : a + b ≤ 1000) : callD G d6 [.int a, .int b] = .ok (.str (lowW a b)) [some (.int a), some (.int b)] := by
  obtain ⟨n, en⟩ : ∃ n, n = a + b := ⟨_, rfl⟩
  have hc : (a : Int) + (b : Int) = (n : Int) := by omega
  have hs := small_nat (show n ≤ 100000000000 by omega)
  refine (go_def (ρ0 := [some (.int a), some (.int b), none, none]) rfl rfl b6 ?_).ok
  refine go_seq (fun ρ => ρ = [some (.int a), some (.int b), some (.int n), none]) (fun P' hP' => by simp [hc]; exact hP' _ rfl) ?_
  rintro _ rfl
  simp
  refine go_mapG ?_
  simp [hs, show n ≤ 16777216 by omega]
  refine mapK (fun k : Nat => D.int k) (List.range n) (fun pre acc ρ => ∃ x3, acc = (pre.map fun k => if b * k / n < b * (k + 1) / n then 98 else 97).map (fun c => D.str [c]) ∧ ρ = [some (.int a), some (.int b), some (.int n), x3]) (rngN n) (by simp; omega) ⟨_, rfl, by rfl⟩ ?_ ?_
  · rintro p k q acc ρ e hl2 ⟨x3, rfl, rfl⟩ I' hI'
    obtain ⟨hk, hpr, hkl⟩ := range_pre e
    have e1 : prim .mul [.int (b : Int), .int ((k : Int) + 1)] = some (.int ((b * (k + 1) : Nat) : Int)) := by
      have := small_mul (a := b) (b := k + 1) (by omega)
      simpa using this
    have e2 : prim .mul [.int (b : Int), .int (k : Int)] = some (.int ((b * k : Nat) : Int)) := by
      have := small_mul (a := b) (b := k) (by omega)
      simpa using this
    have d2 : ∀ m : Nat, prim .fdiv [.int (m : Int), .int (n : Int)] = some (.int ((m / n : Nat) : Int)) := fun m => by
      rw [pm_8, if_pos (by omega)]
      rfl
    have d3 := d2 (b * k)
    have d4 := d2 (b * (k + 1))
    simp [-pm_5, -pm_8, -Int.natCast_mul, e1, e2, d3, d4]
    by_cases c : b * k / n < b * (k + 1) / n
    · have c' : (b : Int) * k / n < (b : Int) * (k + 1) / n := by
        have := Int.ofNat_lt.mpr c
        simpa using this
      simp [c']
      exact hI' (.str [98]) _ ⟨_, by simp [c], rfl⟩
    · have c' : ¬ (b : Int) * k / n < (b : Int) * (k + 1) / n := by
        have := fun h => c (Int.ofNat_lt.mp h)
        simpa using this
      simp [if_neg c']
      exact hI' (.str [97]) _ ⟨_, by simp [c], rfl⟩
  · rintro acc ρ hl2 ⟨x3, rfl, rfl⟩
    have hj := join_chr (o := true) (cs := lowW a b) (by rw [lowW_len]; omega)
    unfold lowW at hj
    rw [← en] at hj
    simp [-List.map_map, hj]
    refine ⟨?_, rfl⟩
    unfold lowW
    rw [← en]
theorem e_div {a b : Nat} (h0 : 0 < a + b) : ∃ d : Nat, 1 ≤ d ∧ (d ≤ a ∨ d ≤ b) ∧ callD G d7 [.int a, .int b] = .ok (.int d) [none, none] := by
  have hg : Go (callD G d7 [.int a, .int b]) (fun y s => ∃ d : Nat, 1 ≤ d ∧ (d ≤ a ∨ d ≤ b) ∧ y = .int d ∧ s = [none, none]) := by
    refine go_def (ρ0 := [some (.int a), some (.int b), none]) rfl rfl b7 ?_
    refine go_seq (fun ρ => ∃ (c d : Nat) (x2 : Option D), 1 ≤ c ∧ (c ≤ a ∨ c ≤ b) ∧ ρ = [some (.int c), some (.int d), x2]) (fun P' hP' => ?_) ?_
    · refine go_forG ?_
      have hs2 : small64 200 = true := by decide
      simp [hs2]
      refine forK (fun k : Nat => D.int k) (List.range 200) (fun pre ρ => ∃ (c d : Nat) (x2 : Option D), (0 < pre.length → 1 ≤ c) ∧ 1 ≤ c + d ∧ (c ≤ a ∨ c ≤ b) ∧ (d ≤ a ∨ d ≤ b) ∧ ρ = [some (.int c), some (.int d), x2]) (rngN 200) ⟨a, b, none, by simp, by omega, by omega, by omega, rfl⟩ ?_ ?_
      · rintro p k q ρ e ⟨c, d, x2, h1, h2, h3, h4, rfl⟩ I' hI'
        by_cases hd : 0 < d
        · simp [hd]
          refine hI' _ ⟨d, c % d, some (.int k), by intro _; omega, by omega, h4, ?_, by simp⟩
          have := Nat.mod_lt c hd
          omega
        · simp [hd]
          exact hI' _ ⟨c, d, some (.int k), by omega, h2, h3, h4, rfl⟩
      · rintro ρ ⟨c, d, x2, h1, h2, h3, h4, rfl⟩
        simp
        exact hP' _ ⟨c, d, x2, h1 (by simp), h3, rfl⟩
    rintro _ ⟨c, d, x2, h1, h2, rfl⟩
    simp
    exact ⟨c, h1, h2, rfl, rfl⟩
  obtain ⟨y, s, h1, d, h2, h3, rfl, rfl⟩ := hg
  exact ⟨d, h2, h3, h1⟩
theorem ab_at {r : Nat} (h : r < 2) : fn [97, 98] r = 97 ∨ fn [97, 98] r = 98 := by
  have : r = 0 ∨ r = 1 := by omega
  rcases this with rfl | rfl
  · exact .inl rfl
  · exact .inr rfl
theorem e_signs (hD : Draws G 4) (hf : Feed f) {m : Nat} (hm : m ≤ 60) (hQ : ∀ t f', AB t → t.length ≤ m → Feed f' → Q (.str t) [some f', some (.int m)]) : Go (callD G d8 [f, .int m]) Q := by
  refine go_def (ρ0 := [some f, some (.int m), none, none, none]) rfl rfl b8 ?_
  refine go_seq (fun ρ => ∃ (f' : D) (r : Nat), Feed f' ∧ ρ = [some f', some (.int m), some (.int r), none, none]) (fun P' hP' => ?_) ?_
  · simp
    refine go_drawN (m := 3) hD hf (by omega) (by omega) fun r f2 hr hf2 => ?_
    simp [hf.flat]
    exact hP' _ ⟨f2, r, hf2, rfl⟩
  rintro _ ⟨f1, r, hf1, rfl⟩
  have hab := fun (i : Nat) (h : i < 2) => idx_strN (x := [97, 98]) (i := i) h
  by_cases c : r = 0
  · subst c
    simp
    refine go_forG ?_
    simp
    refine go_drawN (m := 7) hD hf1 (by omega) (by omega) fun k f2 hk hf2 => ?_
    have hs := small_nat (show k ≤ 100000000000 by omega)
    simp [hf1.flat, hs]
    refine forK (fun k : Nat => D.int k) (List.range k) (fun pre ρ => ∃ (f' : D) (t : List Nat) (x4 : Option D), AB t ∧ t.length ≤ pre.length * 9 ∧ Feed f' ∧ ρ = [some f', some (.int m), some (.int 0), some (.str t), x4]) (rngN _) ⟨f2, [], none, fun c h => by simp at h, by simp, hf2, rfl⟩ ?_ ?_
    · rintro p x q ρ e ⟨f', t, x4, ht, htl, hf', rfl⟩ I' hI'
      obtain ⟨hk', hpr, hkl⟩ := range_pre e
      simp
      refine go_drawN (m := 2) hD hf' (by omega) (by omega) fun i f3 hi hf3 => ?_
      simp [hf'.flat, -pm_40, hab i hi]
      refine go_drawN (m := 9) hD hf3 (by omega) (by omega) fun j f4 hj hf4 => ?_
      have hm := mul_str (c := [fn [97, 98] i]) (n := 1 + j) (by simp; omega) (by omega)
      rw [rep_flat, show ((1 + j : Nat) : Int) = 1 + (j : Int) by omega] at hm
      have hl : t.length + (1 + j) ≤ 16777216 := by omega
      simp [hf3.flat, hm, hl]
      refine hI' _ ⟨f4, t ++ List.replicate (1 + j) (fn [97, 98] i), _, ?_, ?_, hf4, rfl⟩
      · refine ht.append fun c hc => ?_
        rw [List.eq_of_mem_replicate hc]
        exact ab_at hi
      · simp
        omega
    · rintro ρ ⟨f', t, x4, ht, htl, hf', rfl⟩
      have hs := small_nat (show m ≤ 100000000000 by omega)
      simp [hs]
      refine hQ _ _ (ht.take _) ?_ hf'
      rw [List.length_take, clip_nat]
      omega
  · simp [c]
    refine go_mapG ?_
    simp
    have hms := Int.natCast_succ m
    have hx : (m : Int) + 1 = ((m + 1 : Nat) : Int) := by omega
    rw [hx]
    refine go_drawN (m := m + 1) hD hf1 (by omega) (by omega) fun k f2 hk hf2 => ?_
    have hs := small_nat (show k ≤ 100000000000 by omega)
    simp [hf1.flat, hs, show k ≤ 16777216 by omega]
    refine mapK (fun k : Nat => D.int k) (List.range k) (fun pre acc ρ => ∃ (f' : D) (t : List Nat) (x4 : Option D), AB t ∧ t.length = pre.length ∧ Feed f' ∧ acc = t.map (fun c => D.str [c]) ∧ ρ = [some f', some (.int m), some (.int r), none, x4]) (rngN _) (by simp; omega) ⟨f2, [], none, fun c h => by simp at h, by simp, hf2, rfl, rfl⟩ ?_ ?_
    · rintro p x q acc ρ e hl2 ⟨f', t, x4, ht, htl, hf', rfl, rfl⟩ I' hI'
      simp
      refine go_drawN (m := 2) hD hf' (by omega) (by omega) fun i f3 hi hf3 => ?_
      simp [hf'.flat, -pm_40, hab i hi]
      refine hI' _ _ ⟨f3, t ++ [fn [97, 98] i], _, ?_, by simp; omega, hf3, by simp, rfl⟩
      refine ht.append fun c hc => ?_
      rw [List.mem_singleton.mp hc]
      exact ab_at hi
    · rintro acc ρ hl2 ⟨f', t, x4, ht, htl, hf', rfl, rfl⟩
      simp at htl
      have hj := join_chr (o := true) (cs := t) (by omega)
      simp [hj]
      exact hQ _ _ ht (by omega) hf'
/-- what neighbours exchanged give -/
theorem e_exc (hD : Draws G 4) (hf : Feed f) {t : List Nat} (h2 : 2 ≤ t.length) (hl : t.length ≤ 1000) (hQ : ∀ s c d u f', t = s ++ c :: d :: u → Feed f' → Q (.str (s ++ d :: c :: u)) [some f', some (.str t)]) : Go (callD G d14 [f, .str t]) Q := by
  refine go_def (ρ0 := [some f, some (.str t), none]) rfl rfl b14 ?_
  have hx : (t.length : Int) - 1 = ((t.length - 1 : Nat) : Int) := by omega
  refine go_seq (fun ρ => ∃ (f' : D) (k : Nat), k < t.length - 1 ∧ Feed f' ∧ ρ = [some f', some (.str t), some (.int k)]) (fun P' hP' => ?_) ?_
  · simp
    rw [hx]
    refine go_drawN (m := t.length - 1) hD hf (by omega) (by omega) fun k f2 hk hf2 => ?_
    simp [hf.flat]
    exact hP' _ ⟨f2, k, hk, hf2, rfl⟩
  rintro _ ⟨f1, k, hk, hf1, rfl⟩
  have s1 := small_nat (show k ≤ 100000000000 by omega)
  have s2 := small_nat (show k + 2 ≤ 100000000000 by omega)
  have e1 := idx_strN (x := t) (i := k) (by omega)
  have e2 := idx_strN (x := t) (i := k + 1) (by omega)
  have c1 := clipN (show k ≤ t.length by omega)
  have c2 := clipN (show k + 2 ≤ t.length by omega)
  rw [show ((k + 1 : Nat) : Int) = (k : Int) + 1 by omega] at e2
  rw [show ((k + 2 : Nat) : Int) = (k : Int) + 2 by omega] at s2 c2
  have l1 : (t.take k).length = k := by rw [List.length_take]; omega
  simp [-pm_40, s1, s2, e1, e2, c1, c2, Nat.min_eq_left (show k ≤ t.length by omega), show k + 1 ≤ 16777216 by omega, show k + 1 + 1 ≤ 16777216 by omega, show k + 1 + 1 + (t.length - (k + 2)) ≤ 16777216 by omega]
  have ht : t = t.take k ++ fn t k :: fn t (k + 1) :: t.drop (k + 2) := by
    have g1 : fn t k = t[k] := by simp [fn, show k < t.length by omega]
    have g2 : fn t (k + 1) = t[k + 1] := by simp [fn, show k + 1 < t.length by omega]
    rw [g1, g2, ← List.drop_eq_getElem_cons, ← List.drop_eq_getElem_cons, List.take_append_drop]
  have := hQ (t.take k) (fn t k) (fn t (k + 1)) (t.drop (k + 2)) f1 ht hf1
  simpa [show outS d14 [some f1, some (.str t), some (.int k)] = [some f1, some (.str t)] from rfl] using this
end
end VL

namespace VL
open PySem PySem.Spec PyProof.Rows L2 VL71
section
variable {G : Calls} {f : D} {Q : D → List (Option D) → Prop} {t : List Nat}
theorem deqvL_self : ∀ xs : List D, (∀ x ∈ xs, deqv x x = true) → deqvL xs xs = true
  | [], _ => rfl
  | x :: xs, h => by rw [deqvL_cc, h x (by simp), deqvL_self xs fun y hy => h y (by simp [hy])]; rfl
theorem pts_self (t : List Nat) : deqvL (pts t) (pts t) = true := deqvL_self _ fun x hx => by
  obtain ⟨k, _, rfl⟩ := List.mem_map.mp hx
  simp [ptk, pt]
theorem pts_shal (n : Nat) (t : List Nat) : shalL (n + 1) (pts t) = true := by
  rw [shalL_all, List.all_eq_true]
  intro x hx
  obtain ⟨k, _, rfl⟩ := List.mem_map.mp hx
  simp [ptk, pt]
theorem ne_pts {o p : Bool} : prim .ne [.lst o (pts t), .lst p (pts t)] = some (.bl false) := by
  rw [pm_13, shal_lst, shal_lst, pts_shal, Bool.and_self, if_pos rfl, deqv_lsts, pts_self]
  rfl
theorem eq_pts {o p : Bool} : prim .eq [.lst o (pts t), .lst p (pts t)] = some (.bl true) := by
  rw [pm_12, shal_lst, shal_lst, pts_shal, Bool.and_self, if_pos rfl, deqv_lsts, pts_self]
theorem eq_ii (a b : Int) : prim .eq [.int a, .int b] = some (.bl (decide (a = b))) := by
  rw [pm_12]
  simp
structure HR (G : Calls) : Prop where
  way : ∀ t : List Nat, t.length ≤ 1000 → G 0 [.str t] = .ok (.lst true (pts t)) [some (.str t)]
  sq : ∀ t : List Nat, t.length ≤ 1000 → G 1 [.str t] = .ok (.int (sq 0 t : Nat)) [some (.str t)]
  far : ∀ t : List Nat, t.length ≤ 1000 → G 2 [.str t] = .ok (.int (far t)) [some (.str t)]
  wh : ∀ i : Int, G 5 [.int i] = .ok (.bl true) [some (.int i)]
  lpts : ∀ t : List Nat, AB t → t.length ≤ 1000 → G 9 [.str t] = .ok (.lst true (pts t)) [some (.str t)]
  lsq : ∀ t : List Nat, AB t → t.length ≤ 1000 → G 10 [.str t] = .ok (.int (VL71.sq 0 t : Nat)) [some (.str t)]
  lfar : ∀ t : List Nat, AB t → t.length ≤ 1000 → G 11 [.str t] = .ok (.int (VL.far t)) [some (.str t)]
theorem e_right (H : HR G) (h : AB t) (hl : t.length ≤ 1000) : callD G d12 [.str t] = .ok (.bl true) [some (.str t)] := by
  refine (go_def (ρ0 := [some (.str t), none, none, none, none, none, none]) rfl rfl b12 ?_).ok
  refine go_seq (fun ρ => ρ = [some (.str t), some (.lst true (pts t)), none, none, none, none, none]) (fun P' hP' => by simp [H.way t hl]; exact hP' _ rfl) ?_
  rintro _ rfl
  refine go_seq (fun ρ => ρ = [some (.str t), some (.lst true (pts t)), some (.lst true (pts t)), none, none, none, none]) (fun P' hP' => by simp [H.lpts t h hl]; exact hP' _ rfl) ?_
  rintro _ rfl
  refine go_seq (fun ρ => ρ = [some (.str t), some (.lst true (pts t)), some (.lst true (pts t)), none, none, none, none]) (fun P' hP' => by simp [-pm_13, ne_pts, Ki.has]; exact hP' _ rfl) ?_
  rintro _ rfl
  refine go_seq (fun ρ => ∃ x3, ρ = [some (.str t), some (.lst true (pts t)), some (.lst true (pts t)), x3, none, none, none]) (fun P' hP' => ?_) ?_
  · refine go_forKeep rfl (pts_F t) ?_
    refine forK (fun k : Nat => ptk t k) (List.range (t.length + 1)) (fun pre ρ => ∃ x3, ρ = [some (.str t), none, some (.lst true (pts t)), x3, none, none, none]) rfl ⟨none, rfl⟩ ?_ ?_
    · rintro p k q ρ e ⟨x3, rfl⟩ I' hI'
      have g0 := idx_pt0 (.int (ca (t.take k) : Nat)) (.int (ht t k : Nat)) rfl
      have g1 := idx_pt1 (.int (ca (t.take k) : Nat)) (.int (ht t k : Nat)) rfl
      simp [-pm_39, ptk, pt, g0, g1, H.wh, Ki.has]
      exact hI' _ ⟨_, rfl⟩
    · rintro ρ ⟨x3, rfl⟩
      simp
      exact hP' _ ⟨_, rfl⟩
  rintro _ ⟨x3, rfl⟩
  refine go_seq (fun ρ => ρ = [some (.str t), some (.lst true (pts t ++ [pt 0 0])), some (.lst true (pts t)), x3, none, none, none]) (fun P' hP' => ?_) ?_
  · simp [pts_len, show t.length + 1 < 16777216 by omega]
    exact hP' _ rfl
  rintro _ rfl
  refine go_seq (fun ρ => ρ = [some (.str t), some (.lst true (pts t ++ [pt 0 0])), some (.lst true (pts t)), x3, some (.int (sq 0 t : Nat)), none, none]) (fun P' hP' => by simp [H.sq t hl]; exact hP' _ rfl) ?_
  rintro _ rfl
  refine go_seq (fun ρ => ρ = [some (.str t), some (.lst true (pts t ++ [pt 0 0])), some (.lst true (pts t)), x3, some (.int (sq 0 t : Nat)), some (.int (far t)), none]) (fun P' hP' => by simp [H.far t hl]; exact hP' _ rfl) ?_
  rintro _ rfl
  refine go_seq (fun ρ => ρ = [some (.str t), some (.lst true (pts t ++ [pt 0 0])), some (.lst true (pts t)), x3, some (.int (sq 0 t : Nat)), some (.int (far t)), none]) (fun P' hP' => by simp [H.wh, H.lsq t h hl, H.lfar t h hl]; exact hP' _ rfl) ?_
  rintro _ rfl
  have hr : t.reverse.length ≤ 1000 := by simp; omega
  refine go_seq (fun ρ => ρ = [some (.str t), some (.lst true (pts t ++ [pt 0 0])), some (.lst true (pts t)), x3, some (.int (sq 0 t : Nat)), some (.int (far t)), some (.int (sq 0 t.reverse : Nat))]) (fun P' hP' => by simp [H.sq _ hr]; exact hP' _ rfl) ?_
  rintro _ rfl
  have hm := small_mul (a := ca t) (b := cb t) (by have := (ca_le t).1; omega)
  have hb : (sq 0 t : Int) + (sq 0 t.reverse : Int) = (ca t : Int) * (cb t : Int) := by
    have := sq_back t
    have h2 := congrArg (fun n : Nat => (n : Int)) this
    simpa using h2
  simp [-pm_12, eq_ii, -pm_57, -pm_5, H.way t hl, eq_pts, count_a, count_b h, hm, H.far _ hr, far_rev, hb]
  rfl
theorem e_nab (H : HR G) (h : AB t) (hl : t.length ≤ 1000) : ∃ b : Bool, (b = true ↔ NA t) ∧ callD G d13 [.str t] = .ok (.bl b) [some (.str t)] := by
  have hg : Go (callD G d13 [.str t]) (fun y s => ∃ b : Bool, (b = true ↔ NA t) ∧ y = .bl b ∧ s = [some (.str t)]) := by
    refine go_def (ρ0 := [some (.str t), none, none, none, none]) rfl rfl b13 ?_
    refine go_seq (fun ρ => ρ = [some (.str t), some (.lst true (pts t)), none, none, none]) (fun P' hP' => by simp [H.lpts t h hl]; exact hP' _ rfl) ?_
    rintro _ rfl
    refine go_seq (fun ρ => ρ = [some (.str t), some (.lst true (pts t)), some (.int (ca t : Nat)), some (.int (cb t : Nat)), none]) (fun P' hP' => ?_) ?_
    · simp [-pm_38, idx_last, pts_F, pt]
      exact hP' _ rfl
    rintro _ rfl
    have z1 : D.frzL (pts t) = pts t := frzL_id (pts_F t)
    simp
    refine go_comp (fun k : Nat => ptk t k) (List.range (t.length + 1)) (fun pre acc ρ => ∃ x4, (acc = [] ↔ ∀ k ∈ pre, ht t k * ca t ≤ ca (t.take k) * cb t) ∧ acc.length ≤ pre.length ∧ D.isFL acc = true ∧ ρ = [some (.str t), some (.lst false (pts t)), some (.int (ca t : Nat)), some (.int (cb t : Nat)), x4]) (ρ1 := [some (.str t), some (.lst false (pts t)), some (.int (ca t : Nat)), some (.int (cb t : Nat)), none]) ?_ ⟨none, by simp, by simp, rfl, rfl⟩ ?_ ?_
    · simp [pts_F, z1]
      rfl
    · rintro p k q acc ρ e ⟨x4, ha, hal, haf, rfl⟩
      obtain ⟨hk, hpr, hkl⟩ := range_pre e
      have hp := pk_le t k
      have g0 := idx_pt0 (.int (ca (t.take k) : Nat)) (.int (ht t k : Nat)) rfl
      have g1 := idx_pt1 (.int (ca (t.take k) : Nat)) (.int (ht t k : Nat)) rfl
      have m1 := small_mul (a := ht t k) (b := ca t) (by omega)
      have m2 := small_mul (a := ca (t.take k)) (b := cb t) (by omega)
      by_cases c : ht t k * ca t ≤ ca (t.take k) * cb t
      · have c' : ¬ ((ca (t.take k) : Int) * (cb t : Int) < (ht t k : Int) * (ca t : Int)) := by
          have := Int.ofNat_le.mpr c
          simp only [Int.natCast_mul] at this
          omega
        simp [-pm_39, -pm_5, ptk, pt, g0, g1, m1, m2, c']
        refine ⟨⟨fun z j hj => ?_, fun z => ha.mpr fun j hj => z j (.inl hj)⟩, by omega, haf⟩
        rcases hj with hj | rfl
        · exact ha.mp z j hj
        · exact c
      · have c' : ((ca (t.take k) : Int) * (cb t : Int) < (ht t k : Int) * (ca t : Int)) := by
          have := Int.ofNat_lt.mpr (Nat.lt_of_not_le c)
          simpa using this
        simp [-pm_39, -pm_5, ptk, pt, g0, g1, m1, m2, c']
        exact ⟨by omega, .inr (by omega), by omega, haf⟩
    · rintro acc ρ ⟨x4, ha, hal, haf, rfl⟩
      have hna : acc = [] ↔ NA t := ha.trans ⟨fun z k hk => z k (List.mem_range.mpr (by omega)), fun z k hk => z k (by have := List.mem_range.mp hk; omega)⟩
      simp
      by_cases q : acc = []
      · exact .inr ⟨hna.mp q, q, rfl⟩
      · exact .inl ⟨fun z => q (hna.mpr z), q, rfl⟩
  obtain ⟨y, s, h1, b, h2, rfl, rfl⟩ := hg
  exact ⟨b, h2, h1⟩
end
end VL

namespace VL
open PySem PySem.Spec PyProof.Rows L2 VL71
section
variable {G : Calls} {f : D} {Q : D → List (Option D) → Prop} {t : List Nat}
def HRight (G : Calls) : Prop := ∀ t : List Nat, AB t → t.length ≤ 1000 → G 12 [.str t] = .ok (.bl true) [some (.str t)]
def HNab (G : Calls) : Prop := ∀ t : List Nat, AB t → t.length ≤ 1000 → ∃ b : Bool, (b = true ↔ NA t) ∧ G 13 [.str t] = .ok (.bl b) [some (.str t)]
def HExc (G : Calls) : Prop := ∀ (f : D) (t : List Nat) (Q : D → List (Option D) → Prop), Feed f → 2 ≤ t.length → t.length ≤ 1000 → (∀ s c d u f', t = s ++ c :: d :: u → Feed f' → Q (.str (s ++ d :: c :: u)) [some f', some (.str t)]) → Go (G 14 [f, .str t]) Q
theorem low_AB (a b : Nat) : AB (lowW a b) := fun c hc => by
  obtain ⟨k, _, rfl⟩ := List.mem_map.mp hc
  split
  · exact .inr rfl
  · exact .inl rfl
theorem far_low {a b k : Nat} (hn : 0 < a + b) (hk : k < a + b) : far ((lowW a b).drop k ++ (lowW a b).take k) < ((a + b : Nat) : Int) := by
  obtain ⟨_, ⟨i, h1, h2⟩, _⟩ := far_spec ((lowW a b).drop k ++ (lowW a b).take k)
  rw [← h2]
  refine low_near hn hk ?_
  have := lowW_len a b
  simp at h1
  omega
theorem ne_strs (a b : List Nat) : prim .ne [.str a, .str b] = some (.bl (!decide (a = b))) := by
  rw [pm_13]
  simp
theorem e_lr (hD : Draws G 4) (H : HR G) (H12 : HRight G) (H13 : HNab G) (H14 : HExc G) (hf : Feed f) {a b : Nat} (hn : 0 < a + b) (hl : a + b ≤ 100) (hQ : ∀ f', Feed f' → Q (.bl true) [some f', some (.str (lowW a b))]) : Go (callD G d15 [f, .str (lowW a b)]) Q := by
  have hw := lowW_len a b
  obtain ⟨w, ew⟩ : ∃ w, w = lowW a b := ⟨_, rfl⟩
  have hab := low_AB a b
  have hna := NA_low hn
  have hcb := cb_low hn
  have hfar := fun k hk => far_low (k := k) hn hk
  have hmost := fun s h1 h2 h3 h4 => low_most (s := s) hn h1 h2 h3 h4
  rw [← ew] at hw hab hna hcb hfar hmost hQ ⊢
  rw [← hw] at hfar hmost
  have hwl : w.length ≤ 1000 := by omega
  obtain ⟨b0, hb0, e13⟩ := H13 w hab hwl
  have hb0 : b0 = true := hb0.mpr hna
  subst hb0
  refine go_def (ρ0 := [some f, some (.str w), none, none, none, none]) rfl rfl b15 ?_
  refine go_seq (fun ρ => ρ = [some f, some (.str w), none, none, none, none]) (fun P' hP' => by simp [H12 w hab hwl, e13]; exact hP' _ rfl) ?_
  rintro _ rfl
  refine go_seq (fun ρ => ∃ (f' : D) (k : Nat), k < w.length ∧ Feed f' ∧ ρ = [some f', some (.str w), some (.int k), none, none, none]) (fun P' hP' => ?_) ?_
  · simp
    refine go_drawN hD hf (by omega) (by omega) fun k f2 hk hf2 => ?_
    simp [hf.flat]
    exact hP' _ ⟨f2, k, hk, hf2, rfl⟩
  rintro _ ⟨f1, k, hk, hf1, rfl⟩
  refine go_seq (fun ρ => ρ = [some f1, some (.str w), some (.int k), none, none, none]) (fun P' hP' => ?_) ?_
  · have c1 := clipN (show k ≤ w.length by omega)
    have hs := small_nat (show k ≤ 100000000000 by omega)
    have g1 := hfar k hk
    have g2 := hfar 0 (by omega)
    simp at g2
    have hz : (w.drop k ++ w.take k).length ≤ 1000 := by simp; omega
    have hz2 : w.length - k + min k w.length ≤ 16777216 := by omega
    simp [hs, c1, hz2, H.far _ hz, H.far _ hwl, Int.not_le.mpr g1, Int.not_le.mpr g2]
    exact hP' _ rfl
  rintro _ rfl
  refine go_seq (fun ρ => ρ = [some f1, some (.str w), some (.int k), some (.str w), none, none]) (fun P' hP' => by simp; exact hP' _ rfl) ?_
  rintro _ rfl
  refine go_seq (fun ρ => ∃ (f' : D) (x3 x4 x5 : Option D), Feed f' ∧ ρ = [some f', some (.str w), some (.int k), x3, x4, x5]) (fun P' hP' => ?_) ?_
  · refine go_forG ?_
    have hs6 : small64 6 = true := by decide
    simp [hs6]
    refine forK (fun k : Nat => D.int k) (List.range 6) (fun pre ρ => ∃ (f' : D) (o : List Nat) (x4 x5 : Option D), AB o ∧ o.length = w.length ∧ cb o = b ∧ Feed f' ∧ ρ = [some f', some (.str w), some (.int k), some (.str o), x4, x5]) (rngN 6) ⟨f1, w, none, none, hab, rfl, hcb, hf1, rfl⟩ ?_ ?_
    · rintro p j q ρ e ⟨f', o, x4, x5, ho, hol, hob, hf', rfl⟩ I' hI'
      by_cases c1 : (1 : Int) < (w.length : Int)
      · simp [c1]
        refine H14 f' o _ hf' (by omega) (by omega) fun s c d u f2 es hf2 => ?_
        have hol' : (s ++ d :: c :: u).length = o.length := by rw [es]; simp
        have hbo : ∀ z ∈ s ++ d :: c :: u, z ∈ o := fun z hz => by rw [es]; simp at hz ⊢; rcases hz with h | h | h | h <;> simp [h]
        have hB : AB (s ++ d :: c :: u) := fun z hz => ho z (hbo z hz)
        have hcb2 : cb (s ++ d :: c :: u) = b := by
          rw [← hob, es]
          simp [cb, List.countP_append, List.countP_cons]
          omega
        have hsw := sq_swap s u c d (ho c (by rw [es]; simp)) (ho d (by rw [es]; simp))
        rw [← es] at hsw
        have hne : (s ++ d :: c :: u = o) ↔ c = d := by
          rw [es]
          simp
          omega
        obtain ⟨n, en⟩ : ∃ n, n = s ++ d :: c :: u := ⟨_, rfl⟩
        rw [← en] at hol' hB hcb2 hsw hne ⊢
        have ho1 : o.length ≤ 1000 := by omega
        have hn1 : n.length ≤ 1000 := by omega
        obtain ⟨b1, hb1, e1⟩ := H13 n hB hn1
        have hm := fun h => hmost n hB (by omega) hcb2 h
        have hend : ∀ x4 x5, I' [some f2, some (.str w), some (.int k), some (.str n), x4, x5] := fun x4 x5 => hI' _ ⟨f2, n, x4, x5, hB, by omega, hcb2, hf2, rfl⟩
        have hdif : (if (sq 0 n : Int) - (sq 0 o : Int) < 0 then -((sq 0 n : Int) - (sq 0 o : Int)) else (sq 0 n : Int) - (sq 0 o : Int)) = if n = o then 0 else 1 := by
          by_cases q : c = d
          · have h1 := hsw.1 q
            have h2 := hne.mpr q
            subst h2
            simp
          · have h1 := hsw.2 q
            have h2 : ¬ n = o := fun z => q (hne.mp z)
            simp [h2]
            split <;> omega
        have hng : b1 = true → ¬ ((sq 0 w : Int) < (sq 0 n : Int)) := fun z => by
          have := (hm (hb1.mp z)).1
          omega
        have hnq : b1 = true → (sq 0 n : Int) = (sq 0 w : Int) → n = w := fun z q => by
          have := (hm (hb1.mp z)).2
          exact this (by omega)
        cases b1 with
        | false =>
          simp [-pm_13, ne_strs, hf'.flat, H.sq o ho1, H.sq n hn1, hdif, e1]
          exact hend _ _
        | true =>
          have h1 := hng rfl
          have h2 := hnq rfl
          by_cases q : (sq 0 n : Int) = (sq 0 w : Int)
          · have h3 := h2 q
            subst h3
            simp [-pm_13, ne_strs, hf'.flat, H.sq o ho1, H.sq n hn1, hdif, e1]
            exact hend _ _
          · simp [-pm_13, ne_strs, hf'.flat, H.sq o ho1, H.sq n hn1, H.sq w hwl, hdif, e1, h1, q]
            exact hend _ _
      · simp [c1]
        exact hI' _ ⟨f', o, _, _, ho, hol, hob, hf', rfl⟩
    · rintro ρ ⟨f', o, x4, x5, ho, hol, hob, hf', rfl⟩
      simp
      exact hP' _ ⟨f', _, _, _, hf', rfl⟩
  rintro _ ⟨f', x3, x4, x5, hf', rfl⟩
  simp
  exact hQ _ hf'
end
end VL

namespace VL
open PySem PySem.Spec PyProof.Rows L2 VL71
section
variable {G : Calls} {f : D} {Q : D → List (Option D) → Prop} {t : List Nat}
def HSigns (G : Calls) : Prop := ∀ (f : D) (m : Nat) (Q : D → List (Option D) → Prop), Feed f → m ≤ 60 → (∀ t f', AB t → t.length ≤ m → Feed f' → Q (.str t) [some f', some (.int m)]) → Go (G 8 [f, .int m]) Q
def HLow (G : Calls) : Prop := ∀ a b : Nat, 0 < a + b → a + b ≤ 1000 → G 6 [.int a, .int b] = .ok (.str (lowW a b)) [some (.int a), some (.int b)]
def HDiv (G : Calls) : Prop := ∀ a b : Nat, 0 < a + b → ∃ d : Nat, 1 ≤ d ∧ (d ≤ a ∨ d ≤ b) ∧ G 7 [.int a, .int b] = .ok (.int d) [none, none]
def HLr (G : Calls) : Prop := ∀ (f : D) (a b : Nat) (Q : D → List (Option D) → Prop), Feed f → 0 < a + b → a + b ≤ 100 → (∀ f', Feed f' → Q (.bl true) [some f', some (.str (lowW a b))]) → Go (G 15 [f, .str (lowW a b)]) Q
theorem e_law71 (ns : List Int) (hF : G 3 [.scr ns] = .ok (F ns 0 0 1) [some (.scr ns)]) (hD : Draws G 4) (H : HR G) (H8 : HSigns G) (H6 : HLow G) (H7 : HDiv G) (H12 : HRight G) (H15 : HLr G) : ∃ rs, callD G d16 [.scr ns] = .ok (.bl true) rs := by
  have hg : Go (callD G d16 [.scr ns]) (fun y s => y = .bl true) := by
    refine go_def (ρ0 := [some (.scr ns), none, none, none, none, none, none, none]) rfl rfl b16 ?_
    refine go_seq (fun ρ => ∃ f, Feed f ∧ ρ = [some (.scr ns), some f, none, none, none, none, none, none]) (fun P' hP' => by simp [hF]; exact hP' _ ⟨_, feed_Feed ns, rfl⟩) ?_
    rintro _ ⟨f, hf, rfl⟩
    refine go_seq (fun ρ => ∃ (f' : D) (x2 x3 x4 x5 x6 x7 : Option D), Feed f' ∧ ρ = [some (.scr ns), some f', x2, x3, x4, x5, x6, x7]) (fun P' hP' => ?_) ?_
    · refine go_forG ?_
      have hs3 : small64 3 = true := by decide
      simp [hs3]
      refine forK (fun k : Nat => D.int k) (List.range 3) (fun pre ρ => ∃ (f' : D) (x2 x3 x4 x5 x6 x7 : Option D), Feed f' ∧ ρ = [some (.scr ns), some f', x2, x3, x4, x5, x6, x7]) (rngN 3) ⟨f, _, _, _, _, _, _, hf, rfl⟩ ?_ ?_
      · rintro p j q ρ e ⟨f0, x2, x3, x4, x5, x6, x7, hf0, rfl⟩ I' hI'
        refine go_tg (ρ' := [some (.scr ns), some f0, some (.int j), x3, x4, x5, x6, x7]) rfl ?_
        refine go_seq (fun ρ => ∃ (f' : D) (t : List Nat), Feed f' ∧ AB t ∧ t.length ≤ 60 ∧ ρ = [some (.scr ns), some f', some (.int j), some (.str t), x4, x5, x6, x7]) (fun P' hP' => ?_) ?_
        · simp
          refine go_drawN (m := 4) hD hf0 (by omega) (by omega) fun r f2 hr hf2 => ?_
          have hi : ∃ m : Nat, m ≤ 60 ∧ prim .idx [.lst true [.int 12, .int 12, .int 12, .int 60], .int (r : Int)] = some (.int m) := by
            have : r = 0 ∨ r = 1 ∨ r = 2 ∨ r = 3 := by omega
            rcases this with rfl | rfl | rfl | rfl
            · exact ⟨12, by omega, rfl⟩
            · exact ⟨12, by omega, rfl⟩
            · exact ⟨12, by omega, rfl⟩
            · exact ⟨60, by omega, rfl⟩
          obtain ⟨m, hm, hi⟩ := hi
          simp [-pm_38, hf0.flat, hi]
          refine H8 f2 m _ hf2 hm fun t f3 ht htl hf3 => ?_
          simp [hf2.flat]
          exact hP' _ ⟨f3, t, hf3, ht, by omega, rfl⟩
        rintro _ ⟨f1, t, hf1, ht, htl, rfl⟩
        refine go_seq (fun ρ => ρ = [some (.scr ns), some f1, some (.int j), some (.str t), x4, x5, x6, x7]) (fun P' hP' => by simp [H12 t ht (by omega)]; exact hP' _ rfl) ?_
        rintro _ rfl
        refine go_seq (fun ρ => ∃ (f' : D) (a : Nat), a < 31 ∧ Feed f' ∧ ρ = [some (.scr ns), some f', some (.int j), some (.str t), some (.int a), x5, x6, x7]) (fun P' hP' => ?_) ?_
        · simp
          refine go_drawN (m := 31) hD hf1 (by omega) (by omega) fun a f2 ha hf2 => ?_
          simp [hf1.flat]
          exact hP' _ ⟨f2, a, ha, hf2, rfl⟩
        rintro _ ⟨f2, a, ha, hf2, rfl⟩
        refine go_seq (fun ρ => ∃ (f' : D) (b : Nat), b ≤ 30 ∧ 0 < a + b ∧ Feed f' ∧ ρ = [some (.scr ns), some f', some (.int j), some (.str t), some (.int a), some (.int b), x6, x7]) (fun P' hP' => ?_) ?_
        · simp
          refine go_drawN (m := 30) hD hf2 (by omega) (by omega) fun b f3 hb hf3 => ?_
          by_cases c : a = 0
          · simp [hf2.flat, c]
            exact hP' _ ⟨f3, b + 1, by omega, by omega, hf3, by simp [c]⟩
          · simp [hf2.flat, c]
            exact hP' _ ⟨f3, b, by omega, by omega, hf3, by simp⟩
        rintro _ ⟨f3, b, hb, hab, hf3, rfl⟩
        obtain ⟨d, d1, d2, hd⟩ := H7 a b hab
        refine go_seq (fun ρ => ρ = [some (.scr ns), some f3, some (.int j), some (.str t), some (.int a), some (.int b), some (.int d), x7]) (fun P' hP' => by simp [hd]; exact hP' _ rfl) ?_
        rintro _ rfl
        have q1 : 0 < a / d + b / d := by
          rcases d2 with h | h
          · exact Nat.add_pos_left (Nat.div_pos h (by omega)) _
          · exact Nat.add_pos_right _ (Nat.div_pos h (by omega))
        have q2 : a / d ≤ a := Nat.div_le_self ..
        have q3 : b / d ≤ b := Nat.div_le_self ..
        have hl6 := H6 (a / d) (b / d) q1 (by omega)
        have e1 : prim .fdiv [.int (a : Int), .int (d : Int)] = some (.int ((a / d : Nat) : Int)) := by
          rw [pm_8, if_pos (by omega)]
          rfl
        have e2 : prim .fdiv [.int (b : Int), .int (d : Int)] = some (.int ((b / d : Nat) : Int)) := by
          rw [pm_8, if_pos (by omega)]
          rfl
        have hwl := lowW_len (a / d) (b / d)
        have h15 := H15 f3 (a / d) (b / d)
        have hwA := low_AB (a / d) (b / d)
        obtain ⟨w, ew⟩ : ∃ w, w = lowW (a / d) (b / d) := ⟨_, rfl⟩
        rw [← ew] at hl6 hwl h15 hwA
        refine go_seq (fun ρ => ρ = [some (.scr ns), some f3, some (.int j), some (.str t), some (.int a), some (.int b), some (.int d), some (.str w)]) (fun P' hP' => by simp [-pm_8, -Int.natCast_ediv, e1, e2, hl6]; exact hP' _ rfl) ?_
        rintro _ rfl
        simp
        refine h15 _ hf3 q1 (by omega) fun f4 hf4 => ?_
        have hm := mul_str (c := w) (n := 9) (by omega) (by omega)
        have hA : AB ((List.replicate 9 w).flatten) := fun c hc => by
          obtain ⟨l, hl, hcl⟩ := List.mem_flatten.mp hc
          rw [List.eq_of_mem_replicate hl] at hcl
          exact hwA c hcl
        have hx : prim .mul [.str w, .int 9] = some (.str (List.replicate 9 w).flatten) := hm
        have h60 : clip ((List.replicate 9 w).flatten).length 60 = min 60 ((List.replicate 9 w).flatten).length := clip_nat ((List.replicate 9 w).flatten).length 60
        have h61 : ((List.replicate 9 w).flatten.take (clip ((List.replicate 9 w).flatten).length 60)).length ≤ 1000 := by
          rw [List.length_take, h60]
          omega
        have h12 := H12 _ (hA.take (clip ((List.replicate 9 w).flatten).length 60)) h61
        have hs60 : small64 60 = true := by decide
        obtain ⟨w9, ew9⟩ : ∃ w9, w9 = (List.replicate 9 w).flatten := ⟨_, rfl⟩
        rw [← ew9] at hx h12
        simp [hf3.flat, hx, hs60, h12]
        exact hI' _ ⟨f4, _, _, _, _, _, _, hf4, rfl⟩
      · rintro ρ ⟨f', x2, x3, x4, x5, x6, x7, hf', rfl⟩
        simp
        exact hP' _ ⟨f', _, _, _, _, _, _, hf', rfl⟩
    rintro _ ⟨f', x2, x3, x4, x5, x6, x7, hf', rfl⟩
    have p0 : pts [] = [.tup [.int 0, .int 0]] := rfl
    have p2 : pts [97, 98] = [.tup [.int 0, .int 0], .tup [.int 1, .int 0], .tup [.int 1, .int 1]] := rfl
    have s0 : sq 0 [] = 0 := rfl
    have s1 : sq 0 [98, 97] = 1 := rfl
    have s2 : sq 0 [97, 98] = 0 := rfl
    have s3 : sq 0 [98, 98, 97, 97, 98] = 4 := rfl
    have r0 : far [] = 0 := by decide
    have r1 : far [97, 98] = 1 := by decide
    have r2 : far [97, 97, 98, 98] = 4 := by decide
    refine go_seq (fun ρ => ρ = [some (.scr ns), some f', x2, x3, x4, x5, x6, x7]) (fun P' hP' => ?_) ?_
    · simp [H.way, H.sq, H.far, p0, s0, s1, s2, r0]
      exact hP' _ rfl
    rintro _ rfl
    simp [H.way, H.sq, H.far, p2, s3, r1, r2]
  obtain ⟨y, s, h1, rfl⟩ := hg
  exact ⟨s, h1⟩
end
theorem run_0 (n ds) : run prog (n+1) 0 ds = callD (run prog n) d0 ds := rfl
theorem run_1 (n ds) : run prog (n+1) 1 ds = callD (run prog n) d1 ds := rfl
theorem run_2 (n ds) : run prog (n+1) 2 ds = callD (run prog n) d2 ds := rfl
theorem run_3 (n ds) : run prog (n+1) 3 ds = callD (run prog n) d3 ds := rfl
theorem run_4 (n ds) : run prog (n+1) 4 ds = callD (run prog n) d4 ds := rfl
theorem run_5 (n ds) : run prog (n+1) 5 ds = callD (run prog n) d5 ds := rfl
theorem run_6 (n ds) : run prog (n+1) 6 ds = callD (run prog n) d6 ds := rfl
theorem run_7 (n ds) : run prog (n+1) 7 ds = callD (run prog n) d7 ds := rfl
theorem run_8 (n ds) : run prog (n+1) 8 ds = callD (run prog n) d8 ds := rfl
theorem run_9 (n ds) : run prog (n+1) 9 ds = callD (run prog n) d9 ds := rfl
theorem run_10 (n ds) : run prog (n+1) 10 ds = callD (run prog n) d10 ds := rfl
theorem run_11 (n ds) : run prog (n+1) 11 ds = callD (run prog n) d11 ds := rfl
theorem run_12 (n ds) : run prog (n+1) 12 ds = callD (run prog n) d12 ds := rfl
theorem run_13 (n ds) : run prog (n+1) 13 ds = callD (run prog n) d13 ds := rfl
theorem run_14 (n ds) : run prog (n+1) 14 ds = callD (run prog n) d14 ds := rfl
theorem run_15 (n ds) : run prog (n+1) 15 ds = callD (run prog n) d15 ds := rfl
theorem run_16 (n ds) : run prog (n+1) 16 ds = callD (run prog n) d16 ds := rfl
theorem r_way (n : Nat) : HWay (run prog (n + 1)) := fun t hl => by
  rw [run_0]
  exact e_way hl
theorem r_HR (n : Nat) : HR (run prog (n + 2)) where
  way := r_way (n + 1)
  sq := fun t hl => by
    rw [run_1]
    exact e_squares (r_way n) hl
  far := fun t hl => by
    rw [run_2]
    exact e_far (r_way n) hl
  wh := fun i => by
    rw [run_5]
    exact e_whole i
  lpts := fun t h hl => by
    rw [run_9]
    exact e_lpts h hl
  lsq := fun t h hl => by
    rw [run_10]
    exact e_lsq (by rw [run_9]; exact e_lpts h hl) h hl
  lfar := fun t h hl => by
    rw [run_11]
    exact e_lfar (by rw [run_9]; exact e_lpts h hl) hl
theorem r_right (n : Nat) : HRight (run prog (n + 3)) := fun t h hl => by
  rw [run_12]
  exact e_right (r_HR n) h hl
theorem r_nab (n : Nat) : HNab (run prog (n + 3)) := fun t h hl => by
  rw [run_13]
  exact e_nab (r_HR n) h hl
theorem r_draw (n : Nat) : Draws (run prog (n + 1)) 4 := fun d hd m h0 h1 => draw_ok (run prog n) hd h0 h1
theorem r_exc (n : Nat) : HExc (run prog (n + 2)) := fun f t Q hf h2 hl hQ => by
  rw [run_14]
  exact e_exc (r_draw n) hf h2 hl hQ
theorem law_true : ∀ ns : List Int, ns.length ≤ 63 → ∃ rs, run prog 8 16 [.scr ns] = .ok (.bl true) rs := fun ns _ => by
  rw [run_16]
  refine e_law71 ns (feed_ok (run prog 6) ns) (r_draw 6) (r_HR 5) ?_ ?_ ?_ (r_right 4) ?_
  · intro f m Q hf hm hQ
    rw [run_8]
    exact e_signs (r_draw 5) hf hm hQ
  · intro a b h1 h2
    rw [run_6]
    exact e_lowW h1 h2
  · intro a b h
    rw [run_7]
    exact e_div h
  · intro f a b Q hf h1 h2 hQ
    rw [run_15]
    exact e_lr (r_draw 5) (r_HR 4) (r_right 3) (r_nab 3) (r_exc 4) hf h1 h2 hQ
end VL

namespace VL
open PySem PySem.Spec PyProof.Rows L2
abbrev s0 : Stmt := topS 2
abbrev s1 : Stmt := topS 3
abbrev s2 : Stmt := topS 4
abbrev s3 : Stmt := topS 6
abbrev s4 : Stmt := topS 7
abbrev s5 : Stmt := topS 8
abbrev s6 : Stmt := topS 9
abbrev s7 : Stmt := topS 10
abbrev s8 : Stmt := topS 11
abbrev s9 : Stmt := topS 12
abbrev s10 : Stmt := topS 13
abbrev s11 : Stmt := topS 14
abbrev s12 : Stmt := topS 15
abbrev s13 : Stmt := topS 16
abbrev s14 : Stmt := topS 17
abbrev s15 : Stmt := topS 18
abbrev s16 : Stmt := topS 19
theorem all_mk {l : PySem.W.OpenLaw} {w : World} {K : PySem.W.Frag} {h : Heap} {mg : Str → Option Value} {fa f0 f1 f2 f3 f4 f5 f6 f7 f8 f9 f10 f11 f12 f13 f14 f15 f16 : Addr} (X : K.In h) (G : h.Ns mainGlobals mg) (hfa : mg "law" = some (.ref fa))
    {od0 an0 od1 an1 od2 an2 od3 an3 od4 an4 od5 an5 od6 an6 od7 an7 od8 an8 od9 an9 od10 an10 od11 an11 od12 an12 od13 an13 od14 an14 od15 an15 od16 an16 : Option Addr} {sl0 sl1 sl2 sl3 sl4 sl5 sl6 sl7 sl8 sl9 sl10 sl11 sl12 sl13 sl14 sl15 sl16 : Array (Option Value)} {oc0 kV0 dc0 pm0 cd0 ct0 oc1 kV1 dc1 pm1 cd1 ct1 oc2 kV2 dc2 pm2 cd2 ct2 oc3 kV3 dc3 pm3 cd3 ct3 oc4 kV4 dc4 pm4 cd4 ct4 oc5 kV5 dc5 pm5 cd5 ct5 oc6 kV6 dc6 pm6 cd6 ct6 oc7 kV7 dc7 pm7 cd7 ct7 oc8 kV8 dc8 pm8 cd8 ct8 oc9 kV9 dc9 pm9 cd9 ct9 oc10 kV10 dc10 pm10 cd10 ct10 oc11 kV11 dc11 pm11 cd11 ct11 oc12 kV12 dc12 pm12 cd12 ct12 oc13 kV13 dc13 pm13 cd13 ct13 oc14 kV14 dc14 pm14 cd14 ct14 oc15 kV15 dc15 pm15 cd15 ct15 oc16 kV16 dc16 pm16 cd16 ct16 : Value}
    {tk0 : Tok}
    (a0 : PySem.W.nsIn K mainGlobals "way_of" = some (some (.ref f0))) (l0 : K.lookup f0 = some ⟨oc0, od0, .func (PySem.W.fnOf "way_of" "way_of" (defArgs s0) (defBody s0) (defScope s0) .none kV0 dc0 pm0 an0 cd0 ct0), sl0⟩) (c0 : PySem.W.codeIn K cd0 "way_of" = true) (k0 : PySem.W.keepIn K (.ref f0) = true)
    (a1 : PySem.W.nsIn K mainGlobals "squares_below" = some (some (.ref f1))) (l1 : K.lookup f1 = some ⟨oc1, od1, .func (PySem.W.fnOf "squares_below" "squares_below" (defArgs s1) (defBody s1) (defScope s1) .none kV1 dc1 pm1 an1 cd1 ct1), sl1⟩) (c1 : PySem.W.codeIn K cd1 "squares_below" = true) (k1 : PySem.W.keepIn K (.ref f1) = true)
    (a2 : PySem.W.nsIn K mainGlobals "farthest_off" = some (some (.ref f2))) (l2 : K.lookup f2 = some ⟨oc2, od2, .func (PySem.W.fnOf "farthest_off" "farthest_off" (defArgs s2) (defBody s2) (defScope s2) .none kV2 dc2 pm2 an2 cd2 ct2), sl2⟩) (c2 : PySem.W.codeIn K cd2 "farthest_off" = true) (k2 : PySem.W.keepIn K (.ref f2) = true)
    (a3 : PySem.W.nsIn K mainGlobals "_law_feed" = some (some (.ref f3))) (l3 : K.lookup f3 = some ⟨oc3, od3, .func (PySem.W.fnOf "_law_feed" "_law_feed" (defArgs s3) (defBody s3) (defScope s3) .none kV3 dc3 pm3 an3 cd3 ct3), sl3⟩) (c3 : PySem.W.codeIn K cd3 "_law_feed" = true) (k3 : PySem.W.keepIn K (.ref f3) = true)
    (a4 : PySem.W.nsIn K mainGlobals "_law_draw" = some (some (.ref f4))) (l4 : K.lookup f4 = some ⟨oc4, od4, .func (PySem.W.fnOf "_law_draw" "_law_draw" (defArgs s4) (defBody s4) (defScope s4) .none kV4 dc4 pm4 an4 cd4 ct4), sl4⟩) (c4 : PySem.W.codeIn K cd4 "_law_draw" = true) (k4 : PySem.W.keepIn K (.ref f4) = true)
    (a5 : PySem.W.nsIn K mainGlobals "_law_is_whole" = some (some (.ref f5))) (l5 : K.lookup f5 = some ⟨oc5, od5, .func (PySem.W.fnOf "_law_is_whole" "_law_is_whole" (defArgs s5) (defBody s5) (defScope s5) .none kV5 dc5 pm5 an5 cd5 ct5), sl5⟩) (c5 : PySem.W.codeIn K cd5 "_law_is_whole" = true) (k5 : PySem.W.keepIn K (.ref f5) = true)
    (a6 : PySem.W.nsIn K mainGlobals "_law_lower" = some (some (.ref f6))) (l6 : K.lookup f6 = some ⟨oc6, od6, .func (PySem.W.fnOf "_law_lower" "_law_lower" (defArgs s6) (defBody s6) (defScope s6) .none kV6 dc6 pm6 an6 cd6 ct6), sl6⟩) (c6 : PySem.W.codeIn K cd6 "_law_lower" = true) (k6 : PySem.W.keepIn K (.ref f6) = true)
    (a7 : PySem.W.nsIn K mainGlobals "_law_divisor" = some (some (.ref f7))) (l7 : K.lookup f7 = some ⟨oc7, od7, .func (PySem.W.fnOf "_law_divisor" "_law_divisor" (defArgs s7) (defBody s7) (defScope s7) .none kV7 dc7 pm7 an7 cd7 ct7), sl7⟩) (c7 : PySem.W.codeIn K cd7 "_law_divisor" = true) (k7 : PySem.W.keepIn K (.ref f7) = true)
    (a8 : PySem.W.nsIn K mainGlobals "_law_signs" = some (some (.ref f8))) (l8 : K.lookup f8 = some ⟨oc8, od8, .func (PySem.W.fnOf "_law_signs" "_law_signs" (defArgs s8) (defBody s8) (defScope s8) .none kV8 dc8 pm8 an8 cd8 ct8), sl8⟩) (c8 : PySem.W.codeIn K cd8 "_law_signs" = true) (k8 : PySem.W.keepIn K (.ref f8) = true)
    (a9 : PySem.W.nsIn K mainGlobals "_law_points" = some (some (.ref f9))) (l9 : K.lookup f9 = some ⟨oc9, od9, .func (PySem.W.fnOf "_law_points" "_law_points" (defArgs s9) (defBody s9) (defScope s9) .none kV9 dc9 pm9 an9 cd9 ct9), sl9⟩) (c9 : PySem.W.codeIn K cd9 "_law_points" = true) (k9 : PySem.W.keepIn K (.ref f9) = true)
    (a10 : PySem.W.nsIn K mainGlobals "_law_squares" = some (some (.ref f10))) (l10 : K.lookup f10 = some ⟨oc10, od10, .func (PySem.W.fnOf "_law_squares" "_law_squares" (defArgs s10) (defBody s10) (defScope s10) .none kV10 dc10 pm10 an10 cd10 ct10), sl10⟩) (c10 : PySem.W.codeIn K cd10 "_law_squares" = true) (k10 : PySem.W.keepIn K (.ref f10) = true)
    (a11 : PySem.W.nsIn K mainGlobals "_law_off" = some (some (.ref f11))) (l11 : K.lookup f11 = some ⟨oc11, od11, .func (PySem.W.fnOf "_law_off" "_law_off" (defArgs s11) (defBody s11) (defScope s11) .none kV11 dc11 pm11 an11 cd11 ct11), sl11⟩) (c11 : PySem.W.codeIn K cd11 "_law_off" = true) (k11 : PySem.W.keepIn K (.ref f11) = true)
    (a12 : PySem.W.nsIn K mainGlobals "_law_right" = some (some (.ref f12))) (l12 : K.lookup f12 = some ⟨oc12, od12, .func (PySem.W.fnOf "_law_right" "_law_right" (defArgs s12) (defBody s12) (defScope s12) .none kV12 dc12 pm12 an12 cd12 ct12), sl12⟩) (c12 : PySem.W.codeIn K cd12 "_law_right" = true) (k12 : PySem.W.keepIn K (.ref f12) = true)
    (a13 : PySem.W.nsIn K mainGlobals "_law_never_above" = some (some (.ref f13))) (l13 : K.lookup f13 = some ⟨oc13, od13, .func (PySem.W.fnOf "_law_never_above" "_law_never_above" (defArgs s13) (defBody s13) (defScope s13) .none kV13 dc13 pm13 an13 cd13 ct13), sl13⟩) (c13 : PySem.W.codeIn K cd13 "_law_never_above" = true) (k13 : PySem.W.keepIn K (.ref f13) = true)
    (a14 : PySem.W.nsIn K mainGlobals "_law_exchanged" = some (some (.ref f14))) (l14 : K.lookup f14 = some ⟨oc14, od14, .func (PySem.W.fnOf "_law_exchanged" "_law_exchanged" (defArgs s14) (defBody s14) (defScope s14) .none kV14 dc14 pm14 an14 cd14 ct14), sl14⟩) (c14 : PySem.W.codeIn K cd14 "_law_exchanged" = true) (k14 : PySem.W.keepIn K (.ref f14) = true)
    (a15 : PySem.W.nsIn K mainGlobals "_law_lower_right" = some (some (.ref f15))) (l15 : K.lookup f15 = some ⟨oc15, od15, .func (PySem.W.fnOf "_law_lower_right" "_law_lower_right" (defArgs s15) (defBody s15) (defScope s15) .none kV15 dc15 pm15 an15 cd15 ct15), sl15⟩) (c15 : PySem.W.codeIn K cd15 "_law_lower_right" = true) (k15 : PySem.W.keepIn K (.ref f15) = true)
    (a16 : PySem.W.nsIn K mainGlobals "law" = some (some (.ref f16))) (l16 : K.lookup f16 = some ⟨oc16, od16, .func (PySem.W.fnOf "law" "law" (defArgs s16) (defBody s16) (defScope s16) .none kV16 dc16 pm16 an16 cd16 ct16), sl16⟩) (c16 : PySem.W.codeIn K cd16 "law" = true) (k16 : PySem.W.keepIn K (.ref f16) = true)
    (z0 : PySem.W.nsIn K mainGlobals "abs" = some none)
    (z1 : PySem.W.nsIn K mainGlobals "bool" = some none)
    (z2 : PySem.W.nsIn K mainGlobals "int" = some none)
    (z3 : PySem.W.nsIn K mainGlobals "isinstance" = some none)
    (z4 : PySem.W.nsIn K mainGlobals "len" = some none)
    (z5 : PySem.W.nsIn K mainGlobals "list" = some none)
    (z6 : PySem.W.nsIn K mainGlobals "max" = some none)
    (z7 : PySem.W.nsIn K mainGlobals "range" = some none)
    (z8 : PySem.W.nsIn K mainGlobals "sum" = some none)
    (z9 : PySem.W.nsIn K mainGlobals "tuple" = some none)
    (z10 : PySem.W.nsIn K mainGlobals "zip" = some none)
    (y0 : PySem.W.nsIn K mainGlobals "RIGHT" = some (some (.str "a" tk0)))
    : ∃ fd : FuncData, (∀ (s : Shared) (v : Value), BindsTo s fd ⟨[v], []⟩ [("script", v)]) ∧ ∀ base : Heap, K.In base → base.Ns mainGlobals mg → FnOk l.prog w K mg base CX0 8 fa fd ["script"] (spLaw K) := by
  have e := hfa.symm.trans (PySem.W.mg_of X G a16)
  cases e
  have F0 := fun_mk (st := s0) l0 c0 k0
  have b0 := F0.binds (ps := ["text"]) fun _ _ _ _ _ _ us hl => match us, hl with | [_], _ => rfl
  have F1 := fun_mk (st := s1) l1 c1 k1
  have b1 := F1.binds (ps := ["text"]) fun _ _ _ _ _ _ us hl => match us, hl with | [_], _ => rfl
  have F2 := fun_mk (st := s2) l2 c2 k2
  have b2 := F2.binds (ps := ["text"]) fun _ _ _ _ _ _ us hl => match us, hl with | [_], _ => rfl
  have F3 := fun_mk (st := s3) l3 c3 k3
  have b3 := F3.binds (ps := ["script"]) fun _ _ _ _ _ _ us hl => match us, hl with | [_], _ => rfl
  have F4 := fun_mk (st := s4) l4 c4 k4
  have b4 := F4.binds (ps := ["feed", "many"]) fun _ _ _ _ _ _ us hl => match us, hl with | [_, _], _ => rfl
  have F5 := fun_mk (st := s5) l5 c5 k5
  have b5 := F5.binds (ps := ["x"]) fun _ _ _ _ _ _ us hl => match us, hl with | [_], _ => rfl
  have F6 := fun_mk (st := s6) l6 c6 k6
  have b6 := F6.binds (ps := ["a", "b"]) fun _ _ _ _ _ _ us hl => match us, hl with | [_, _], _ => rfl
  have F7 := fun_mk (st := s7) l7 c7 k7
  have b7 := F7.binds (ps := ["a", "b"]) fun _ _ _ _ _ _ us hl => match us, hl with | [_, _], _ => rfl
  have F8 := fun_mk (st := s8) l8 c8 k8
  have b8 := F8.binds (ps := ["feed", "most"]) fun _ _ _ _ _ _ us hl => match us, hl with | [_, _], _ => rfl
  have F9 := fun_mk (st := s9) l9 c9 k9
  have b9 := F9.binds (ps := ["text"]) fun _ _ _ _ _ _ us hl => match us, hl with | [_], _ => rfl
  have F10 := fun_mk (st := s10) l10 c10 k10
  have b10 := F10.binds (ps := ["text"]) fun _ _ _ _ _ _ us hl => match us, hl with | [_], _ => rfl
  have F11 := fun_mk (st := s11) l11 c11 k11
  have b11 := F11.binds (ps := ["text"]) fun _ _ _ _ _ _ us hl => match us, hl with | [_], _ => rfl
  have F12 := fun_mk (st := s12) l12 c12 k12
  have b12 := F12.binds (ps := ["text"]) fun _ _ _ _ _ _ us hl => match us, hl with | [_], _ => rfl
  have F13 := fun_mk (st := s13) l13 c13 k13
  have b13 := F13.binds (ps := ["text"]) fun _ _ _ _ _ _ us hl => match us, hl with | [_], _ => rfl
  have F14 := fun_mk (st := s14) l14 c14 k14
  have b14 := F14.binds (ps := ["feed", "text"]) fun _ _ _ _ _ _ us hl => match us, hl with | [_, _], _ => rfl
  have F15 := fun_mk (st := s15) l15 c15 k15
  have b15 := F15.binds (ps := ["feed", "word"]) fun _ _ _ _ _ _ us hl => match us, hl with | [_, _], _ => rfl
  have F16 := fun_mk (st := s16) l16 c16 k16
  have b16 := F16.binds (ps := ["script"]) fun _ _ _ _ _ _ us hl => match us, hl with | [_], _ => rfl
  have ok : ∀ t ∈ tab, EntOk K mg t := by
    intro t ht
    simp only [tab, List.mem_cons, List.not_mem_nil, or_false] at ht
    rcases ht with rfl | rfl | rfl | rfl | rfl | rfl | rfl | rfl | rfl | rfl | rfl | rfl | rfl | rfl | rfl | rfl | rfl
    · exact ⟨_, _, F0, PySem.W.mg_of X G a0, b0⟩
    · exact ⟨_, _, F1, PySem.W.mg_of X G a1, b1⟩
    · exact ⟨_, _, F2, PySem.W.mg_of X G a2, b2⟩
    · exact ⟨_, _, F3, PySem.W.mg_of X G a3, b3⟩
    · exact ⟨_, _, F4, PySem.W.mg_of X G a4, b4⟩
    · exact ⟨_, _, F5, PySem.W.mg_of X G a5, b5⟩
    · exact ⟨_, _, F6, PySem.W.mg_of X G a6, b6⟩
    · exact ⟨_, _, F7, PySem.W.mg_of X G a7, b7⟩
    · exact ⟨_, _, F8, PySem.W.mg_of X G a8, b8⟩
    · exact ⟨_, _, F9, PySem.W.mg_of X G a9, b9⟩
    · exact ⟨_, _, F10, PySem.W.mg_of X G a10, b10⟩
    · exact ⟨_, _, F11, PySem.W.mg_of X G a11, b11⟩
    · exact ⟨_, _, F12, PySem.W.mg_of X G a12, b12⟩
    · exact ⟨_, _, F13, PySem.W.mg_of X G a13, b13⟩
    · exact ⟨_, _, F14, PySem.W.mg_of X G a14, b14⟩
    · exact ⟨_, _, F15, PySem.W.mg_of X G a15, b15⟩
    · exact ⟨_, _, F16, PySem.W.mg_of X G a16, b16⟩
  have bl : ∀ x ∈ mods.bl, mg x = none := by
    intro x hx
    simp only [mods, List.mem_cons, List.not_mem_nil, or_false] at hx
    rcases hx with rfl | rfl | rfl | rfl | rfl | rfl | rfl | rfl | rfl | rfl | rfl
    · exact PySem.W.mg_none_of X G z0
    · exact PySem.W.mg_none_of X G z1
    · exact PySem.W.mg_none_of X G z2
    · exact PySem.W.mg_none_of X G z3
    · exact PySem.W.mg_none_of X G z4
    · exact PySem.W.mg_none_of X G z5
    · exact PySem.W.mg_none_of X G z6
    · exact PySem.W.mg_none_of X G z7
    · exact PySem.W.mg_none_of X G z8
    · exact PySem.W.mg_none_of X G z9
    · exact PySem.W.mg_none_of X G z10
  have cI : ∀ p ∈ mods.cI, ∃ t, mg p.1 = some (.int p.2 t) := by
    intro p hp
    simp only [mods, List.mem_cons, List.not_mem_nil, or_false] at hp
  have cS : ∀ p ∈ mods.cS, ∃ t, mg p.1 = some (.str ⟨p.2.toArray⟩ t) := by
    intro p hp
    simp only [mods, List.mem_cons, List.not_mem_nil, or_false] at hp
    rcases hp with rfl
    · exact ⟨_, PySem.W.mg_of X G y0⟩
  exact ⟨_, fun s v => .of_eq rfl, fun base _ _ => (prog_ok mat ok bl cI cS 8 16 e16 d16 _ _ rfl rfl F16).imp (law_imp law_true)⟩
end VL
open PySem PySem.W PyProof.Rows
set_option maxHeartbeats 0 in
theorem PySem.Challenge.cw_turnedstretches_k71_whole_ways_and_squar_holds : PySem.Challenge.rw_turnedstretches_k71_whole_ways_and_squar.Holds := by
  w_on; o_law; k_head; (case hw => w_witness2)
  k_fill
  refine L2.walk_of (l := PySem.Challenge.rw_turnedstretches_k71_whole_ways_and_squar) (n := 63) (k := 8) (x := "script") (CX := fun _ => L2.CX0) (sp := fun w => VL.spLaw _) rfl (by decide) rfl ⟨rfl, by decide, by decide⟩ (fun w h Y => PySem.W.kIn_of Y) ?F (fun _ _ a ns hl hO hS => ⟨a, ns, rfl, VL.kl_of hO hS, hl, fun _ => rfl⟩) (fun _ _ _ _ _ h => h)
  case F =>
    intro w mg fa h KX G hmg
    refine' VL.all_mk KX G hmg ?a0 ?l0 ?c0 ?k0 ?a1 ?l1 ?c1 ?k1 ?a2 ?l2 ?c2 ?k2 ?a3 ?l3 ?c3 ?k3 ?a4 ?l4 ?c4 ?k4 ?a5 ?l5 ?c5 ?k5 ?a6 ?l6 ?c6 ?k6 ?a7 ?l7 ?c7 ?k7 ?a8 ?l8 ?c8 ?k8 ?a9 ?l9 ?c9 ?k9 ?a10 ?l10 ?c10 ?k10 ?a11 ?l11 ?c11 ?k11 ?a12 ?l12 ?c12 ?k12 ?a13 ?l13 ?c13 ?k13 ?a14 ?l14 ?c14 ?k14 ?a15 ?l15 ?c15 ?k15 ?a16 ?l16 ?c16 ?k16 ?z0 ?z1 ?z2 ?z3 ?z4 ?z5 ?z6 ?z7 ?z8 ?z9 ?z10 ?y0
    (case a0 => k_is); (case l0 => k_is); (case c0 => k_is); (case k0 => k_is); (case a1 => k_is); (case l1 => k_is); (case c1 => k_is); (case k1 => k_is); (case a2 => k_is); (case l2 => k_is); (case c2 => k_is); (case k2 => k_is); (case a3 => k_is); (case l3 => k_is); (case c3 => k_is); (case k3 => k_is); (case a4 => k_is); (case l4 => k_is); (case c4 => k_is); (case k4 => k_is); (case a5 => k_is); (case l5 => k_is); (case c5 => k_is); (case k5 => k_is); (case a6 => k_is); (case l6 => k_is); (case c6 => k_is); (case k6 => k_is); (case a7 => k_is); (case l7 => k_is); (case c7 => k_is); (case k7 => k_is); (case a8 => k_is); (case l8 => k_is); (case c8 => k_is); (case k8 => k_is); (case a9 => k_is); (case l9 => k_is); (case c9 => k_is); (case k9 => k_is); (case a10 => k_is); (case l10 => k_is); (case c10 => k_is); (case k10 => k_is); (case a11 => k_is); (case l11 => k_is); (case c11 => k_is); (case k11 => k_is); (case a12 => k_is); (case l12 => k_is); (case c12 => k_is); (case k12 => k_is); (case a13 => k_is); (case l13 => k_is); (case c13 => k_is); (case k13 => k_is); (case a14 => k_is); (case l14 => k_is); (case c14 => k_is); (case k14 => k_is); (case a15 => k_is); (case l15 => k_is); (case c15 => k_is); (case k15 => k_is); (case a16 => k_is); (case l16 => k_is); (case c16 => k_is); (case k16 => k_is); (case z0 => k_is); (case z1 => k_is); (case z2 => k_is); (case z3 => k_is); (case z4 => k_is); (case z5 => k_is); (case z6 => k_is); (case z7 => k_is); (case z8 => k_is); (case z9 => k_is); (case z10 => k_is); (case y0 => k_is)
