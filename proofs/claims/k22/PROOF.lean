import PyProof.Rows.All
import Wide.All
import OpenK.AllK
import Wide.FinOn
import HandS.ForMost
import HandS.ForExc
import HandS.Wide
import HandS.IsInst
import HandS.Style
import HandS.CallLocal
import HandS.WideBits
import HandS.TupMul
import HandS.Zip
import HandS.Strs
import HandS.Deep
import HandS.Small
import KE.IntBitsLaws
import PySem.Challenge.RW_anyitems_k22_whole_amounts_keep_list_fac
set_option Elab.async false
set_option linter.all false
set_option maxRecDepth 100000
set_option maxHeartbeats 4000000
/-! DL1: deep values, cells, what represents them on the abstract heap; results. -/
namespace DL
open PySem L2

/-- a deep value: data by content, a thing that may change as a cell's number; rl: a list that is only read (the script) -/
inductive D where
  | non | bl (b : Bool) | int (i : Int) | str (x : Str) | ty (n : String) | ref (a : Addr)
  | tup (l : List D) | lst (l : List D) | rl (l : List D) | dk (l : List (Key × D)) | cell (n : Nat)
/-- what a cell holds -/
inductive Cell where
  | dead | lst (l : List D) | dk (l : List (Key × D))
abbrev Mu := List Cell

mutual
inductive Rep (K : PySem.W.Frag) (F : Hp) (io : List Addr) : V → D → Prop
  | non : Rep K F io .non .non
  | bl {b : Bool} : Rep K F io (.bl b) (.bl b)
  | int {i : Int} : Rep K F io (.int i) (.int i)
  | str {x : Str} : Rep K F io (.str x) (.str x)
  | ty {n : String} : Rep K F io (.ty n) (.ty n)
  | ref {a : Addr} : Rep K F io (.ref a) (.ref a)
  | tup {a : Addr} {xs : List V} {ds : List D} : SqT K F a xs → RepL K F io xs ds → Rep K F io (.ref a) (.tup ds)
  | lst {a : Addr} {xs : List V} {ds : List D} : F a = some (.lst xs) → RepL K F io xs ds → Rep K F io (.ref a) (.lst ds)
  | rl {a : Addr} {xs : List V} {ds : List D} : SqL K F a xs → RepL K F io xs ds → Rep K F io (.ref a) (.rl ds)
  | dk {a : Addr} {o : Obj} {xs : List (Key × V)} {ds : List (Key × D)} : F a = some (.frz o (.dK xs)) → RepK K F io xs ds → Rep K F io (.ref a) (.dk ds)
  | cell {n : Nat} {a : Addr} : io[n]? = some a → Rep K F io (.ref a) (.cell n)
inductive RepL (K : PySem.W.Frag) (F : Hp) (io : List Addr) : List V → List D → Prop
  | nil : RepL K F io [] []
  | cons {v : V} {d : D} {vs : List V} {ds : List D} : Rep K F io v d → RepL K F io vs ds → RepL K F io (v :: vs) (d :: ds)
inductive RepK (K : PySem.W.Frag) (F : Hp) (io : List Addr) : List (Key × V) → List (Key × D) → Prop
  | nil : RepK K F io [] []
  | cons {k : Key} {v : V} {d : D} {vs : List (Key × V)} {ds : List (Key × D)} : Rep K F io v d → RepK K F io vs ds → RepK K F io ((k, v) :: vs) ((k, d) :: ds)
end

/-- more is told -/
def Le (F F' : Hp) : Prop := ∀ a o, F a = some o → F' a = some o
theorem Le.rfl {F : Hp} : Le F F := fun _ _ h => h
theorem Le.trans {F G H : Hp} (a : Le F G) (b : Le G H) : Le F H := fun x o h => b x o (a x o h)
theorem Le.rd {F G : Hp} {a : Addr} {u : HO} (l : Le F G) (h : Rd F a u) : Rd G a u := by
  rcases h with h | ⟨o, h⟩
  · exact .inl (l _ _ h)
  · exact .inr ⟨o, l _ _ h⟩
theorem Le.sqt {K : PySem.W.Frag} {F G : Hp} {a : Addr} {xs : List V} (l : Le F G) (h : SqT K F a xs) : SqT K G a xs := by
  rcases h with h | h
  · exact .inl (l.rd h)
  · exact .inr h
theorem Le.sql {K : PySem.W.Frag} {F G : Hp} {a : Addr} {xs : List V} (l : Le F G) (h : SqL K F a xs) : SqL K G a xs := by
  rcases h with h | h
  · exact .inl (l.rd h)
  · exact .inr h
def Pre (io jo : List Addr) : Prop := ∀ (n : Nat) a, io[n]? = some a → jo[n]? = some a
theorem Pre.rfl {io : List Addr} : Pre io io := fun _ _ h => h
theorem Pre.trans {a b c : List Addr} (h : Pre a b) (k : Pre b c) : Pre a c := fun n x e => k n x (h n x e)
theorem Pre.app {a b : List Addr} : Pre a (a ++ b) := fun n x e => by
  have h : n < a.length := (List.getElem?_eq_some_iff.mp e).1
  rw [List.getElem?_append_left h]; exact e
theorem Pre.mem {a b : List Addr} (h : Pre a b) {x : Addr} (hx : x ∈ a) : x ∈ b := by
  obtain ⟨n, e⟩ := List.getElem?_of_mem hx
  exact List.mem_of_getElem? (h n x e)

section
variable {K : PySem.W.Frag} {F G : Hp} {io jo : List Addr}
mutual
theorem Rep.mono (l : Le F G) (p : Pre io jo) : ∀ {v : V} {d : D}, Rep K F io v d → Rep K G jo v d
  | _, _, .non => .non
  | _, _, .bl => .bl
  | _, _, .int => .int
  | _, _, .str => .str
  | _, _, .ty => .ty
  | _, _, .ref => .ref
  | _, _, .tup h r => .tup (l.sqt h) (RepL.mono l p r)
  | _, _, .lst h r => .lst (l _ _ h) (RepL.mono l p r)
  | _, _, .rl h r => .rl (l.sql h) (RepL.mono l p r)
  | _, _, .dk h r => .dk (l _ _ h) (RepK.mono l p r)
  | _, _, .cell h => .cell (p _ _ h)
theorem RepL.mono (l : Le F G) (p : Pre io jo) : ∀ {v : List V} {d : List D}, RepL K F io v d → RepL K G jo v d
  | _, _, .nil => .nil
  | _, _, .cons r t => .cons (Rep.mono l p r) (RepL.mono l p t)
theorem RepK.mono (l : Le F G) (p : Pre io jo) : ∀ {v : List (Key × V)} {d : List (Key × D)}, RepK K F io v d → RepK K G jo v d
  | _, _, .nil => .nil
  | _, _, .cons r t => .cons (Rep.mono l p r) (RepK.mono l p t)
end
theorem RepL.length : ∀ {v : List V} {d : List D}, RepL K F io v d → v.length = d.length
  | _, _, .nil => rfl
  | _, _, .cons _ t => congrArg (· + 1) (RepL.length t)
theorem RepL.append : ∀ {v : List V} {d : List D} {w : List V} {e : List D}, RepL K F io v d → RepL K F io w e → RepL K F io (v ++ w) (d ++ e)
  | _, _, _, _, .nil, s => s
  | _, _, _, _, .cons r t, s => .cons r (RepL.append t s)
theorem RepL.get : ∀ {v : List V} {d : List D} {n : Nat} {y : D}, RepL K F io v d → d[n]? = some y → ∃ x, v[n]? = some x ∧ Rep K F io x y
  | _, _, _, _, .nil, e => by simp at e
  | _, _, 0, _, .cons r _, e => by simp at e; subst e; exact ⟨_, rfl, r⟩
  | _, _, n + 1, _, .cons _ t, e => by
    obtain ⟨x, h, r⟩ := RepL.get (n := n) t (by simpa using e)
    exact ⟨x, by simpa using h, r⟩
theorem RepL.getV : ∀ {v : List V} {d : List D} {n : Nat} {x : V}, RepL K F io v d → v[n]? = some x → ∃ y, d[n]? = some y ∧ Rep K F io x y
  | _, _, _, _, .nil, e => by simp at e
  | _, _, 0, _, .cons r _, e => by simp at e; subst e; exact ⟨_, rfl, r⟩
  | _, _, n + 1, _, .cons _ t, e => by
    obtain ⟨x, h, r⟩ := RepL.getV (n := n) t (by simpa using e)
    exact ⟨x, by simpa using h, r⟩
theorem RepL.take : ∀ {v : List V} {d : List D} (n : Nat), RepL K F io v d → RepL K F io (v.take n) (d.take n)
  | _, _, 0, _ => by simp only [List.take_zero]; exact .nil
  | _, _, _ + 1, .nil => .nil
  | _, _, n + 1, .cons r t => .cons r (RepL.take n t)
theorem RepL.drop : ∀ {v : List V} {d : List D} (n : Nat), RepL K F io v d → RepL K F io (v.drop n) (d.drop n)
  | _, _, 0, h => h
  | _, _, _ + 1, .nil => .nil
  | _, _, n + 1, .cons _ t => RepL.drop n t
theorem RepL.eraseIdx : ∀ {v : List V} {d : List D} (n : Nat), RepL K F io v d → RepL K F io (v.eraseIdx n) (d.eraseIdx n)
  | _, _, _, .nil => .nil
  | _, _, 0, .cons _ t => t
  | _, _, n + 1, .cons r t => .cons r (RepL.eraseIdx n t)
theorem RepL.set {y : V} {z : D} (q : Rep K F io y z) : ∀ {v : List V} {d : List D} (n : Nat), RepL K F io v d → RepL K F io (v.set n y) (d.set n z)
  | _, _, _, .nil => .nil
  | _, _, 0, .cons _ t => .cons q t
  | _, _, n + 1, .cons r t => .cons r (RepL.set q n t)
theorem RepL.rep {v : List V} {d : List D} (h : RepL K F io v d) : ∀ n : Nat, RepL K F io (List.replicate n v).flatten (List.replicate n d).flatten
  | 0 => .nil
  | n + 1 => by
    rw [List.replicate_succ, List.replicate_succ, List.flatten_cons, List.flatten_cons]
    exact RepL.append h (RepL.rep h n)
theorem RepL.reverse {v : List V} {d : List D} (h : RepL K F io v d) : RepL K F io v.reverse d.reverse := by
  induction v generalizing d with
  | nil => cases h; exact .nil
  | cons x v ih =>
    cases h with
    | cons r t => rw [List.reverse_cons, List.reverse_cons]; exact RepL.append (ih t) (.cons r .nil)
theorem RepK.length : ∀ {v : List (Key × V)} {d : List (Key × D)}, RepK K F io v d → v.length = d.length
  | _, _, .nil => rfl
  | _, _, .cons _ t => congrArg (· + 1) (RepK.length t)

/-! ### values with a known make -/
theorem Rep.int_inv {v : V} {i : Int} (r : Rep K F io v (.int i)) : v = .int i := by cases r; rfl
theorem Rep.bl_inv {v : V} {b : Bool} (r : Rep K F io v (.bl b)) : v = .bl b := by cases r; rfl
theorem Rep.str_inv {v : V} {x : Str} (r : Rep K F io v (.str x)) : v = .str x := by cases r; rfl
theorem Rep.non_inv {v : V} (r : Rep K F io v .non) : v = .non := by cases r; rfl
theorem Rep.ty_inv {v : V} {n : String} (r : Rep K F io v (.ty n)) : v = .ty n := by cases r; rfl
theorem Rep.ref_inv {v : V} {a : Addr} (r : Rep K F io v (.ref a)) : v = .ref a := by cases r; rfl
theorem RepL.ints : ∀ {v : List V} {ns : List Int}, RepL K F io v (ns.map D.int) → v = ns.map V.int
  | [], [], _ => rfl
  | _ :: _, _ :: _, .cons r t => by rw [Rep.int_inv r, RepL.ints t]; rfl
theorem RepL.bls : ∀ {v : List V} {ns : List Bool}, RepL K F io v (ns.map D.bl) → v = ns.map V.bl
  | [], [], _ => rfl
  | _ :: _, _ :: _, .cons r t => by rw [Rep.bl_inv r, RepL.bls t]; rfl
theorem RepL.strs' : ∀ {v : List V} {ns : List Str}, RepL K F io v (ns.map D.str) → v = ns.map V.str
  | [], [], _ => rfl
  | _ :: _, _ :: _, .cons r t => by rw [Rep.str_inv r, RepL.strs' t]; rfl
end

theorem ne_in {l : List Addr} {a p : Addr} (m : a ∈ l) (h : p ∉ l) : a ≠ p := fun q => h (q ▸ m)
/-! ### a step, the memory -/
structure Step (F : Hp) (io : List Addr) (H : Hp) (F' : Hp) (jo : List Addr) (H' : Hp) : Prop where
  le : Le F F'
  pre : Pre io jo
  keep : ∀ a o, H a = some o → a ∉ io → H' a = some o
  new : ∀ a, a ∈ jo → a ∉ io → H a = none
  fr : ∀ a o, H a = some o → a ∉ io → F a = none → F' a = none
theorem Step.rfl {F H : Hp} {io : List Addr} : Step F io H F io H := ⟨Le.rfl, Pre.rfl, fun _ _ h _ => h, fun _ h n => absurd h n, fun _ _ _ _ h => h⟩
theorem Step.trans {F F1 F2 H H1 H2 : Hp} {io i1 i2 : List Addr} (a : Step F io H F1 i1 H1) (b : Step F1 i1 H1 F2 i2 H2) : Step F io H F2 i2 H2 where
  le := a.le.trans b.le
  pre := a.pre.trans b.pre
  keep := fun x o e n => b.keep x o (a.keep x o e n) fun m => by
    have := a.new x m n
    rw [e] at this; cases this
  new := fun x m n => by
    by_cases h : x ∈ i1
    · exact a.new x h n
    · have q := b.new x m h
      cases e : H x with
      | none => rfl
      | some o => rw [a.keep x o e n] at q; cases q
  fr := fun x o e n f => b.fr x o (a.keep x o e n) (fun m => by
    have := a.new x m n
    rw [e] at this; cases this) (a.fr x o e n f)

/-- the heap object that stands for a cell's content -/
def CellRep (K : PySem.W.Frag) (F : Hp) (io : List Addr) (o : HO) : Cell → Prop
  | .dead => False
  | .lst ds => ∃ xs, o = .lst xs ∧ RepL K F io xs ds
  | .dk ds => ∃ xs, o = .dK xs ∧ RepK K F io xs ds
theorem CellRep.mono {K : PySem.W.Frag} {F G : Hp} {io jo : List Addr} {o : HO} {c : Cell} (l : Le F G) (p : Pre io jo) (h : CellRep K F io o c) : CellRep K G jo o c := by
  cases c with
  | dead => exact h
  | lst ds => obtain ⟨xs, e, r⟩ := h; exact ⟨xs, e, RepL.mono l p r⟩
  | dk ds => obtain ⟨xs, e, r⟩ := h; exact ⟨xs, e, RepK.mono l p r⟩

structure Mem (K : PySem.W.Frag) (F : Hp) (io : List Addr) (H : Hp) (mu : Mu) : Prop where
  le : Le F H
  len : io.length = mu.length
  nd : io.Nodup
  tr : ∀ a, a ∈ io → ∃ o, H a = some o
  cel : ∀ (n : Nat) a c, io[n]? = some a → mu[n]? = some c → c = .dead ∨ (F a = none ∧ ∃ o, H a = some o ∧ CellRep K F io o c)

section
variable {K : PySem.W.Frag} {F H : Hp} {io : List Addr} {mu : Mu} {p : Addr} {o : HO}
theorem Le.put (h : F p = none) : Le F (upd F p o) := fun a u e => by
  rw [upd_ne (ne_of_none e h)]; exact e
theorem Le.put2 {G : Hp} (l : Le F G) : Le (upd F p o) (upd G p o) := fun a u e => by
  by_cases h : a = p
  · subst h; rw [upd_same] at e ⊢; exact e
  · rw [upd_ne h] at e ⊢; exact l _ _ e
theorem Mem.fresh (M : Mem K F io H mu) (hp : H p = none) : F p = none := by
  cases e : F p with
  | none => rfl
  | some u => rw [M.le _ _ e] at hp; cases hp
theorem Mem.notin (M : Mem K F io H mu) (hp : H p = none) : p ∉ io := fun m => by
  obtain ⟨u, e⟩ := M.tr p m
  rw [e] at hp; cases hp
/-- something new, told for good -/
theorem Mem.newF (M : Mem K F io H mu) (hp : H p = none) : Mem K (upd F p o) io (upd H p o) mu where
  le := M.le.put2
  len := M.len
  nd := M.nd
  tr := fun a m => by
    obtain ⟨u, e⟩ := M.tr a m
    exact ⟨u, by rw [upd_ne (ne_in m (M.notin hp))]; exact e⟩
  cel := fun n a c e1 e2 => by
    have ne : a ≠ p := ne_in (List.mem_of_getElem? e1) (M.notin hp)
    rcases M.cel n a c e1 e2 with h | ⟨h, u, hu, r⟩
    · exact .inl h
    · exact .inr ⟨by rw [upd_ne ne]; exact h, u, by rw [upd_ne ne]; exact hu, r.mono (Le.put (M.fresh hp)) Pre.rfl⟩
theorem Mem.stepF (M : Mem K F io H mu) (hp : H p = none) : Step F io H (upd F p o) io (upd H p o) :=
  ⟨Le.put (M.fresh hp), Pre.rfl, fun a u e _ => by rw [upd_ne (ne_of_none e hp)]; exact e, fun _ h n => absurd h n, fun a u e _ f => by rw [upd_ne (ne_of_none e hp)]; exact f⟩
/-- something new that is not told at all (a comprehension's list while it grows) -/
theorem Mem.newX (M : Mem K F io H mu) (hp : H p = none) : Mem K F io (upd H p o) mu where
  le := M.le.trans (Le.put hp)
  len := M.len
  nd := M.nd
  tr := fun a m => by
    obtain ⟨u, e⟩ := M.tr a m
    exact ⟨u, by rw [upd_ne (ne_in m (M.notin hp))]; exact e⟩
  cel := fun n a c e1 e2 => by
    have ne : a ≠ p := ne_in (List.mem_of_getElem? e1) (M.notin hp)
    rcases M.cel n a c e1 e2 with h | ⟨h, u, hu, r⟩
    · exact .inl h
    · exact .inr ⟨h, u, by rw [upd_ne ne]; exact hu, r⟩
theorem Mem.stepX (M : Mem K F io H mu) (hp : H p = none) : Step F io H F io (upd H p o) :=
  ⟨Le.rfl, Pre.rfl, fun a u e _ => by rw [upd_ne (ne_of_none e hp)]; exact e, fun _ h n => absurd h n, fun _ _ _ _ f => f⟩
/-- what is not told may be written -/
theorem Mem.setX {u : HO} (M : Mem K F io H mu) (hp : p ∉ io) (hf : F p = Option.none) (hu : H p = some u) : Mem K F io (upd H p o) mu where
  le := fun a v e => by rw [upd_ne (ne_of_none e hf)]; exact M.le _ _ e
  len := M.len
  nd := M.nd
  tr := fun a m => by
    obtain ⟨u, e⟩ := M.tr a m
    exact ⟨u, by rw [upd_ne (ne_in m hp)]; exact e⟩
  cel := fun n a c e1 e2 => by
    have ne : a ≠ p := ne_in (List.mem_of_getElem? e1) hp
    rcases M.cel n a c e1 e2 with h | ⟨h, u, hu, r⟩
    · exact .inl h
    · exact .inr ⟨h, u, by rw [upd_ne ne]; exact hu, r⟩
/-- a new cell -/
theorem Mem.newC {c : Cell} (M : Mem K F io H mu) (hp : H p = none) (hc : CellRep K F io o c) : Mem K F (io ++ [p]) (upd H p o) (mu ++ [c]) where
  le := M.le.trans (Le.put hp)
  len := by rw [List.length_append, List.length_append, M.len]; rfl
  nd := by
    refine List.nodup_append.mpr ⟨M.nd, by simp, fun a ha b hb => ?_⟩
    simp only [List.mem_singleton] at hb
    subst hb
    exact ne_in ha (M.notin hp)
  tr := fun a m => by
    rcases List.mem_append.mp m with m | m
    · obtain ⟨u, e⟩ := M.tr a m
      exact ⟨u, by rw [upd_ne (ne_in m (M.notin hp))]; exact e⟩
    · simp only [List.mem_singleton] at m
      subst m; exact ⟨o, upd_same⟩
  cel := fun n a c' e1 e2 => by
    by_cases hn : n < io.length
    · rw [List.getElem?_append_left hn] at e1
      rw [List.getElem?_append_left (by rw [← M.len]; exact hn)] at e2
      have ne : a ≠ p := ne_in (List.mem_of_getElem? e1) (M.notin hp)
      rcases M.cel n a c' e1 e2 with h | ⟨h, u, hu, r⟩
      · exact .inl h
      · exact .inr ⟨h, u, by rw [upd_ne ne]; exact hu, r.mono Le.rfl Pre.app⟩
    · have hn' : n = io.length := by
        have := (List.getElem?_eq_some_iff.mp e1).1
        rw [List.length_append, List.length_singleton] at this
        omega
      subst hn'
      rw [List.getElem?_append_right (Nat.le_refl _), Nat.sub_self] at e1
      rw [List.getElem?_append_right (by rw [← M.len]; exact Nat.le_refl _), ← M.len, Nat.sub_self] at e2
      simp at e1 e2
      subst e1; subst e2
      exact .inr ⟨M.fresh hp, o, upd_same, hc.mono Le.rfl Pre.app⟩
/-- what stands already, untold, becomes a cell, or data -/
theorem Mem.adoptC {c : Cell} (M : Mem K F io H mu) (ho : H p = some o) (hf : F p = none) (hi : p ∉ io) (hc : CellRep K F io o c) : Mem K F (io ++ [p]) H (mu ++ [c]) where
  le := M.le
  len := by rw [List.length_append, List.length_append, M.len]; rfl
  nd := by
    refine List.nodup_append.mpr ⟨M.nd, by simp, fun a ha b hb => ?_⟩
    simp only [List.mem_singleton] at hb
    subst hb
    exact ne_in ha hi
  tr := fun a m => by
    rcases List.mem_append.mp m with m | m
    · exact M.tr a m
    · simp only [List.mem_singleton] at m
      subst m; exact ⟨o, ho⟩
  cel := fun n a c' e1 e2 => by
    by_cases hn : n < io.length
    · rw [List.getElem?_append_left hn] at e1
      rw [List.getElem?_append_left (by rw [← M.len]; exact hn)] at e2
      rcases M.cel n a c' e1 e2 with h | ⟨h, u, hu, r⟩
      · exact .inl h
      · exact .inr ⟨h, u, hu, r.mono Le.rfl Pre.app⟩
    · have hn' : n = io.length := by
        have := (List.getElem?_eq_some_iff.mp e1).1
        rw [List.length_append, List.length_singleton] at this
        omega
      subst hn'
      rw [List.getElem?_append_right (Nat.le_refl _), Nat.sub_self] at e1
      rw [List.getElem?_append_right (by rw [← M.len]; exact Nat.le_refl _), ← M.len, Nat.sub_self] at e2
      simp at e1 e2
      subst e1; subst e2
      exact .inr ⟨hf, o, ho, hc.mono Le.rfl Pre.app⟩
theorem Mem.adoptF (M : Mem K F io H mu) (ho : H p = some o) (hf : F p = none) (hi : p ∉ io) : Mem K (upd F p o) io H mu where
  le := fun a u e => by
    by_cases h : a = p
    · subst h; rw [upd_same] at e; cases e; exact ho
    · rw [upd_ne h] at e; exact M.le _ _ e
  len := M.len
  nd := M.nd
  tr := M.tr
  cel := fun n a c e1 e2 => by
    have ne : a ≠ p := ne_in (List.mem_of_getElem? e1) hi
    rcases M.cel n a c e1 e2 with h | ⟨h, u, hu, r⟩
    · exact .inl h
    · exact .inr ⟨by rw [upd_ne ne]; exact h, u, hu, r.mono (Le.put hf) Pre.rfl⟩
theorem Mem.stepC (M : Mem K F io H mu) (hp : H p = none) : Step F io H F (io ++ [p]) (upd H p o) where
  le := Le.rfl
  pre := Pre.app
  keep := fun a u e _ => by rw [upd_ne (ne_of_none e hp)]; exact e
  new := fun a m n => by
    rcases List.mem_append.mp m with m | m
    · exact absurd m n
    · simp only [List.mem_singleton] at m
      subst m; exact hp
  fr := fun _ _ _ _ f => f
theorem Mem.lenR (M : Mem K F io H mu) : (io ++ [p])[mu.length]? = some p := by
  rw [← M.len, List.getElem?_append_right (Nat.le_refl _), Nat.sub_self]; rfl
theorem nd_inj : ∀ {l : List Addr} {n m : Nat} {a : Addr}, l.Nodup → l[n]? = some a → l[m]? = some a → n = m
  | [], _, _, _, _, e, _ => by simp at e
  | _ :: _, 0, 0, _, _, _, _ => rfl
  | x :: l, 0, m + 1, a, h, e1, e2 => by
    simp at e1 e2; subst e1
    exact absurd (List.mem_of_getElem? e2) (List.nodup_cons.mp h).1
  | x :: l, n + 1, 0, a, h, e1, e2 => by
    simp at e1 e2; subst e2
    exact absurd (List.mem_of_getElem? e1) (List.nodup_cons.mp h).1
  | x :: l, n + 1, m + 1, a, h, e1, e2 => by
    simp at e1 e2
    rw [nd_inj (List.nodup_cons.mp h).2 e1 e2]
theorem Mem.nd_eq (M : Mem K F io H mu) {n m : Nat} {a : Addr} (e1 : io[n]? = some a) (e2 : io[m]? = some a) : n = m := by
  have h1 := (List.getElem?_eq_some_iff.mp e1)
  have h2 := (List.getElem?_eq_some_iff.mp e2)
  exact nd_inj M.nd e1 e2
/-- a cell is written -/
theorem Mem.setC {n : Nat} {c c0 : Cell} (M : Mem K F io H mu) (hn : io[n]? = some p) (h0 : mu[n]? = some c0) (hl : c0 ≠ .dead) (hc : CellRep K F io o c) : Mem K F io (upd H p o) (mu.set n c) where
  le := fun a v e => by
    rcases M.cel n p c0 hn h0 with h | ⟨h, _⟩
    · exact absurd h hl
    · rw [upd_ne (ne_of_none e h)]; exact M.le _ _ e
  len := by rw [List.length_set]; exact M.len
  nd := M.nd
  tr := fun a m => by
    by_cases h : a = p
    · subst h; exact ⟨o, upd_same⟩
    · obtain ⟨u, e⟩ := M.tr a m
      exact ⟨u, by rw [upd_ne h]; exact e⟩
  cel := fun m a c' e1 e2 => by
    by_cases h : m = n
    · subst h
      rw [hn] at e1; cases e1
      rw [List.getElem?_set_self (List.getElem?_eq_some_iff.mp h0).1] at e2
      cases e2
      rcases M.cel m p c0 hn h0 with h | ⟨h, _⟩
      · exact absurd h hl
      · exact .inr ⟨h, o, upd_same, hc⟩
    · rw [List.getElem?_set_ne (fun q => h q.symm)] at e2
      have ne : a ≠ p := fun q => h (M.nd_eq (by rw [← q]; exact e1) hn)
      rcases M.cel m a c' e1 e2 with h | ⟨h, u, hu, r⟩
      · exact .inl h
      · exact .inr ⟨h, u, by rw [upd_ne ne]; exact hu, r⟩
theorem Mem.stepW {n : Nat} (hn : io[n]? = some p) : Step F io H F io (upd H p o) :=
  ⟨Le.rfl, Pre.rfl, fun a u e m => by rw [upd_ne (fun q => m (by rw [q]; exact List.mem_of_getElem? hn))]; exact e, fun _ h m => absurd h m, fun _ _ _ _ f => f⟩
/-- a list's cell becomes data -/
theorem Mem.freeze {n : Nat} {ds : List D} (M : Mem K F io H mu) (hn : io[n]? = some p) (h0 : mu[n]? = some (.lst ds)) :
    ∃ o, Mem K (upd F p o) io H (mu.set n .dead) ∧ Step F io H (upd F p o) io H ∧ Rep K (upd F p o) io (.ref p) (.lst ds) := by
  rcases M.cel n p _ hn h0 with h | ⟨hf, o, ho, hr⟩
  · cases h
  · have lf : Le F (upd F p o) := Le.put hf
    refine ⟨o, ⟨fun a u e => ?_, by rw [List.length_set]; exact M.len, M.nd, M.tr, fun m a c' e1 e2 => ?_⟩, ⟨lf, Pre.rfl, fun _ _ h _ => h, fun _ h m => absurd h m, fun a u _ m f => by rw [upd_ne (fun q => m (by rw [q]; exact List.mem_of_getElem? hn))]; exact f⟩, ?_⟩
    · by_cases h : a = p
      · subst h; rw [upd_same] at e; cases e; exact ho
      · rw [upd_ne h] at e; exact M.le _ _ e
    · by_cases h : m = n
      · subst h
        rw [List.getElem?_set_self (List.getElem?_eq_some_iff.mp h0).1] at e2
        cases e2; exact .inl rfl
      · rw [List.getElem?_set_ne (fun q => h q.symm)] at e2
        have ne : a ≠ p := fun q => h (M.nd_eq (by rw [← q]; exact e1) hn)
        rcases M.cel m a c' e1 e2 with h | ⟨h, u, hu, r⟩
        · exact .inl h
        · exact .inr ⟨by rw [upd_ne ne]; exact h, u, hu, r.mono lf Pre.rfl⟩
    · obtain ⟨xs, rfl, r⟩ := hr
      exact .lst upd_same (RepL.mono lf Pre.rfl r)
end

/-! ### what a value shows now -/
def view (mu : Mu) : D → D
  | .cell n => match mu[n]? with
    | some (.lst l) => .lst l
    | some (.dk l) => .dk l
    | _ => .cell n
  | d => d
section
variable {K : PySem.W.Frag} {F H : Hp} {io : List Addr} {mu : Mu} {v : V} {d : D}
/-- as Rep, over the heap as it stands, one level deep -/
theorem view_cell (mu : Mu) (n : Nat) : view mu (.cell n) = match mu[n]? with
    | some (.lst l) => .lst l
    | some (.dk l) => .dk l
    | _ => .cell n := rfl
theorem Mem.lst {ds : List D} (M : Mem K F io H mu) (r : Rep K F io v d) (e : view mu d = .lst ds) : ∃ a xs, v = .ref a ∧ H a = some (.lst xs) ∧ RepL K F io xs ds := by
  cases r with
  | lst h r => cases e; exact ⟨_, _, rfl, M.le _ _ h, r⟩
  | @cell n a h =>
    rw [view_cell] at e
    cases q : mu[n]? with
    | none => rw [q] at e; cases e
    | some c =>
      rw [q] at e
      cases c with
      | dead => cases e
      | dk l => cases e
      | lst l =>
        cases e
        rcases M.cel n a _ h q with z | ⟨_, o, ho, xs, rfl, r⟩
        · cases z
        · exact ⟨a, xs, rfl, ho, r⟩
  | _ => cases e
theorem Mem.tup {ds : List D} (M : Mem K F io H mu) (r : Rep K F io v d) (e : view mu d = .tup ds) : ∃ a xs, v = .ref a ∧ SqT K H a xs ∧ RepL K F io xs ds := by
  cases r with
  | tup h r => cases e; exact ⟨_, _, rfl, M.le.sqt h, r⟩
  | @cell n a h =>
    rw [view_cell] at e
    cases q : mu[n]? with
    | none => rw [q] at e; cases e
    | some c =>
      rw [q] at e
      cases c <;> cases e
  | _ => cases e
theorem Mem.dk {ds : List (Key × D)} (M : Mem K F io H mu) (r : Rep K F io v d) (e : view mu d = .dk ds) : ∃ a xs, v = .ref a ∧ Rd H a (.dK xs) ∧ RepK K F io xs ds := by
  cases r with
  | dk h r => cases e; exact ⟨_, _, rfl, .inr ⟨_, M.le _ _ h⟩, r⟩
  | @cell n a h =>
    rw [view_cell] at e
    cases q : mu[n]? with
    | none => rw [q] at e; cases e
    | some c =>
      rw [q] at e
      cases c with
      | dead => cases e
      | lst l => cases e
      | dk l =>
        cases e
        rcases M.cel n a _ h q with z | ⟨_, o, ho, xs, rfl, r⟩
        · cases z
        · exact ⟨a, xs, rfl, .inl ho, r⟩
  | _ => cases e
/-- a cell that shows a list, for writing -/
theorem Mem.lstW {n : Nat} {ds : List D} (M : Mem K F io H mu) (r : Rep K F io v (.cell n)) (e : mu[n]? = some (.lst ds)) : ∃ a xs, v = .ref a ∧ io[n]? = some a ∧ H a = some (.lst xs) ∧ RepL K F io xs ds := by
  cases r with
  | cell h =>
    rcases M.cel n _ _ h e with z | ⟨_, o, ho, xs, rfl, r⟩
    · cases z
    · exact ⟨_, xs, rfl, h, ho, r⟩
theorem Mem.dkW {n : Nat} {ds : List (Key × D)} (M : Mem K F io H mu) (r : Rep K F io v (.cell n)) (e : mu[n]? = some (.dk ds)) : ∃ a xs, v = .ref a ∧ io[n]? = some a ∧ H a = some (.dK xs) ∧ RepK K F io xs ds := by
  cases r with
  | cell h =>
    rcases M.cel n _ _ h e with z | ⟨_, o, ho, xs, rfl, r⟩
    · cases z
    · exact ⟨_, xs, rfl, h, ho, r⟩
theorem view_nocell {c : D} (e : view mu d = c) (hc : ∀ l, c ≠ .lst l) (hk : ∀ l, c ≠ .dk l) : d = c := by
  cases d with
  | cell n =>
    rw [view_cell] at e
    cases q : mu[n]? with
    | none => rw [q] at e; exact e
    | some x =>
      rw [q] at e
      cases x with
      | dead => exact e
      | lst l => exact absurd e.symm (hc l)
      | dk l => exact absurd e.symm (hk l)
  | _ => exact e
end

/-! ### results -/
/-- an exception: its class, its own attributes where it has some -/
structure XD where
  cls : Value
  fs : Option (List (Str × D))
def RepX (K : PySem.W.Frag) (F : Hp) (io : List Addr) (H : Hp) (x : XD) (c : Value) (dd : Option Addr) : Prop :=
  c = x.cls ∧ match x.fs with
    | none => dd = none
    | some fs => ∃ a vs, dd = some a ∧ H a = some (.xd vs) ∧ vs.map (·.1) = fs.map (·.1) ∧ RepL K F io (vs.map (·.2)) (fs.map (·.2))
inductive Res (α : Type) where
  | ok (a : α) (m : Mu)
  | exc (x : XD) (m : Mu)
  | stuck
def Res.bind {α β : Type} (r : Res α) (f : α → Mu → Res β) : Res β := match r with
  | .ok a m => f a m
  | .exc x m => .exc x m
  | .stuck => .stuck
def Res.ofO {α : Type} : Option (α × Mu) → Res α
  | some p => .ok p.1 p.2
  | none => .stuck

abbrev WH := Value → Option Addr → Hp → Prop
def Sat {α β : Type} (K : PySem.W.Frag) (rep : Hp → List Addr → β → α → Prop) (F : Hp) (io : List Addr) (H : Hp) (W : WH) (r : Res α) (Q : β → Hp → Prop) : Prop :=
  match r with
  | .ok a m => ∀ F' jo H' b, Step F io H F' jo H' → Mem K F' jo H' m → rep F' jo b a → Q b H'
  | .exc x m => ∀ F' jo H' c dd, Step F io H F' jo H' → Mem K F' jo H' m → RepX K F' jo H' x c dd → W c dd H'
  | .stuck => False
def SatO {α β : Type} (K : PySem.W.Frag) (rep : Hp → List Addr → β → α → Prop) (F : Hp) (io : List Addr) (H : Hp) (r : Option (α × Mu)) (Q : β → Hp → Prop) : Prop :=
  match r with
  | some p => ∀ F' jo H' b, Step F io H F' jo H' → Mem K F' jo H' p.2 → rep F' jo b p.1 → Q b H'
  | none => False
section
variable {α β γ δ : Type} {K : PySem.W.Frag} {rep : Hp → List Addr → β → α → Prop} {rep2 : Hp → List Addr → δ → γ → Prop} {F F' H H' : Hp} {io jo : List Addr} {W : WH} {Q : β → Hp → Prop}
theorem Sat.step {r : Res α} (h : Sat K rep F io H W r Q) (s : Step F io H F' jo H') : Sat K rep F' jo H' W r Q := by
  cases r with
  | ok a m => exact fun F2 j2 H2 b s2 => h F2 j2 H2 b (s.trans s2)
  | exc x m => exact fun F2 j2 H2 c dd s2 => h F2 j2 H2 c dd (s.trans s2)
  | stuck => exact h
theorem Sat.ofO {r : Option (α × Mu)} (h : Sat K rep F io H W (.ofO r) Q) : SatO K rep F io H r Q := by
  cases r with
  | some p => exact h
  | none => exact h
theorem Sat.bind {r : Res α} {f : α → Mu → Res γ} {Q2 : δ → Hp → Prop} (h : Sat K rep2 F io H W (r.bind f) Q2) :
    Sat K rep F io H W r fun b H1 => ∃ F1 j1 m1 a, Step F io H F1 j1 H1 ∧ Mem K F1 j1 H1 m1 ∧ rep F1 j1 b a ∧ Sat K rep2 F1 j1 H1 W (f a m1) Q2 := by
  cases r with
  | ok a m => exact fun F1 j1 H1 b s M r => ⟨F1, j1, m, a, s, M, r, Sat.step h s⟩
  | exc x m => exact h
  | stuck => exact h
/-- as bind, the end told from the beginning -/
theorem Sat.bindB {r : Res α} {f : α → Mu → Res γ} {Q2 : δ → Hp → Prop} (h : Sat K rep2 F io H W (r.bind f) Q2) :
    Sat K rep F io H W r fun b H1 => ∃ F1 j1 m1 a, Step F io H F1 j1 H1 ∧ Mem K F1 j1 H1 m1 ∧ rep F1 j1 b a ∧ Sat K rep2 F io H W (f a m1) Q2 := by
  cases r with
  | ok a m => exact fun F1 j1 H1 b s M r => ⟨F1, j1, m, a, s, M, r, h⟩
  | exc x m => exact h
  | stuck => exact h
theorem Sat.imp {r : Res α} {Q2 : β → Hp → Prop} (h : Sat K rep F io H W r Q) (k : ∀ b H1, Q b H1 → Q2 b H1) : Sat K rep F io H W r Q2 := by
  cases r with
  | ok a m => exact fun F2 j2 H2 b s2 M r => k _ _ (h F2 j2 H2 b s2 M r)
  | exc x m => exact h
  | stuck => exact h
end

/-! ### slots -/
abbrev DEnv := List (Option D)
def EnvR (K : PySem.W.Frag) (F : Hp) (io : List Addr) (σ : L2.St) (env : DEnv) : Prop :=
  σ.length = env.length ∧ ∀ (i : Nat) d, env[i]? = some (some d) → ∃ v, σ[i]? = some (some v) ∧ Rep K F io v d
section
variable {K : PySem.W.Frag} {F F' H H' : Hp} {io jo : List Addr} {σ : L2.St} {env : DEnv}
theorem EnvR.step (h : EnvR K F io σ env) (s : Step F io H F' jo H') : EnvR K F' jo σ env :=
  ⟨h.1, fun i d e => let ⟨v, e1, r⟩ := h.2 i d e; ⟨v, e1, r.mono s.le s.pre⟩⟩
theorem EnvR.set {i : Nat} {v : V} {d : D} (h : EnvR K F io σ env) (r : Rep K F io v d) : EnvR K F io (σ.set i (some v)) (env.set i (some d)) := by
  refine ⟨by rw [List.length_set, List.length_set]; exact h.1, fun j e he => ?_⟩
  by_cases q : i = j
  · subst q
    by_cases hl : i < env.length
    · rw [List.getElem?_set_self hl] at he
      cases he
      exact ⟨v, by rw [List.getElem?_set_self (by rw [h.1]; exact hl)], r⟩
    · rw [List.getElem?_eq_none (by rw [List.length_set]; omega)] at he; cases he
  · rw [List.getElem?_set_ne q] at he
    rw [List.getElem?_set_ne q]
    exact h.2 j e he
theorem EnvR.forget {i : Nat} (h : EnvR K F io σ env) : EnvR K F io (σ.set i none) (env.set i none) := by
  refine ⟨by rw [List.length_set, List.length_set]; exact h.1, fun j e he => ?_⟩
  by_cases q : i = j
  · subst q
    by_cases hl : i < env.length
    · rw [List.getElem?_set_self hl] at he; cases he
    · rw [List.getElem?_eq_none (by rw [List.length_set]; omega)] at he; cases he
  · rw [List.getElem?_set_ne q] at he
    rw [List.getElem?_set_ne q]
    exact h.2 j e he
end
end DL

/-! DL2: meanings of expressions and tests, and the rules. -/
namespace DL
open PySem L2

abbrev DenE := DEnv → Mu → Res D
abbrev DenT := DEnv → Mu → Res Bool
abbrev DenA := DEnv → Mu → Res (List D)
abbrev ORes (α : Type) := Option (α × Mu)
def RepB (_ : Hp) (_ : List Addr) (b b' : Bool) : Prop := b = b'

def tE (K : PySem.W.Frag) (W : WX) (m : DenE) : TE := fun σ H Q => ∃ F io env mu, Mem K F io H mu ∧ EnvR K F io σ env ∧ Sat K (Rep K) F io H (fun c dd H => W c dd σ H) (m env mu) Q
def tT (K : PySem.W.Frag) (W : WX) (m : DenT) : TT := fun σ H Q => ∃ F io env mu, Mem K F io H mu ∧ EnvR K F io σ env ∧ Sat K RepB F io H (fun c dd H => W c dd σ H) (m env mu) Q
def tA (K : PySem.W.Frag) (W : WX) (m : DenA) : TA := fun σ H Q => ∃ F io env mu, Mem K F io H mu ∧ EnvR K F io σ env ∧ Sat K (RepL K) F io H (fun c dd H => W c dd σ H) (m env mu) Q
abbrev DE (X : Cx) (W : WX) (e : Expr) (m : DenE) : Prop := PE X e (tE X.K W m)
abbrev DT (X : Cx) (W : WX) (e : Expr) (m : DenT) : Prop := PT X e (tT X.K W m)
abbrev DW (X : Cx) (W : WX) (e : Expr) (m : DenT) : Prop := PW X e (tT X.K W m)
abbrev DA (X : Cx) (W : WX) (es : List Expr) (m : DenA) : Prop := PA X es (tA X.K W m)

section
variable {X : Cx} {W : WX}
theorem _root_.L2.PE.imp {e : Expr} {t t' : TE} (h : PE X e t) (k : ∀ σ H Q, t' σ H Q → t σ H Q) : PE X e t' := ⟨fun pins s σ H Q I q => h.run pins s σ H Q I (k σ H Q q)⟩
theorem _root_.L2.PT.imp {e : Expr} {t t' : TT} (h : PT X e t) (k : ∀ σ H Q, t' σ H Q → t σ H Q) : PT X e t' := ⟨fun pins s σ H Q I q => h.run pins s σ H Q I (k σ H Q q)⟩
theorem _root_.L2.PW.imp {e : Expr} {t t' : TT} (h : PW X e t) (k : ∀ σ H Q, t' σ H Q → t σ H Q) : PW X e t' := ⟨fun w pins s σ H Q I q => h.run w pins s σ H Q I (k σ H Q q)⟩
theorem _root_.L2.PA.imp {e : List Expr} {t t' : TA} (h : PA X e t) (k : ∀ σ H Q, t' σ H Q → t σ H Q) : PA X e t' := ⟨fun p pins s σ H Q I q => h.run p pins s σ H Q I (k σ H Q q)⟩
theorem _root_.L2.PS.imp {e : Stmt} {t t' : TS} (h : PS X e t) (k : ∀ D σ H, t' D σ H → t D σ H) : PS X e t' := ⟨fun pins s σ H D I q => h.run pins s σ H D I (k D σ H q)⟩
theorem _root_.L2.PSs.imp {e : List Stmt} {t t' : TS} (h : PSs X e t) (k : ∀ D σ H, t' D σ H → t D σ H) : PSs X e t' := ⟨fun pins s σ H D I q => h.run pins s σ H D I (k D σ H q)⟩

/-! ### names, constants -/
def mVar (i : Nat) : DenE := fun env mu => match env[i]? with
  | some (some d) => .ok d mu
  | _ => .stuck
def mC (d : D) : DenE := fun _ mu => .ok d mu
theorem de_var {e : Expr} {i : Nat} (h : PE X e (tVar i)) : DE X W e (mVar i) := h.imp fun σ H Q ⟨F, io, env, mu, M, R, q⟩ => by
  unfold mVar at q
  split at q
  · rename_i d e1
    obtain ⟨v, e2, r⟩ := R.2 i d e1
    exact ⟨v, e2, q F io H v Step.rfl M r⟩
  · exact q.elim
theorem de_c {e : Expr} {v : V} {d : D} (h : PE X e (tC v)) (r : ∀ F io, Rep X.K F io v d) : DE X W e (mC d) := h.imp fun σ H Q ⟨F, io, env, mu, M, R, q⟩ => q F io H v Step.rfl M (r F io)
theorem de_int {i j pos} : DE X W (.Constant (.int i) j pos) (mC (.int i)) := de_c pe_int fun _ _ => .int
theorem de_bl {b j pos} : DE X W (.Constant (.bool b) j pos) (mC (.bl b)) := de_c pe_bl fun _ _ => .bl
theorem de_non {j pos} : DE X W (.Constant .none j pos) (mC .non) := de_c pe_non fun _ _ => .non
theorem de_str {x j pos} : DE X W (.Constant (.str x) j pos) (mC (.str x)) := de_c pe_str fun _ _ => .str

/-! ### operators -/
def OpD (K : PySem.W.Frag) (r : R2) (g : Mu → D → D → ORes D) : Prop := ∀ F io H mu x y dx dy (Q : VK), Mem K F io H mu → Rep K F io x dx → Rep K F io y dy → SatO K (Rep K) F io H (g mu dx dy) Q → r x y H Q
def mOp (g : Mu → D → D → ORes D) (ma mb : DenE) : DenE := fun env mu => (ma env mu).bind fun x m1 => (mb env m1).bind fun y m2 => .ofO (g m2 x y)
theorem tE_op {r : R2} {g : Mu → D → D → ORes D} {K : PySem.W.Frag} {ma mb : DenE} (hg : OpD K r g) : ∀ (σ : L2.St) (H : Hp) (Q : VK), tE K W (mOp g ma mb) σ H Q → tOp r (tE K W ma) (tE K W mb) σ H Q :=
  fun σ H Q ⟨F, io, env, mu, M, R, h⟩ => ⟨F, io, env, mu, M, R, (Sat.bind h).imp fun x H1 ⟨F1, j1, m1, dx, s1, M1, r1, h1⟩ =>
    ⟨F1, j1, env, m1, M1, R.step s1, (Sat.bind h1).imp fun y H2 ⟨F2, j2, m2, dy, s2, M2, r2, h2⟩ => hg F2 j2 H2 m2 x y dx dy Q M2 (r1.mono s2.le s2.pre) r2 (Sat.ofO h2)⟩⟩
section
variable {a b c : Expr} {ma mb mc : DenE} {pos : Pos} {r r' : R2} {g g' : Mu → D → D → ORes D}
theorem de_op {op : Operator} (ho : OpR X (binaryOp op) r) (hg : OpD X.K r g) (ha : DE X W a ma) (hb : DE X W b mb) : DE X W (.BinOp a op b pos) (mOp g ma mb) := (pe_op ho ha hb).imp (tE_op hg)
theorem de_cmp {op : CmpOp} (ho : OpR X (compareOp op) r) (hg : OpD X.K r g) (ha : DE X W a ma) (hb : DE X W b mb) (hm : behindInMarks op b = false) : DE X W (.Compare a [op] [b] pos) (mOp g ma mb) := (pe_cmpR ho ha hb hm).imp (tE_op hg)
theorem de_ix (hr : IxR X r) (hg : OpD X.K r g) (ha : DE X W a ma) (hb : DE X W b mb) (hs : PlainIx b) : DE X W (.Subscript a b pos) (mOp g ma mb) := (pe_ix hr ha hb hs).imp (tE_op hg)
/-- a value as a test -/
def mTest (m : DenE) : DenT := fun env mu => (m env mu).bind fun d m1 => match d with
  | .bl b => .ok b m1
  | _ => .stuck
theorem sat_test {K : PySem.W.Frag} {F : Hp} {io : List Addr} {H : Hp} {W : WH} {r : Res D} {Q : Bool → Hp → Prop} (h : Sat K RepB F io H W (r.bind fun d m1 => match d with
  | .bl b => .ok b m1
  | _ => .stuck) Q) : Sat K (Rep K) F io H W r fun x H1 => ∃ k, x = .bl k ∧ Q k H1 := (Sat.bind h).imp fun x H1 ⟨F1, j1, m1, d, s1, M1, r1, h1⟩ => by
  cases d with
  | bl k => exact ⟨k, r1.bl_inv, h1 F1 j1 H1 k Step.rfl M1 rfl⟩
  | _ => exact h1.elim
theorem tT_test {K : PySem.W.Frag} {m : DenE} : ∀ (σ : L2.St) (H : Hp) (Q : Bool → Hp → Prop), tT K W (mTest m) σ H Q → tE K W m σ H fun x H1 => ∃ k, x = .bl k ∧ Q k H1 := fun σ H Q ⟨F, io, env, mu, M, R, h⟩ => ⟨F, io, env, mu, M, R, sat_test h⟩
theorem dt_cmp {op : CmpOp} (ho : OpR X (compareOp op) r) (hg : OpD X.K r g) (ha : DE X W a ma) (hb : DE X W b mb) (hm : behindInMarks op b = false) : DT X W (.Compare a [op] [b] pos) (mTest (mOp g ma mb)) :=
  (pt_cmpR ho ha hb hm).imp fun σ H Q h => tE_op hg σ H _ (tT_test σ H Q h)
/-- a op1 b op2 c -/
def mChain (g g' : Mu → D → D → ORes D) (ma mb mc : DenE) : DenE := fun env mu => (ma env mu).bind fun x m1 => (mb env m1).bind fun y m2 => (Res.ofO (g m2 x y)).bind fun z m3 => match z with
  | .bl true => (mc env m3).bind fun w m4 => .ofO (g' m4 y w)
  | .bl false => .ok (.bl false) m3
  | _ => .stuck
theorem tE_chain {K : PySem.W.Frag} (hg : OpD K r g) (hg' : OpD K r' g') : ∀ (σ : L2.St) (H : Hp) (Q : VK), tE K W (mChain g g' ma mb mc) σ H Q → tChain r r' (tE K W ma) (tE K W mb) (tE K W mc) σ H Q :=
  fun σ H Q ⟨F, io, env, mu, M, R, h⟩ => ⟨F, io, env, mu, M, R, (Sat.bind h).imp fun x H1 ⟨F1, j1, m1, dx, s1, M1, r1, h1⟩ =>
    ⟨F1, j1, env, m1, M1, R.step s1, (Sat.bind h1).imp fun y H2 ⟨F2, j2, m2, dy, s2, M2, r2, h2⟩ => by
      refine hg F2 j2 H2 m2 x y dx dy _ M2 (r1.mono s2.le s2.pre) r2 ?_
      cases e : g m2 dx dy with
      | none => rw [e] at h2; exact h2
      | some p =>
        rw [e] at h2
        intro F3 j3 H3 z s3 M3 r3
        obtain ⟨d, m3⟩ := p
        have h3 := Sat.step h2 s3
        cases d with
        | bl k =>
          refine ⟨k, Rep.bl_inv r3, ?_⟩
          cases k with
          | true =>
            rw [if_pos rfl]
            have h3' : Sat K (Rep K) F3 j3 H3 (fun c dd H => W c dd σ H) ((mc env m3).bind fun w m4 => .ofO (g' m4 dy w)) Q := h3
            exact ⟨F3, j3, env, m3, M3, (R.step s1).step (s2.trans s3), (Sat.bind h3').imp fun w H4 ⟨F4, j4, m4, dw, s4, M4, r4, h4⟩ => hg' F4 j4 H4 m4 y w dy dw Q M4 (r2.mono (s3.trans s4).le (s3.trans s4).pre) r4 (Sat.ofO h4)⟩
          | false =>
            rw [if_neg Bool.false_ne_true]
            exact h3 F3 j3 H3 (.bl false) Step.rfl M3 .bl
        | _ => exact h3.elim⟩⟩
theorem de_chain {op op' : CmpOp} (ho : OpR X (compareOp op) r) (hg : OpD X.K r g) (ho' : OpR X (compareOp op') r') (hg' : OpD X.K r' g') (ha : DE X W a ma) (hb : DE X W b mb) (hc : DE X W c mc)
    (hm : lastMarks [op, op'] [b, c] = false := by with_unfolding_all rfl) : DE X W (.Compare a [op, op'] [b, c] pos) (mChain g g' ma mb mc) := (pe_chain ho ho' ha hb hc hm).imp (tE_chain hg hg')
theorem dt_chain {op op' : CmpOp} (ho : OpR X (compareOp op) r) (hg : OpD X.K r g) (ho' : OpR X (compareOp op') r') (hg' : OpD X.K r' g') (ha : DE X W a ma) (hb : DE X W b mb) (hc : DE X W c mc)
    (hm : lastMarks [op, op'] [b, c] = false := by with_unfolding_all rfl) : DT X W (.Compare a [op, op'] [b, c] pos) (mTest (mChain g g' ma mb mc)) :=
  (pt_chain ho ho' ha hb hc hm).imp fun σ H Q h => tE_chain hg hg' σ H _ (tT_test σ H Q h)
end
theorem dt_val {e : Expr} {m : DenE} (h : DE X W e m) (he : ∀ whole, isTrue e X.env whole = (do let v ← whole; standAt e.pos; holding [v] (truthy v)) := by intro _; rfl) : DT X W e (mTest m) :=
  (pt_val h he).imp fun σ H Q h => tT_test σ H Q h

/-! ### one operand -/
def UnD (K : PySem.W.Frag) (r : V → Hp → VK → Prop) (g : Mu → D → ORes D) : Prop := ∀ F io H mu x dx (Q : VK), Mem K F io H mu → Rep K F io x dx → SatO K (Rep K) F io H (g mu dx) Q → r x H Q
def mUn (g : Mu → D → ORes D) (ma : DenE) : DenE := fun env mu => (ma env mu).bind fun x m1 => .ofO (g m1 x)
theorem de_un {op : UnaryOp} {a : Expr} {ma : DenE} {pos : Pos} {r : V → Hp → VK → Prop} {g : Mu → D → ORes D} (ho : UnR X (unaryOp op) r) (hg : UnD X.K r g) (ha : DE X W a ma) : DE X W (.UnaryOp op a pos) (mUn g ma) :=
  (pe_un ho ha).imp fun σ H Q ⟨F, io, env, mu, M, R, h⟩ => ⟨F, io, env, mu, M, R, (Sat.bind h).imp fun x H1 ⟨F1, j1, m1, dx, s1, M1, r1, h1⟩ => hg F1 j1 H1 m1 x dx Q M1 r1 (Sat.ofO h1)⟩

/-! ### and, or, not, if -/
section
variable {a b : Expr} {rest : List Expr} {pos : Pos} {ma mb : DenT} {na nb nc : DenE}
def mTAnd (ma mb : DenT) : DenT := fun env mu => (ma env mu).bind fun c m1 => if c then mb env m1 else .ok false m1
def mTOr (ma mb : DenT) : DenT := fun env mu => (ma env mu).bind fun c m1 => if c then .ok true m1 else mb env m1
def mTNot (ma : DenT) : DenT := fun env mu => (ma env mu).bind fun c m1 => .ok (!c) m1
theorem dw_and1 (ha : DT X W a ma) : DW X W (.BoolOp .And [a] pos) ma := pw_and1 ha
theorem dw_or1 (ha : DT X W a ma) : DW X W (.BoolOp .Or [a] pos) ma := pw_or1 ha
theorem dw_and (ha : DT X W a ma) (hb : DW X W (.BoolOp .And (b :: rest) pos) mb) : DW X W (.BoolOp .And (a :: b :: rest) pos) (mTAnd ma mb) :=
  (pw_and ha hb).imp fun σ H Q ⟨F, io, env, mu, M, R, h⟩ => ⟨F, io, env, mu, M, R, (Sat.bind h).imp fun c H1 ⟨F1, j1, m1, d, s1, M1, r1, h1⟩ => by
    cases r1
    cases c with
    | true => exact ⟨F1, j1, env, m1, M1, R.step s1, h1⟩
    | false => exact h1 F1 j1 H1 false Step.rfl M1 rfl⟩
theorem dw_or (ha : DT X W a ma) (hb : DW X W (.BoolOp .Or (b :: rest) pos) mb) : DW X W (.BoolOp .Or (a :: b :: rest) pos) (mTOr ma mb) :=
  (pw_or ha hb).imp fun σ H Q ⟨F, io, env, mu, M, R, h⟩ => ⟨F, io, env, mu, M, R, (Sat.bind h).imp fun c H1 ⟨F1, j1, m1, d, s1, M1, r1, h1⟩ => by
    cases r1
    cases c with
    | false => exact ⟨F1, j1, env, m1, M1, R.step s1, h1⟩
    | true => exact h1 F1 j1 H1 true Step.rfl M1 rfl⟩
theorem dt_w {e : Expr} (h : DW X W e ma) : DT X W e ma := h.pt
theorem dt_not (ha : DT X W a ma) : DT X W (.UnaryOp .Not a pos) (mTNot ma) :=
  (pt_not ha).imp fun σ H Q ⟨F, io, env, mu, M, R, h⟩ => ⟨F, io, env, mu, M, R, (Sat.bind h).imp fun c H1 ⟨F1, j1, m1, d, s1, M1, r1, h1⟩ => by
    cases r1
    exact h1 F1 j1 H1 _ Step.rfl M1 rfl⟩
def mAnd (ma mb : DenE) : DenE := fun env mu => (ma env mu).bind fun d m1 => match d with
  | .bl c => if c then mb env m1 else .ok (.bl false) m1
  | _ => .stuck
def mOr (ma mb : DenE) : DenE := fun env mu => (ma env mu).bind fun d m1 => match d with
  | .bl c => if c then .ok (.bl true) m1 else mb env m1
  | _ => .stuck
def mNot (ma : DenE) : DenE := fun env mu => (ma env mu).bind fun d m1 => match d with
  | .bl c => .ok (.bl (!c)) m1
  | _ => .stuck
theorem de_one {op} (ha : DE X W a na) : DE X W (.BoolOp op [a] pos) na := pe_one ha
theorem de_and (ha : DE X W a na) (hb : DE X W (.BoolOp .And (b :: rest) pos) nb) : DE X W (.BoolOp .And (a :: b :: rest) pos) (mAnd na nb) :=
  (pe_and ha hb).imp fun σ H Q ⟨F, io, env, mu, M, R, h⟩ => ⟨F, io, env, mu, M, R, (Sat.bind h).imp fun x H1 ⟨F1, j1, m1, d, s1, M1, r1, h1⟩ => by
    cases d with
    | bl c =>
      refine ⟨c, r1.bl_inv, ?_⟩
      cases c with
      | true => exact iteT ⟨F1, j1, env, m1, M1, R.step s1, h1⟩
      | false => exact iteF (h1 F1 j1 H1 (.bl false) Step.rfl M1 .bl)
    | _ => exact h1.elim⟩
theorem de_or (ha : DE X W a na) (hb : DE X W (.BoolOp .Or (b :: rest) pos) nb) : DE X W (.BoolOp .Or (a :: b :: rest) pos) (mOr na nb) :=
  (pe_or ha hb).imp fun σ H Q ⟨F, io, env, mu, M, R, h⟩ => ⟨F, io, env, mu, M, R, (Sat.bind h).imp fun x H1 ⟨F1, j1, m1, d, s1, M1, r1, h1⟩ => by
    cases d with
    | bl c =>
      refine ⟨c, r1.bl_inv, ?_⟩
      cases c with
      | false => exact iteF ⟨F1, j1, env, m1, M1, R.step s1, h1⟩
      | true => exact iteT (h1 F1 j1 H1 (.bl true) Step.rfl M1 .bl)
    | _ => exact h1.elim⟩
theorem de_not (ha : DE X W a na) : DE X W (.UnaryOp .Not a pos) (mNot na) :=
  (pe_not ha).imp fun σ H Q ⟨F, io, env, mu, M, R, h⟩ => ⟨F, io, env, mu, M, R, (Sat.bind h).imp fun x H1 ⟨F1, j1, m1, d, s1, M1, r1, h1⟩ => by
    cases d with
    | bl c => exact ⟨c, r1.bl_inv, h1 F1 j1 H1 _ Step.rfl M1 .bl⟩
    | _ => exact h1.elim⟩
def mIf (mt : DenT) (na nb : DenE) : DenE := fun env mu => (mt env mu).bind fun c m1 => if c then na env m1 else nb env m1
theorem de_ifx {c : Expr} (hc : DT X W c ma) (ha : DE X W a na) (hb : DE X W b nb) : DE X W (.IfExp c a b pos) (mIf ma na nb) :=
  (pe_ifExp hc ha hb).imp fun σ H Q ⟨F, io, env, mu, M, R, h⟩ => ⟨F, io, env, mu, M, R, (Sat.bind h).imp fun c H1 ⟨F1, j1, m1, d, s1, M1, r1, h1⟩ => by
    cases r1
    cases c with
    | true => exact iteT ⟨F1, j1, env, m1, M1, R.step s1, h1⟩
    | false => exact iteF ⟨F1, j1, env, m1, M1, R.step s1, h1⟩⟩
end

/-! ### argument lists, displays -/
section
variable {e : Expr} {es : List Expr} {me : DenE} {m : DenA} {pos : Pos}
def mNil : DenA := fun _ mu => .ok [] mu
def mCons (me : DenE) (m : DenA) : DenA := fun env mu => (me env mu).bind fun d m1 => (m env m1).bind fun ds m2 => .ok (d :: ds) m2
theorem da_nil : DA X W [] mNil := pa_nil.imp fun σ H Q ⟨F, io, env, mu, M, R, h⟩ => h F io H [] Step.rfl M .nil
theorem da_cons (ha : DE X W e me) (hr : DA X W es m) (hs : starEach (e :: es) X.env = (false, eval e X.env) :: starEach es X.env := by rfl) : DA X W (e :: es) (mCons me m) :=
  (pa_cons ha hr hs).imp fun σ H Q ⟨F, io, env, mu, M, R, h⟩ => ⟨F, io, env, mu, M, R, (Sat.bind h).imp fun x H1 ⟨F1, j1, m1, dx, s1, M1, r1, h1⟩ =>
    ⟨F1, j1, env, m1, M1, R.step s1, (Sat.bind h1).imp fun xs H2 ⟨F2, j2, m2, ds, s2, M2, r2, h2⟩ => h2 F2 j2 H2 _ Step.rfl M2 (.cons (r1.mono s2.le s2.pre) r2)⟩⟩
/-- how many items a list may have here -/
def lim (n : Nat) : Bool := decide (n ≤ 1000000)
theorem lim_line {n : Nat} (h : lim n = true) : n ≤ sizeLine := by
  have h1 : n ≤ 1000000 := of_decide_eq_true h
  rw [sizeLine_eq]; omega
theorem lim_lt {n : Nat} (h : lim n = true) : n < sizeLine := by
  have h1 : n ≤ 1000000 := of_decide_eq_true h
  rw [sizeLine_eq]; omega
def mTup (m : DenA) : DenE := fun env mu => (m env mu).bind fun ds m1 => if lim ds.length then .ok (.tup ds) m1 else .stuck
theorem de_tup {x1} (h : DA X W es m) : DE X W (.Tuple es x1 pos) (mTup m) :=
  (pe_tup h).imp fun σ H Q ⟨F, io, env, mu, M, R, h⟩ => ⟨F, io, env, mu, M, R, (Sat.bind h).imp fun xs H1 ⟨F1, j1, m1, ds, s1, M1, r1, h1⟩ => by
    cases hl : lim ds.length with
    | false => rw [hl] at h1; exact h1.elim
    | true =>
      rw [hl] at h1
      refine ⟨by rw [r1.length]; exact lim_line hl, fun p hp => ?_⟩
      exact h1 _ _ _ _ (M1.stepF hp) (M1.newF hp) (.tup (SqT.of upd_same) (r1.mono (Le.put (M1.fresh hp)) Pre.rfl))⟩
/-- something fresh: data at once (false), or a cell (true) -/
def mk (b : Bool) (c : Cell) (m : Mu) : ORes D := match b, c with
  | _, .dead => none
  | true, c => some (.cell m.length, m ++ [c])
  | false, .lst l => some (.lst l, m)
  | false, .dk _ => none
theorem sat_mk {K : PySem.W.Frag} {F : Hp} {io : List Addr} {H : Hp} {mu : Mu} {b : Bool} {c : Cell} {Q : VK} (M : Mem K F io H mu) (h : SatO K (Rep K) F io H (mk b c mu) Q) : ∀ p o, H p = none → CellRep K F io o c → Q (.ref p) (upd H p o) := fun p o hp hc => by
  cases b with
  | true =>
    cases c with
    | dead => exact hc.elim
    | lst l => exact h F (io ++ [p]) _ _ (M.stepC hp) (M.newC hp hc) (.cell M.lenR)
    | dk l => exact h F (io ++ [p]) _ _ (M.stepC hp) (M.newC hp hc) (.cell M.lenR)
  | false =>
    cases c with
    | dead => exact hc.elim
    | lst ds =>
      obtain ⟨xs, rfl, r⟩ := hc
      exact h _ io _ _ (M.stepF hp) (M.newF hp) (.lst upd_same (r.mono (Le.put (M.fresh hp)) Pre.rfl))
    | dk ds => exact h.elim
def mLst (b : Bool) (m : DenA) : DenE := fun env mu => (m env mu).bind fun ds m1 => if lim ds.length then .ofO (mk b (.lst ds) m1) else .stuck
theorem de_lst (b : Bool) (h : DA X W es m) : DE X W (.List es pos) (mLst b m) :=
  (pe_lst h).imp fun σ H Q ⟨F, io, env, mu, M, R, h⟩ => ⟨F, io, env, mu, M, R, (Sat.bind h).imp fun xs H1 ⟨F1, j1, m1, ds, s1, M1, r1, h1⟩ => by
    cases hl : lim ds.length with
    | false => rw [hl] at h1; exact h1.elim
    | true =>
      rw [hl] at h1
      exact ⟨by rw [r1.length]; exact lim_line hl, fun p hp => sat_mk M1 (Sat.ofO h1) p _ hp ⟨xs, rfl, r1⟩⟩⟩
end

/-! ### calls of built-ins, methods of built-in types -/
def CallD (K : PySem.W.Frag) (r : List V → Hp → VK → Prop) (g : Mu → List D → ORes D) : Prop := ∀ F io H mu vs ds (Q : VK), Mem K F io H mu → RepL K F io vs ds → SatO K (Rep K) F io H (g mu ds) Q → r vs H Q
def mCall (g : Mu → List D → ORes D) (m : DenA) : DenE := fun env mu => (m env mu).bind fun ds m1 => .ofO (g m1 ds)
theorem tE_call {K : PySem.W.Frag} {r : List V → Hp → VK → Prop} {g : Mu → List D → ORes D} {m : DenA} (hg : CallD K r g) : ∀ (σ : L2.St) (H : Hp) (Q : VK), tE K W (mCall g m) σ H Q → tCB r (tA K W m) σ H Q :=
  fun σ H Q ⟨F, io, env, mu, M, R, h⟩ => ⟨F, io, env, mu, M, R, (Sat.bind h).imp fun vs H1 ⟨F1, j1, m1, ds, s1, M1, r1, h1⟩ => hg F1 j1 H1 m1 vs ds Q M1 r1 (Sat.ofO h1)⟩
section
variable {x : Str} {p pos : Pos} {e : Expr} {es : List Expr} {m : DenA} {id T : String} {r : List V → Hp → VK → Prop} {g : Mu → List D → ORes D}
theorem de_callB (hc : CallR X (.builtin id) r) (hg : CallD X.K r g) (hG : Gl X x) (hm : X.mg x = none) (hv : bootBuiltins x = some (.builtin id)) (ha : DA X W (e :: es) m) (hn : x ≠ "__name__" := by decide) (hdb : (x == ("__debug__" : Str)) = false := by decide)
    (he : starEach (e :: es) X.env = (false, eval e X.env) :: starEach es X.env := by rfl) (hpl : (backTo pos (starEach es X.env)).any (·.1) = false := by rfl) : DE X W (.Call (.Name x p) (e :: es) [] pos) (mCall g m) := (pe_callB hc hG hm hv ha hn hdb he hpl).imp (tE_call hg)
theorem de_callTy (hc : CallR X (.type T) r) (hg : CallD X.K r g) (hG : Gl X x) (hm : X.mg x = none) (hv : bootBuiltins x = some (.type T)) (ha : DA X W (e :: es) m) (hn : x ≠ "__name__" := by decide) (hdb : (x == ("__debug__" : Str)) = false := by decide)
    (he : starEach (e :: es) X.env = (false, eval e X.env) :: starEach es X.env := by rfl) (hpl : (backTo pos (starEach es X.env)).any (·.1) = false := by rfl) : DE X W (.Call (.Name x p) (e :: es) [] pos) (mCall g m) := (pe_callTy hc hG hm hv ha hn hdb he hpl).imp (tE_call hg)
end
/-- ty: which values are of the type T (a method's receiver) -/
def TyD (K : PySem.W.Frag) (T : String) (ty : Mu → D → Bool) : Prop := ∀ F io H mu x dx, Mem K F io H mu → Rep K F io x dx → ty mu dx = true → tyV K T x H
def MetD (K : PySem.W.Frag) (r : V → List V → Hp → VK → Prop) (g : Mu → D → List D → ORes D) : Prop := ∀ F io H mu x vs dx ds (Q : VK), Mem K F io H mu → Rep K F io x dx → RepL K F io vs ds → SatO K (Rep K) F io H (g mu dx ds) Q → r x vs H Q
def mMet (ty : Mu → D → Bool) (g : Mu → D → List D → ORes D) (mo : DenE) (m : DenA) : DenE := fun env mu => (mo env mu).bind fun d m1 => if ty m1 d then (m env m1).bind fun ds m2 => .ofO (g m2 d ds) else .stuck
section
variable {o e : Expr} {es : List Expr} {mo : DenE} {m : DenA} {name : Str} {apos cpos : Pos} {T id : String} {r : V → List V → Hp → VK → Prop} {g : Mu → D → List D → ORes D} {ty : Mu → D → Bool}
theorem de_bm (pa : PlainAttrs T) (slot : Slot T name id) (hty : typeOf (.builtin id) = pure (.type "method_descriptor")) (hm : MtR X id r) (hT : TyD X.K T ty) (hg : MetD X.K r g) (ho : DE X W o mo) (ha : DA X W (e :: es) m)
    (hbase : attributeBase o name X.env (eval o X.env) = eval o X.env := by rfl)
    (hfew : ((backTo cpos (starEach (e :: es) X.env)).all (fun x => !x.1) && (backToKw cpos (keywordEach [] X.env)).all (fun x => x.1.isSome)
      && decide ((e :: es).length + ([] : List Keyword).length + (if ([] : List Keyword).isEmpty then 0 else 1) < 30)) = true := by rfl)
    (hline : (apos.endLine == cpos.line) = true := by rfl) (hs : starEach (e :: es) X.env = (false, eval e X.env) :: starEach es X.env := by rfl) (hplain : (backTo cpos (starEach es X.env)).any (·.1) = false := by rfl) :
    DE X W (.Call (.Attribute o name apos) (e :: es) [] cpos) (mMet ty g mo m) :=
  (pe_bm pa slot hty hm ho ha hbase hfew hline hs hplain).imp fun σ H Q ⟨F, io, env, mu, M, R, h⟩ => ⟨F, io, env, mu, M, R, (Sat.bind h).imp fun x H1 ⟨F1, j1, m1, dx, s1, M1, r1, h1⟩ => by
    cases ht : ty m1 dx with
    | false => rw [ht] at h1; exact h1.elim
    | true =>
      rw [ht] at h1
      exact ⟨hT F1 j1 H1 m1 x dx M1 r1 ht, F1, j1, env, m1, M1, R.step s1, (Sat.bind h1).imp fun vs H2 ⟨F2, j2, m2, ds, s2, M2, r2, h2⟩ => hg F2 j2 H2 m2 x vs dx ds Q M2 (r1.mono s2.le s2.pre) r2 (Sat.ofO h2)⟩⟩
theorem de_bm0 (pa : PlainAttrs T) (slot : Slot T name id) (hty : typeOf (.builtin id) = pure (.type "method_descriptor")) (hm : MtR X id r) (hT : TyD X.K T ty) (hg : MetD X.K r g) (ho : DE X W o mo)
    (hbase : attributeBase o name X.env (eval o X.env) = eval o X.env := by rfl) (hline : (apos.endLine == cpos.line) = true := by rfl) : DE X W (.Call (.Attribute o name apos) [] [] cpos) (mMet ty g mo mNil) :=
  (pe_bm0 pa slot hty hm ho hbase hline).imp fun σ H Q ⟨F, io, env, mu, M, R, h⟩ => ⟨F, io, env, mu, M, R, (Sat.bind h).imp fun x H1 ⟨F1, j1, m1, dx, s1, M1, r1, h1⟩ => by
    cases ht : ty m1 dx with
    | false => rw [ht] at h1; exact h1.elim
    | true =>
      rw [ht] at h1
      exact ⟨hT F1 j1 H1 m1 x dx M1 r1 ht, hg F1 j1 H1 m1 x [] dx [] Q M1 r1 .nil (Sat.ofO h1)⟩⟩
end
end
end DL

/-! DL3: meanings of targets, statements, loops, comprehensions, defs, and the rules. -/
namespace DL
open PySem L2

/-! ### targets -/
/-- the slots but ts are as they were -/
def Same0 (ts : List Nat) (σ σ' : L2.St) : Prop := σ'.length = σ.length ∧ ∀ i, i ∉ ts → σ'[i]? = σ[i]?
abbrev DenG := D → DEnv → Mu → Res DEnv
abbrev DenGs := List D → DEnv → Mu → Res DEnv
def RepG (K : PySem.W.Frag) (ts : List Nat) (σ : L2.St) (F : Hp) (io : List Addr) (σ' : L2.St) (env : DEnv) : Prop := EnvR K F io σ' env ∧ Same0 ts σ σ'
def tG (K : PySem.W.Frag) (W : WX) (ts : List Nat) (m : DenG) : TG := fun v σ H Q => ∃ F io env mu d, Mem K F io H mu ∧ EnvR K F io σ env ∧ Rep K F io v d ∧ Sat K (RepG K ts σ) F io H (fun c dd H => W c dd σ H) (m d env mu) Q
def tGs (K : PySem.W.Frag) (W : WX) (ts : List Nat) (m : DenGs) : TGs := fun vs σ H Q => ∃ F io env mu ds, Mem K F io H mu ∧ EnvR K F io σ env ∧ RepL K F io vs ds ∧ Sat K (RepG K ts σ) F io H (fun c dd H => W c dd σ H) (m ds env mu) Q
/-- no exception leaves a target here -/
abbrev W0 : WX := fun _ _ _ _ => False
abbrev DG (X : Cx) (e : Expr) (ts : List Nat) (m : DenG) : Prop := PG X e (tG X.K W0 ts m)
abbrev DGs (X : Cx) (es : List Expr) (ts : List Nat) (m : DenGs) : Prop := PGs X es (tGs X.K W0 ts m)
section
variable {X : Cx}
theorem _root_.L2.PG.imp {e : Expr} {t t' : TG} (h : PG X e t) (k : ∀ v σ H Q, t' v σ H Q → t v σ H Q) : PG X e t' := ⟨fun pins s σ H v u Q I r q => h.run pins s σ H v u Q I r (k v σ H Q q)⟩
theorem _root_.L2.PGs.imp {e : List Expr} {t t' : TGs} (h : PGs X e t) (k : ∀ v σ H Q, t' v σ H Q → t v σ H Q) : PGs X e t' := ⟨fun pins s σ H v u Q I r q => h.run pins s σ H v u Q I r (k v σ H Q q)⟩
theorem Same0.refl {ts : List Nat} {σ : L2.St} : Same0 ts σ σ := ⟨rfl, fun _ _ => rfl⟩
theorem Same0.set {ts : List Nat} {σ : L2.St} {i : Nat} {v : Option V} (h : i ∈ ts) : Same0 ts σ (σ.set i v) := ⟨List.length_set, fun j hj => by
  rw [List.getElem?_set_ne]
  rintro rfl; exact hj h⟩
theorem Same0.trans {ts us : List Nat} {a b c : L2.St} (h : Same0 ts a b) (k : Same0 us b c) : Same0 (ts ++ us) a c := ⟨k.1.trans h.1, fun j hj => by
  rw [k.2 j (fun q => hj (List.mem_append_right _ q)), h.2 j (fun q => hj (List.mem_append_left _ q))]⟩
def mGName (i : Nat) : DenG := fun d env mu => .ok (env.set i (some d)) mu
theorem dg_name {i : Nat} {x : Str} {pos : Pos} (hN : X.N.Nodup) (hi : X.N[i]? = some x) (hx : Loc X.env.scope x) (hf : X.fn x = true ∨ X.env.scope.names.lookup x = some .local := by first | exact .inl rfl | exact .inr rfl | assumption) : DG X (.Name x pos) [i] (mGName i) :=
  (pg_name hN hi hx hf).imp fun v σ H Q ⟨F, io, env, mu, d, M, R, r, h⟩ => h F io H _ Step.rfl M ⟨R.set r, Same0.set (List.mem_singleton.mpr rfl)⟩
def mGNil : DenGs := fun ds env mu => match ds with
  | [] => .ok env mu
  | _ :: _ => .stuck
def mGCons (m : DenG) (ms : DenGs) : DenGs := fun ds env mu => match ds with
  | [] => .stuck
  | d :: ds => (m d env mu).bind fun e m1 => ms ds e m1
theorem dgs_nil : DGs X [] [] mGNil := pgs_nil.imp fun vs σ H Q ⟨F, io, env, mu, ds, M, R, r, h⟩ => by
  cases r with
  | nil => exact ⟨rfl, h F io H σ Step.rfl M ⟨R, Same0.refl⟩⟩
  | cons _ _ => exact h.elim
theorem dgs_cons {e : Expr} {es : List Expr} {ts us : List Nat} {m : DenG} {ms : DenGs} (h1 : DG X e ts m) (h2 : DGs X es us ms)
    (hs : (assignEach (e :: es) X.env).map (·.2) = assign e X.env :: (assignEach es X.env).map (·.2) := by rfl) : DGs X (e :: es) (ts ++ us) (mGCons m ms) :=
  (pgs_cons h1 h2 hs).imp fun vs σ H Q ⟨F, io, env, mu, ds, M, R, r, h⟩ => by
    cases r with
    | nil => exact h.elim
    | @cons v d vs ds r rr =>
      refine ⟨v, vs, rfl, F, io, env, mu, d, M, R, r, (Sat.bind (rep := RepG X.K ts σ) h).imp fun σ1 H1 ⟨F1, j1, m1, e1, s1, M1, ⟨R1, S1⟩, q⟩ => ?_⟩
      refine ⟨F1, j1, e1, m1, ds, M1, R1, rr.mono s1.le s1.pre, ?_⟩
      cases hq : ms ds e1 m1 with
      | ok a m2 =>
        rw [hq] at q
        exact fun F2 j2 H2 σ2 s2 M2 ⟨R2, S2⟩ => q F2 j2 H2 σ2 s2 M2 ⟨R2, S1.trans S2⟩
      | exc x m2 =>
        rw [hq] at q
        exact fun F2 j2 H2 c dd s2 M2 r2 => q F2 j2 H2 c dd s2 M2 r2
      | stuck => rw [hq] at q; exact q.elim
def mGTup (n : Nat) (ms : DenGs) : DenG := fun d env mu => match d with
  | .tup ds => if ds.length = n then ms ds env mu else .stuck
  | _ => .stuck
theorem dg_tup {es : List Expr} {k : Nat} {ts : List Nat} {ms : DenGs} {n : Nat} {pos : Pos} (hc : X.calm = true) (h : DGs X es ts ms) (hn : (assignEach es X.env).length = n := by rfl) (hst : (assignEach es X.env).findIdx? (·.1) = none := by rfl) : DG X (.Tuple es k pos) ts (mGTup n ms) :=
  (pg_tup hc h hn hst).imp fun v σ H Q ⟨F, io, env, mu, d, M, R, r, h⟩ => by
    cases r with
    | @tup a xs ds q r =>
      have h2 : Sat X.K (RepG X.K ts σ) F io H (fun c dd H => W0 c dd σ H) (if ds.length = n then ms ds env mu else .stuck) Q := h
      by_cases hl : ds.length = n
      · rw [if_pos hl] at h2
        exact ⟨a, xs, rfl, M.le.sqt q, by rw [r.length]; exact hl, F, io, env, mu, ds, M, R, r, h2⟩
      · rw [if_neg hl] at h2; exact h2.elim
    | _ => exact h.elim
end

/-! ### statements -/
inductive SR where
  | nx (e : DEnv) (m : Mu) | rt (d : D) (m : Mu) | bk (e : DEnv) (m : Mu) | ct (e : DEnv) (m : Mu) | exc (x : XD) (e : DEnv) (m : Mu) | stuck
abbrev DenS := DEnv → Mu → SR
def SatS (K : PySem.W.Frag) (F : Hp) (io : List Addr) (H : Hp) (W : WX) (r : SR) (D : Ends) : Prop := match r with
  | .nx e m => ∀ F' jo H' σ, Step F io H F' jo H' → Mem K F' jo H' m → EnvR K F' jo σ e → D.nx σ H'
  | .bk e m => ∀ F' jo H' σ, Step F io H F' jo H' → Mem K F' jo H' m → EnvR K F' jo σ e → D.bk σ H'
  | .ct e m => ∀ F' jo H' σ, Step F io H F' jo H' → Mem K F' jo H' m → EnvR K F' jo σ e → D.ct σ H'
  | .rt d m => ∀ F' jo H' v, Step F io H F' jo H' → Mem K F' jo H' m → Rep K F' jo v d → D.rt v H'
  | .exc x e m => ∀ F' jo H' σ c dd, Step F io H F' jo H' → Mem K F' jo H' m → EnvR K F' jo σ e → RepX K F' jo H' x c dd → W c dd σ H'
  | .stuck => False
def tS (K : PySem.W.Frag) (W : WX) (m : DenS) : TS := fun D σ H => ∃ F io env mu, Mem K F io H mu ∧ EnvR K F io σ env ∧ SatS K F io H W (m env mu) D
abbrev DS (X : Cx) (W : WX) (st : Stmt) (m : DenS) : Prop := PS X st (tS X.K W m)
abbrev DSs (X : Cx) (W : WX) (st : List Stmt) (m : DenS) : Prop := PSs X st (tS X.K W m)
/-- a result of an expression, then a statement's end -/
def Res.andS {α : Type} (r : Res α) (env : DEnv) (f : α → Mu → SR) : SR := match r with
  | .ok a m => f a m
  | .exc x m => .exc x env m
  | .stuck => .stuck
section
variable {X : Cx} {W : WX} {K : PySem.W.Frag} {F F' H H' : Hp} {io jo : List Addr} {En : Ends}
theorem SatS.step {r : SR} (h : SatS K F io H W r En) (s : Step F io H F' jo H') : SatS K F' jo H' W r En := by
  cases r with
  | nx e m => exact fun F2 j2 H2 σ s2 => h F2 j2 H2 σ (s.trans s2)
  | bk e m => exact fun F2 j2 H2 σ s2 => h F2 j2 H2 σ (s.trans s2)
  | ct e m => exact fun F2 j2 H2 σ s2 => h F2 j2 H2 σ (s.trans s2)
  | rt d m => exact fun F2 j2 H2 v s2 => h F2 j2 H2 v (s.trans s2)
  | exc x e m => exact fun F2 j2 H2 σ c dd s2 => h F2 j2 H2 σ c dd (s.trans s2)
  | stuck => exact h
/-- the expression's part of such a statement -/
theorem SatS.andS {α β : Type} {rep : Hp → List Addr → β → α → Prop} {r : Res α} {env : DEnv} {σ : L2.St} {f : α → Mu → SR} (R : EnvR K F io σ env) (h : SatS K F io H W (r.andS env f) En) :
    Sat K rep F io H (fun c dd H => W c dd σ H) r fun b H1 => ∃ F1 j1 m1 a, Step F io H F1 j1 H1 ∧ Mem K F1 j1 H1 m1 ∧ rep F1 j1 b a ∧ SatS K F1 j1 H1 W (f a m1) En := by
  cases r with
  | ok a m => exact fun F1 j1 H1 b s M r => ⟨F1, j1, m, a, s, M, r, SatS.step h s⟩
  | exc x m => exact fun F1 j1 H1 c dd s M r => h F1 j1 H1 σ c dd s M (R.step s) r
  | stuck => exact h
def mSeq (a b : DenS) : DenS := fun env mu => match a env mu with
  | .nx e m => b e m
  | r => r
def mSkip : DenS := fun env mu => .nx env mu
section
variable {st : Stmt} {sts : List Stmt} {a b : DenS}
theorem dss_nil : DSs X W [] mSkip := pss_nil.imp fun D σ H ⟨F, io, env, mu, M, R, h⟩ => h F io H σ Step.rfl M R
theorem dss_cons (h1 : DS X W st a) (h2 : DSs X W sts b) : DSs X W (st :: sts) (mSeq a b) := (pss_cons h1 h2).imp fun D σ H ⟨F, io, env, mu, M, R, h⟩ => by
  refine ⟨F, io, env, mu, M, R, ?_⟩
  unfold mSeq at h
  cases e : a env mu with
  | nx e1 m1 =>
    rw [e] at h
    exact fun F1 j1 H1 σ1 s1 M1 R1 => ⟨F1, j1, e1, m1, M1, R1, SatS.step h s1⟩
  | _ => rw [e] at h; exact h
theorem dss_one (h : DS X W st a) : DSs X W [st] a := pss_one h
/-- code that is never reached -/
def mStuck : DenS := fun _ _ => .stuck
theorem ds_stuck : DS X W st mStuck := ps_never.imp fun D σ H ⟨_, _, _, _, _, _, h⟩ => h
theorem dss_stuck : DSs X W sts mStuck := pss_never.imp fun D σ H ⟨_, _, _, _, _, _, h⟩ => h
theorem ds_pass {pos : Pos} : DS X W (.Pass pos) mSkip := ps_pass.imp fun D σ H ⟨F, io, env, mu, M, R, h⟩ => h F io H σ Step.rfl M R
def mBrk : DenS := fun env mu => .bk env mu
def mCont : DenS := fun env mu => .ct env mu
theorem ds_brk {pos : Pos} : DS X W (.Break pos) mBrk := ps_break.imp fun D σ H ⟨F, io, env, mu, M, R, h⟩ => h F io H σ Step.rfl M R
theorem ds_cont {pos : Pos} : DS X W (.Continue pos) mCont := ps_continue.imp fun D σ H ⟨F, io, env, mu, M, R, h⟩ => h F io H σ Step.rfl M R
end
section
variable {e tg : Expr} {me : DenE} {mg : DenG} {pos pos' : Pos} {ts : List Nat}
def mExpr (me : DenE) : DenS := fun env mu => (me env mu).andS env fun _ m => .nx env m
theorem ds_expr (he : DE X W e me) (hs : swapsWith e none pos.line X.env = pure false := by rfl) : DS X W (.Expr e pos) (mExpr me) := (ps_expr he hs).imp fun D σ H ⟨F, io, env, mu, M, R, h⟩ =>
  ⟨F, io, env, mu, M, R, (SatS.andS R h).imp fun v H1 ⟨F1, j1, m1, d, s1, M1, r1, q⟩ => q F1 j1 H1 σ Step.rfl M1 (R.step s1)⟩
def mRet (me : DenE) : DenS := fun env mu => (me env mu).andS env fun d m => .rt d m
theorem ds_ret (he : DE X W e me) : DS X W (.Return (some e) pos) (mRet me) := (ps_ret he).imp fun D σ H ⟨F, io, env, mu, M, R, h⟩ =>
  ⟨F, io, env, mu, M, R, (SatS.andS R h).imp fun v H1 ⟨F1, j1, m1, d, s1, M1, r1, q⟩ => q F1 j1 H1 v Step.rfl M1 r1⟩
def mRetN : DenS := fun _ mu => .rt .non mu
theorem ds_retN : DS X W (.Return none pos) mRetN := ps_retN.imp fun D σ H ⟨F, io, env, mu, M, R, h⟩ => h F io H .non Step.rfl M .non
def mAsg (me : DenE) (mg : DenG) : DenS := fun env mu => (me env mu).andS env fun d m => (mg d env m).andS env fun e' m' => .nx e' m'
theorem tS_asg {g : TG} {te : TE} (hE : ∀ σ H Q, tE X.K W me σ H Q → te σ H Q) (hG : ∀ v σ H Q, tG X.K W0 ts mg v σ H Q → g v σ H Q) (hx : ∀ d env mu x m, mg d env mu ≠ .exc x m) : ∀ D σ H, tS X.K W (mAsg me mg) D σ H → tAsg te g D σ H := fun D σ H ⟨F, io, env, mu, M, R, h⟩ =>
  hE _ _ _ ⟨F, io, env, mu, M, R, (SatS.andS R h).imp fun v H1 ⟨F1, j1, m1, d, s1, M1, r1, q⟩ => hG _ _ _ _ ⟨F1, j1, env, m1, d, M1, R.step s1, r1, by
    cases hq : mg d env m1 with
    | ok e2 m2 =>
      rw [hq] at q
      exact fun F2 j2 H2 σ2 s2 M2 ⟨R2, _⟩ => q F2 j2 H2 σ2 s2 M2 R2
    | exc x m2 => exact absurd hq (hx _ _ _ _ _)
    | stuck => rw [hq] at q; exact q.elim⟩⟩
/-- targets let nothing out -/
def GOk (mg : DenG) : Prop := ∀ d env mu x m, mg d env mu ≠ .exc x m
def GsOk (mg : DenGs) : Prop := ∀ d env mu x m, mg d env mu ≠ .exc x m
theorem GOk.name {i : Nat} : GOk (mGName i) := fun _ _ _ _ _ h => nomatch h
theorem GsOk.nil : GsOk mGNil := fun ds _ _ _ _ h => by cases ds <;> cases h
theorem GsOk.cons {m : DenG} {ms : DenGs} (h : GOk m) (k : GsOk ms) : GsOk (mGCons m ms) := fun ds env mu x m2 q => by
  cases ds with
  | nil => cases q
  | cons d ds =>
    have q : (m d env mu).bind (fun e m1 => ms ds e m1) = .exc x m2 := q
    cases e : m d env mu with
    | ok a m1 => rw [e] at q; exact k _ _ _ _ _ q
    | exc x1 m1 => exact h _ _ _ _ _ e
    | stuck => rw [e] at q; cases q
theorem GOk.tup {n : Nat} {ms : DenGs} (k : GsOk ms) : GOk (mGTup n ms) := fun d env mu x m q => by
  unfold mGTup at q
  cases d with
  | tup ds =>
    simp only at q
    split at q
    · exact k _ _ _ _ _ q
    · cases q
  | _ => cases q
theorem ds_set {i : Nat} {x : Str} (hN : X.N.Nodup) (hi : X.N[i]? = some x) (hx : Loc X.env.scope x) (he : DE X W e me) (hs : swapsWith e (some (.Name x pos')) pos.line X.env = pure false := by rfl) (hf : X.fn x = true ∨ X.env.scope.names.lookup x = some .local := by first | exact .inl rfl | exact .inr rfl | assumption) :
    DS X W (.Assign [.Name x pos'] e pos) (mAsg me (mGName i)) := (ps_set hN hi hx he hs hf).imp (tS_asg (ts := [i]) (fun _ _ _ h => h) (fun v σ H Q ⟨F, io, env, mu, d, M, R, r, h⟩ => h F io H _ Step.rfl M ⟨R.set r, Same0.set (List.mem_singleton.mpr rfl)⟩) GOk.name)
theorem ds_asg (hx : GOk mg) (he : DE X W e me) (hg : DG X tg ts mg) (hs : swapsWithSole [tg] e pos.line X.env = pure false := by rfl) (hw : swappedStores [tg] e X.env = pure none := by rfl)
    (h1 : (assignEach [tg] X.env).map (·.2) = [assign tg X.env] := by rfl) : DS X W (.Assign [tg] e pos) (mAsg me mg) := (ps_asg he hg hs hw h1).imp (tS_asg (fun _ _ _ h => h) (fun _ _ _ _ h => h) hx)
end
/-- a, b = x, y -/
def mPar (i j : Nat) (m : DenA) : DenS := fun env mu => (m env mu).andS env fun ds m1 => match ds with
  | [d, e] => .nx ((env.set i (some d)).set j (some e)) m1
  | _ => .stuck
theorem ds_par {i j : Nat} {x y : Str} {a b : Expr} {m : DenA} {px py pt pos : Pos} {kt k2 pt2} (hc : X.calm = true) (hN : X.N.Nodup) (hi : X.N[i]? = some x) (hj : X.N[j]? = some y) (hij : i ≠ j)
    (hx : X.env.scope.names.lookup x = some .local) (hy : X.env.scope.names.lookup y = some .local) (ha : DA X W [a, b] m)
    (hw : swappedStores [.Tuple [.Name x px, .Name y py] kt pt] (.Tuple [a, b] k2 pt2) X.env = pure (some [x, y]))
    (hs : swapsWithSole [.Tuple [.Name x px, .Name y py] kt pt] (.Tuple [a, b] k2 pt2) pos.line X.env = pure false := by rfl) :
    DS X W (.Assign [.Tuple [.Name x px, .Name y py] kt pt] (.Tuple [a, b] k2 pt2) pos) (mPar i j m) := (ps_par hc hN hi hj hij hx hy ha hw hs).imp fun D σ H ⟨F, io, env, mu, M, R, h⟩ =>
  ⟨F, io, env, mu, M, R, (SatS.andS R h).imp fun vs H1 ⟨F1, j1, m1, ds, s1, M1, r1, q⟩ => by
    cases r1 with
    | nil => exact q.elim
    | cons ra r1 =>
      cases r1 with
      | nil => exact q.elim
      | cons rb r1 =>
        cases r1 with
        | nil => exact ⟨_, _, rfl, q F1 j1 H1 _ Step.rfl M1 (((R.step s1).set ra).set rb)⟩
        | cons _ _ => exact q.elim⟩
/-- a, b, c = x, y, z -/
def mPar3 (i j k : Nat) (m : DenA) : DenS := fun env mu => (m env mu).andS env fun ds m1 => match ds with
  | [d, e, f] => .nx (((env.set i (some d)).set j (some e)).set k (some f)) m1
  | _ => .stuck

/-! ### if, while -/
section
variable {c : Expr} {mc : DenT} {sa sb : List Stmt} {ma mb : DenS} {pos : Pos}
def mIfS (mc : DenT) (ma mb : DenS) : DenS := fun env mu => (mc env mu).andS env fun b m => if b then ma env m else mb env m
theorem ds_if (hc : DT X W c mc) (ha : DSs X W sa ma) (hb : DSs X W sb mb) : DS X W (.If c sa sb pos) (mIfS mc ma mb) := (ps_if hc ha hb).imp fun D σ H ⟨F, io, env, mu, M, R, h⟩ =>
  ⟨F, io, env, mu, M, R, (SatS.andS R h).imp fun b H1 ⟨F1, j1, m1, b', s1, M1, r1, q⟩ => by
    cases r1
    cases b with
    | true => exact iteT ⟨F1, j1, env, m1, M1, R.step s1, q⟩
    | false => exact iteF ⟨F1, j1, env, m1, M1, R.step s1, q⟩⟩
/-- fuel: as many turns at most -/
def whileL (mc : DenT) (mb : DenS) : Nat → DEnv → Mu → SR
  | 0, _, _ => .stuck
  | n + 1, env, mu => (mc env mu).andS env fun b m => if b then (match mb env m with
      | .nx e m' => whileL mc mb n e m'
      | .ct e m' => whileL mc mb n e m'
      | .bk e m' => .nx e m'
      | r => r) else .nx env m
def mWhile (fuel : Nat) (mc : DenT) (mb : DenS) : DenS := fun env mu => whileL mc mb fuel env mu
theorem ds_while (fuel : Nat) {body : List Stmt} (hp : PassesOwn (model X.prog X.w) X.A X.env X.xe) (hc : DT X W c mc) (hb : DSs X W body mb) : DS X W (.While c body [] pos) (mWhile fuel mc mb) := (ps_while hp hc hb).imp fun D σ H ⟨F, io, env, mu, M, R, h⟩ => by
  refine ⟨fun n σ H => ∃ F io env mu, Mem X.K F io H mu ∧ EnvR X.K F io σ env ∧ SatS X.K F io H W (whileL mc mb n env mu) D, ⟨fuel, F, io, env, mu, M, R, h⟩, fun n σ H ⟨F, io, env, mu, M, R, h⟩ => ?_⟩
  cases n with
  | zero => exact h.elim
  | succ n =>
    refine ⟨F, io, env, mu, M, R, (SatS.andS R h).imp fun b H1 ⟨F1, j1, m1, b', s1, M1, r1, q⟩ => ?_⟩
    cases r1
    cases b with
    | false => exact iteF (q F1 j1 H1 σ Step.rfl M1 (R.step s1))
    | true =>
      refine iteT ⟨fun σ H => ∃ F io env mu, Mem X.K F io H mu ∧ EnvR X.K F io σ env ∧ SatS X.K F io H W (whileL mc mb n env mu) D, fun σ' H' w => ⟨n, Nat.lt_succ_self n, w⟩, F1, j1, env, m1, M1, R.step s1, ?_⟩
      have q2 : SatS X.K F1 j1 H1 W (match mb env m1 with
        | .nx e m' => whileL mc mb n e m'
        | .ct e m' => whileL mc mb n e m'
        | .bk e m' => .nx e m'
        | r => r) D := q
      cases e : mb env m1 with
      | nx e2 m2 => rw [e] at q2; exact fun F2 j2 H2 σ2 s2 M2 R2 => ⟨F2, j2, e2, m2, M2, R2, SatS.step q2 s2⟩
      | ct e2 m2 => rw [e] at q2; exact fun F2 j2 H2 σ2 s2 M2 R2 => ⟨F2, j2, e2, m2, M2, R2, SatS.step q2 s2⟩
      | bk e2 m2 => rw [e] at q2; exact q2
      | rt d m2 => rw [e] at q2; exact q2
      | exc x e2 m2 => rw [e] at q2; exact q2
      | stuck => rw [e] at q2; exact q2
end

/-! ### what is walked; for -/
abbrev DenI := DEnv → Mu → Res (List D)
/-- the iterator gives the items ds, from wherever one comes back to it -/
def ItRep (K : PySem.W.Frag) (F : Hp) (io : List Addr) (J : It) (ds : List D) : Prop := ∀ F' jo H' mu', Le F F' → Pre io jo → Mem K F' jo H' mu' →
  (∀ (i : Nat) d, ds[i]? = some d → J.go i H' ∧ ∀ x H2, J.yld i H' x H2 → ∃ F2, Step F' jo H' F2 jo H2 ∧ Mem K F2 jo H2 mu' ∧ Rep K F2 jo x d) ∧ ∀ i, ds.length ≤ i → J.stop i H'
theorem ItRep.mono {F F' : Hp} {io jo : List Addr} {J : It} {ds : List D} (h : ItRep K F io J ds) (l : Le F F') (p : Pre io jo) : ItRep K F' jo J ds := fun F2 j2 H2 m2 l2 p2 M2 => h F2 j2 H2 m2 (l.trans l2) (p.trans p2) M2
def tI (K : PySem.W.Frag) (W : WX) (m : DenI) : TI := fun σ H R => ∃ F io env mu, Mem K F io H mu ∧ EnvR K F io σ env ∧ Sat K (ItRep K) F io H (fun c dd H => W c dd σ H) (m env mu) R
abbrev DI (X : Cx) (W : WX) (tg iter : Expr) (m : DenI) : Prop := PI X tg iter (tI X.K W m)
theorem _root_.L2.PI.imp {tg e : Expr} {t t' : TI} (h : PI X tg e t) (k : ∀ σ H R, t' σ H R → t σ H R) : PI X tg e t' := ⟨fun pins s σ H R I q => h.run pins s σ H R I (k σ H R q)⟩
def forL (mg : DenG) (mb : DenS) : List D → DEnv → Mu → SR
  | [], env, mu => .nx env mu
  | d :: ds, env, mu => (mg d env mu).andS env fun e m => match mb e m with
      | .nx e' m' => forL mg mb ds e' m'
      | .ct e' m' => forL mg mb ds e' m'
      | .bk e' m' => .nx e' m'
      | r => r
def mFor (mi : DenI) (mg : DenG) (mb : DenS) : DenS := fun env mu => (mi env mu).andS env fun ds m => forL mg mb ds env m
section
variable {tg iter : Expr} {body : List Stmt} {mi : DenI} {mg : DenG} {mb : DenS} {ts : List Nat} {pos : Pos}
theorem ds_for (hx : GOk mg) (hp : PassesOwn (model X.prog X.w) X.A X.env X.xe) (hc : X.calm = true) (hi : DI X W tg iter mi) (hg : DG X tg ts mg) (hb : DSs X W body mb)
    (hs : ∀ x, foldedSetIterable iter X.env x = pure x := by intro _; rfl) : DS X W (.For tg iter body [] pos) (mFor mi mg mb) := (ps_for hp hc hi hg hb hs).imp fun D σ H ⟨F, io, env, mu, M, R, h⟩ => by
  refine ⟨F, io, env, mu, M, R, (SatS.andS R h).imp fun J H1 ⟨F1, j1, m1, ds, s1, M1, r1, q⟩ => ?_⟩
  refine ⟨fun i m σ H => i + m = ds.length ∧ ∃ F io env mu, Mem X.K F io H mu ∧ EnvR X.K F io σ env ∧ ItRep X.K F io J ds ∧ SatS X.K F io H W (forL mg mb (ds.drop i) env mu) D,
    ⟨ds.length, Nat.zero_add _, F1, j1, env, m1, M1, R.step s1, r1, by rw [List.drop_zero]; exact q⟩, fun i m σ H ⟨hm, F, io, env, mu, M, R, J0, h⟩ => ?_⟩
  obtain ⟨J1, J2⟩ := J0 F io H mu Le.rfl Pre.rfl M
  cases m with
  | zero =>
    rw [List.drop_eq_nil_of_le (by omega)] at h
    exact .inl ⟨J2 i (by omega), h F io H σ Step.rfl M R⟩
  | succ m =>
    have hi : i < ds.length := by omega
    obtain ⟨y, K1⟩ := J1 i ds[i] (List.getElem?_eq_getElem hi)
    rw [List.drop_eq_getElem_cons hi] at h
    refine .inr ⟨y, fun σ H => (i + 1) + m = ds.length ∧ ∃ F io env mu, Mem X.K F io H mu ∧ EnvR X.K F io σ env ∧ ItRep X.K F io J ds ∧ SatS X.K F io H W (forL mg mb (ds.drop (i + 1)) env mu) D, fun σ' H' w => ⟨m, Nat.lt_succ_self m, w⟩, fun x H2 yl => ?_⟩
    obtain ⟨F2, s2, M2, r2⟩ := K1 x H2 yl
    have h2 := SatS.step h s2
    refine ⟨F2, io, env, mu, ds[i], M2, R.step s2, r2, ?_⟩
    have h3 : SatS X.K F2 io H2 W ((mg ds[i] env mu).andS env fun e m => match mb e m with
      | .nx e' m' => forL mg mb (ds.drop (i + 1)) e' m'
      | .ct e' m' => forL mg mb (ds.drop (i + 1)) e' m'
      | .bk e' m' => .nx e' m'
      | r => r) D := h2
    cases hq : mg ds[i] env mu with
    | exc x m2 => exact absurd hq (hx _ _ _ _ _)
    | stuck => rw [hq] at h3; exact h3.elim
    | ok e3 m3 =>
      rw [hq] at h3
      refine fun F3 j3 H3 σ3 s3 M3 ⟨R3, _⟩ => ⟨F3, j3, e3, m3, M3, R3, ?_⟩
      have h4 : SatS X.K F3 j3 H3 W (match mb e3 m3 with
        | .nx e' m' => forL mg mb (ds.drop (i + 1)) e' m'
        | .ct e' m' => forL mg mb (ds.drop (i + 1)) e' m'
        | .bk e' m' => .nx e' m'
        | r => r) D := SatS.step h3 s3
      have J3 : ItRep X.K F3 j3 J ds := J0.mono (s2.trans s3).le (s2.trans s3).pre
      cases e : mb e3 m3 with
      | nx e4 m4 => rw [e] at h4; exact fun F4 j4 H4 σ4 s4 M4 R4 => ⟨by omega, F4, j4, e4, m4, M4, R4, J3.mono s4.le s4.pre, SatS.step h4 s4⟩
      | ct e4 m4 => rw [e] at h4; exact fun F4 j4 H4 σ4 s4 M4 R4 => ⟨by omega, F4, j4, e4, m4, M4, R4, J3.mono s4.le s4.pre, SatS.step h4 s4⟩
      | bk e4 m4 => rw [e] at h4; exact h4
      | rt d m4 => rw [e] at h4; exact h4
      | exc x e4 m4 => rw [e] at h4; exact h4
      | stuck => rw [e] at h4; exact h4
end

/-! ### comprehensions -/
def Res.noX {α : Type} : Res α → Res α
  | .exc _ _ => .stuck
  | r => r
def wipeD (env : DEnv) : List Nat → DEnv
  | [] => env
  | v :: vs => (wipeD env vs).set v none
theorem EnvR.wipe {F : Hp} {io : List Addr} {σ : L2.St} {env : DEnv} (h : EnvR K F io σ env) : ∀ vs, EnvR K F io (wipe σ vs) (wipeD env vs)
  | [] => h
  | v :: vs => (EnvR.wipe h vs).forget
theorem wipe_in : ∀ {vs : List Nat} {i : Nat} {σ : L2.St}, i ∈ vs → i < σ.length → (wipe σ vs)[i]? = some none
  | v :: vs, i, σ, h, hl => by
    unfold wipe
    by_cases q : v = i
    · subst q; rw [List.getElem?_set_self (by rw [wipe_length]; exact hl)]
    · rw [List.getElem?_set_ne q]
      rcases List.mem_cons.mp h with z | z
      · exact absurd z.symm q
      · exact wipe_in z hl
theorem wipe_out' : ∀ {vs : List Nat} {i : Nat} {σ : L2.St}, i ∉ vs → (wipe σ vs)[i]? = σ[i]?
  | [], _, _, _ => rfl
  | v :: vs, i, σ, h => by
    unfold wipe
    rw [List.getElem?_set_ne (fun q => h (by rw [q]; exact List.mem_cons_self)), wipe_out' (fun q => h (List.mem_cons_of_mem _ q))]
theorem wipe_same {ts vs : List Nat} {σ σ2 : L2.St} (hs : ∀ i, i ∈ ts → i ∈ vs) (h : Same0 ts (wipe σ vs) σ2) : wipe σ2 vs = wipe σ vs := by
  have hl : σ2.length = σ.length := h.1.trans (wipe_length σ vs)
  apply List.ext_getElem?
  intro i
  by_cases q : i ∈ vs
  · by_cases hi : i < σ.length
    · rw [wipe_in q hi, wipe_in q (by rw [hl]; exact hi)]
    · rw [List.getElem?_eq_none (by rw [wipe_length]; omega), List.getElem?_eq_none (by rw [wipe_length]; omega)]
  · rw [wipe_out' q, h.2 i (fun z => q (hs i z))]
def lcL (mg : DenG) (mt : DenT) (me : DenE) (env0 : DEnv) : List D → List D → Mu → Res (List D)
  | [], acc, mu => .ok acc mu
  | d :: ds, acc, mu => (mg d env0 mu).noX.bind fun e m1 => (mt e m1).noX.bind fun c m2 => if c then (me e m2).noX.bind fun y m3 => if lim acc.length then lcL mg mt me env0 ds (acc ++ [y]) m3 else .stuck else lcL mg mt me env0 ds acc m2
def mLc (b : Bool) (mi : DenI) (mg : DenG) (mt : DenT) (me : DenE) (own : List Nat) : DenE := fun env mu => (mi env mu).bind fun ds m => (lcL mg mt me (wipeD env own) ds [] m).bind fun out m' => .ofO (mk b (.lst out) m')
def mYes : DenT := fun _ mu => .ok true mu
theorem sat_noX {α β : Type} {rep : Hp → List Addr → β → α → Prop} {V W : WH} {r : Res α} {Q : β → Hp → Prop} (h : Sat K rep F io H V r.noX Q) : Sat K rep F io H W r Q := by
  cases r with
  | ok a m => exact h
  | exc x m => exact h.elim
  | stuck => exact h
theorem noX_bind {α β : Type} {r : Res α} {f : α → Mu → Res β} {x : XD} {m : Mu} (h : ∀ a m', f a m' ≠ .exc x m) : r.noX.bind f ≠ .exc x m := by
  cases r with
  | ok a m' => exact h a m'
  | exc _ _ => exact fun q => nomatch q
  | stuck => exact fun q => nomatch q
theorem lcL_noX {mg : DenG} {mt : DenT} {me : DenE} {env0 : DEnv} {x : XD} {m : Mu} : ∀ (ds acc : List D) (mu : Mu), lcL mg mt me env0 ds acc mu ≠ .exc x m
  | [], _, _ => fun q => nomatch q
  | d :: ds, acc, mu => by
    unfold lcL
    refine noX_bind fun e m1 => noX_bind fun c m2 => ?_
    cases c with
    | false => exact lcL_noX ds acc m2
    | true =>
      refine noX_bind fun y m3 => ?_
      cases lim acc.length with
      | false => exact fun q => nomatch q
      | true => exact lcL_noX ds _ m3
/-- the tests behind «if» -/
structure DTs (X : Cx) (ifs : List Expr) (m : DenT) : Prop where
  h : PTs X ifs (tT X.K W0 m)
theorem dts_nil : DTs X [] mYes := ⟨⟨fun pins s σ H Q I ⟨F, io, env, mu, M, R, h⟩ => pts_nil.run pins s σ H Q I (h F io H true Step.rfl M rfl)⟩⟩
theorem dts_one {c : Expr} {m : DenT} (h : DT X W0 c m) : DTs X [c] m := ⟨pts_one h⟩
section
variable {elt tg iter : Expr} {ifs : List Expr} {scope : Scope} {own : List (Str × Nat)} {pos spos py : Pos} {mi : DenI} {mg : DenG} {mt : DenT} {me : DenE} {ts : List Nat}
theorem sat_bindX {α β γ δ : Type} {rep : Hp → List Addr → β → α → Prop} {rep2 : Hp → List Addr → δ → γ → Prop} {F1 H1 F H : Hp} {j1 io : List Addr} {V : WH} {r : Res α} {f : α → Mu → Res γ} {Q : δ → Hp → Prop} (h : Sat K rep2 F1 j1 H1 V (r.noX.bind f) Q) (s : Step F1 j1 H1 F io H) :
    Sat K rep F io H (fun _ _ _ => False) r fun b H2 => ∃ F2 j2 m2 a, Step F io H F2 j2 H2 ∧ Mem K F2 j2 H2 m2 ∧ rep F2 j2 b a ∧ Sat K rep2 F1 j1 H1 V (f a m2) Q := by
  cases r with
  | ok a m => exact fun F2 j2 H2 b s2 M2 r2 => ⟨F2, j2, m, a, s2, M2, r2, h⟩
  | exc x m => exact h.elim
  | stuck => exact h
theorem bind_assoc {α β γ : Type} {r : Res α} {f : α → Mu → Res β} {g : β → Mu → Res γ} : (r.bind f).bind g = r.bind fun a m => (f a m).bind g := by
  cases r <;> rfl
theorem tE_lc (b : Bool) (hts : ∀ i, i ∈ ts → i ∈ own.map (·.2)) : ∀ (σ : L2.St) (H : Hp) (Q : VK), tE K W (mLc b mi mg mt me (own.map (·.2))) σ H Q →
    tLc (tI K W mi) (tG K W0 ts mg) (tT K W0 mt) (tE K W0 me) (own.map (·.2)) σ H Q := fun σ H Q ⟨F, io, env, mu, M, R, h⟩ => by
  refine ⟨F, io, env, mu, M, R, (Sat.bind h).imp fun J H1 ⟨F1, j1, m1, ds, s1, M1, r1, q⟩ D hD => ?_⟩
  refine ⟨fun i m H => i + m = ds.length ∧ ∃ F io mu acc xs, Step F1 j1 H1 F io H ∧ Mem K F io H mu ∧ H D = some (.lst xs) ∧ F D = none ∧ D ∉ io ∧ RepL K F io xs acc ∧
      Sat K (Rep K) F1 j1 H1 (fun c dd H => W c dd σ H) ((lcL mg mt me (wipeD env (own.map (·.2))) (ds.drop i) acc mu).bind fun out m' => .ofO (mk b (.lst out) m')) Q,
    ⟨ds.length, Nat.zero_add _, F1, j1, m1, [], [], M1.stepX hD, M1.newX hD, upd_same, M1.fresh hD, M1.notin hD, .nil, by rw [List.drop_zero]; exact q⟩,
    fun i m H ⟨hm, F, io, mu, acc, xs, s0, M, hl, hF, hio, ra, h⟩ => ?_⟩
  obtain ⟨J1, J2⟩ := r1 F io H mu s0.le s0.pre M
  have R' : EnvR K F io (wipe σ (own.map (·.2))) (wipeD env (own.map (·.2))) := ((R.step s1).step s0).wipe _
  cases m with
  | zero =>
    refine .inl ⟨J2 i (by omega), ?_⟩
    rw [List.drop_eq_nil_of_le (by omega)] at h
    have h : SatO K (Rep K) F1 j1 H1 (mk b (.lst acc) mu) Q := Sat.ofO h
    cases b with
    | true =>
      refine h F (io ++ [D]) H _ ⟨s0.le, s0.pre.trans Pre.app, s0.keep, fun a ha hn => ?_, s0.fr⟩ (M.adoptC hl hF hio ⟨xs, rfl, ra⟩) (.cell M.lenR)
      rcases List.mem_append.mp ha with z | z
      · exact s0.new a z hn
      · rw [List.mem_singleton.mp z]; exact hD
    | false => exact h (upd F D (.lst xs)) io H _ ⟨s0.le.trans (Le.put hF), s0.pre, s0.keep, s0.new, fun a o e m f => by rw [upd_ne (ne_of_none e hD)]; exact s0.fr a o e m f⟩ (M.adoptF hl hF hio) (.lst upd_same (ra.mono (Le.put hF) Pre.rfl))
  | succ m =>
    have hi : i < ds.length := by omega
    obtain ⟨y, K1⟩ := J1 i ds[i] (List.getElem?_eq_getElem hi)
    rw [List.drop_eq_getElem_cons hi] at h
    unfold lcL at h
    rw [bind_assoc] at h
    refine .inr ⟨y, fun H => (i + 1) + m = ds.length ∧ ∃ F io mu acc xs, Step F1 j1 H1 F io H ∧ Mem K F io H mu ∧ H D = some (.lst xs) ∧ F D = none ∧ D ∉ io ∧ RepL K F io xs acc ∧
      Sat K (Rep K) F1 j1 H1 (fun c dd H => W c dd σ H) ((lcL mg mt me (wipeD env (own.map (·.2))) (ds.drop (i + 1)) acc mu).bind fun out m' => .ofO (mk b (.lst out) m')) Q,
      fun H' w => ⟨m, Nat.lt_succ_self m, w⟩, fun x H2 yl => ?_⟩
    -- what stands untold at D stays there
    have keepD : ∀ {F' H' : Hp} {io' : List Addr}, Step F io H F' io' H' → H' D = some (.lst xs) ∧ F' D = none ∧ D ∉ io' := fun s => by
      refine ⟨s.keep D _ hl hio, s.fr D _ hl hio hF, fun z => ?_⟩
      have := s.new D z hio
      rw [hl] at this; cases this
    obtain ⟨F2, s2, M2, r2⟩ := K1 x H2 yl
    refine ⟨F2, io, _, mu, ds[i], M2, R'.step s2, r2, (sat_bindX (rep := RepG K ts (wipe σ (own.map (·.2)))) h (s0.trans s2)).imp fun σ3 H3 ⟨F3, j3, m3, e3, s3, M3, ⟨R3, S3⟩, h3⟩ => ?_⟩
    refine ⟨wipe_same hts S3, F3, j3, e3, m3, M3, R3, ?_⟩
    have s03 := (s0.trans s2).trans s3
    rw [bind_assoc] at h3
    refine (sat_bindX (rep := RepB) h3 s03).imp fun c H4 ⟨F4, j4, m4, c', s4, M4, r4, h4⟩ => ?_
    cases r4
    have s04 := s03.trans s4
    cases c with
    | false =>
      refine iteF ⟨by omega, F4, j4, m4, acc, xs, s04, M4, (keepD ((s2.trans s3).trans s4)).1, (keepD ((s2.trans s3).trans s4)).2.1, (keepD ((s2.trans s3).trans s4)).2.2, ra.mono ((s2.trans s3).trans s4).le ((s2.trans s3).trans s4).pre, h4⟩
    | true =>
      have h4 : Sat K (Rep K) F1 j1 H1 (fun c dd H => W c dd σ H) (((me e3 m4).noX.bind fun y m3 => if lim acc.length then lcL mg mt me (wipeD env (own.map (·.2))) (ds.drop (i + 1)) (acc ++ [y]) m3 else .stuck).bind fun out m' => .ofO (mk b (.lst out) m')) Q := h4
      rw [bind_assoc] at h4
      refine iteT ⟨F4, j4, e3, m4, M4, R3.step s4, (sat_bindX (rep := Rep K) h4 s04).imp fun y H5 ⟨F5, j5, m5, dy, s5, M5, r5, h5⟩ => ?_⟩
      have st : Step F io H F5 j5 H5 := ((s2.trans s3).trans s4).trans s5
      obtain ⟨k1, k2, k3⟩ := keepD st
      have h6 : Sat K (Rep K) F1 j1 H1 (fun c dd H => W c dd σ H) ((if lim acc.length then lcL mg mt me (wipeD env (own.map (·.2))) (ds.drop (i + 1)) (acc ++ [dy]) m5 else .stuck).bind fun out m' => .ofO (mk b (.lst out) m')) Q := h5
      cases hz : lim acc.length with
      | false => rw [hz] at h6; exact h6.elim
      | true =>
        rw [hz] at h6
        have ra' := ra.mono st.le st.pre
        refine ⟨xs, k1, by rw [ra.length]; exact lim_lt hz, by omega, F5, j5, m5, acc ++ [dy], xs ++ [y], ?_, M5.setX k3 k2 k1, upd_same, k2, k3, ra'.append (.cons r5 .nil), h6⟩
        have sb := s0.trans st
        exact ⟨sb.le, sb.pre, fun a o e n => by rw [upd_ne (ne_of_none e hD)]; exact sb.keep a o e n, sb.new, sb.fr⟩
theorem de_lc (b : Bool) (hts : ∀ i, i ∈ ts → i ∈ own.map (·.2)) (hc : X.calm = true) (hN : X.N.Nodup) (hi : DI X W tg iter mi) (ok : BlkOk X.N X.env.scope scope own)
    (hg : ∀ (s : Shared) (H : Hp) (C : Addr) (cl : List (Str × Addr)) (fp : List Addr), DG (X.blk s H scope (compEnvC scope cl C X.env) fp) tg ts mg) (ht : ∀ (s : Shared) (H : Hp) (C : Addr) (cl : List (Str × Addr)) (fp : List Addr), DTs (X.blk s H scope (compEnvC scope cl C X.env) fp) ifs mt)
    (he : ∀ (s : Shared) (H : Hp) (C : Addr) (cl : List (Str × Addr)) (fp : List Addr), DE (X.blk s H scope (compEnvC scope cl C X.env) fp) W0 elt me) (hs : ∀ x, foldedSetIterable iter X.env x = pure x := by intro _; rfl) :
    DE X W (.ListComp elt [⟨tg, iter, ifs, 0⟩] scope pos) (mLc b mi mg mt me (own.map (·.2))) :=
  (pe_lc hc hN hi ok (fun s H C cl fp => hg s H C cl fp) (fun s H C cl fp => (ht s H C cl fp).h) (fun s H C cl fp => he s H C cl fp) hs).imp (tE_lc b hts)
theorem ds_setLc (b : Bool) {i : Nat} {y : Str} (hts : ∀ i, i ∈ ts → i ∈ own.map (·.2)) (hc : X.calm = true) (hN : X.N.Nodup) (hy : X.N[i]? = some y) (hyl : X.env.scope.names.lookup y = some .local)
    (hsw : swapsWith (.ListComp elt [⟨tg, iter, ifs, 0⟩] scope pos) (some (.Name y py)) spos.line X.env = pure true) (hi : DI X W tg iter mi) (ok : BlkOk X.N X.env.scope scope own)
    (hg : ∀ (s : Shared) (H : Hp) (C : Addr) (cl : List (Str × Addr)) (fp : List Addr), DG (X.blk s H scope (compEnvC scope cl C X.env) fp) tg ts mg) (ht : ∀ (s : Shared) (H : Hp) (C : Addr) (cl : List (Str × Addr)) (fp : List Addr), DTs (X.blk s H scope (compEnvC scope cl C X.env) fp) ifs mt)
    (he : ∀ (s : Shared) (H : Hp) (C : Addr) (cl : List (Str × Addr)) (fp : List Addr), DE (X.blk s H scope (compEnvC scope cl C X.env) fp) W0 elt me) (hs : ∀ x, foldedSetIterable iter X.env x = pure x := by intro _; rfl) :
    DS X W (.Assign [.Name y py] (.ListComp elt [⟨tg, iter, ifs, 0⟩] scope pos) spos) (mAsg (mLc b mi mg mt me (own.map (·.2))) (mGName i)) :=
  (ps_setLc hc hN hy hyl hsw hi ok (fun s H C cl fp => hg s H C cl fp) (fun s H C cl fp => (ht s H C cl fp).h) (fun s H C cl fp => he s H C cl fp) hs).imp
    (tS_asg (ts := [i]) (fun σ H Q h => tE_lc b hts σ H Q h) (fun v σ H Q ⟨F, io, env, mu, d, M, R, r, h⟩ => h F io H _ Step.rfl M ⟨R.set r, Same0.set (List.mem_singleton.mpr rfl)⟩) GOk.name)
end

/-! ### a cell becomes data: where a name's cell is let go -/
def mFrz (i : Nat) (m : DenS) : DenS := fun env mu => match env[i]? with
  | some (some (.cell n)) => match mu[n]? with
    | some (.lst l) => m (env.set i (some (.lst l))) (mu.set n .dead)
    | _ => .stuck
  | _ => m env mu
theorem dss_frz (i : Nat) {st : List Stmt} {m : DenS} (h : DSs X W st m) : DSs X W st (mFrz i m) := h.imp fun D σ H ⟨F, io, env, mu, M, R, q⟩ => by
  have plain : mFrz i m env mu = m env mu → tS X.K W m D σ H := fun e => by rw [e] at q; exact ⟨F, io, env, mu, M, R, q⟩
  cases e1 : env[i]? with
  | none => exact plain (by unfold mFrz; rw [e1])
  | some o =>
    cases o with
    | none => exact plain (by unfold mFrz; rw [e1])
    | some d =>
      cases d with
      | cell n =>
        cases e2 : mu[n]? with
        | none => unfold mFrz at q; simp only [e1, e2] at q; exact q.elim
        | some c =>
          cases c with
          | dead => unfold mFrz at q; simp only [e1, e2] at q; exact q.elim
          | dk l => unfold mFrz at q; simp only [e1, e2] at q; exact q.elim
          | lst l =>
            obtain ⟨v, ev, rv⟩ := R.2 i _ e1
            cases rv with
            | cell hn =>
              obtain ⟨o, M2, s2, r2⟩ := M.freeze hn e2
              have q2 : SatS X.K F io H W (m (env.set i (some (.lst l))) (mu.set n .dead)) D := by
                unfold mFrz at q; simp only [e1, e2] at q; exact q
              refine ⟨_, io, _, _, M2, ⟨?_, fun j dj hj => ?_⟩, SatS.step q2 s2⟩
              · rw [List.length_set]; exact R.1
              · by_cases z : i = j
                · subst z
                  rw [List.getElem?_set_self (List.getElem?_eq_some_iff.mp e1).1] at hj
                  cases hj
                  exact ⟨_, ev, r2⟩
                · rw [List.getElem?_set_ne z] at hj
                  exact (R.step s2).2 j dj hj
      | _ => exact plain (by unfold mFrz; rw [e1])

/-! ### defs -/
def spD (K : PySem.W.Frag) (n : Nat) (g : List D → Mu → Res D) : Sp := fun vs H Q E => vs.length = n ∧ ∃ F io mu ds, Mem K F io H mu ∧ RepL K F io vs ds ∧ Sat K (Rep K) F io H E (g ds mu) Q
def mCallF (n : Nat) (g : List D → Mu → Res D) (m : DenA) : DenE := fun env mu => (m env mu).bind fun ds m1 => if ds.length = n then g ds m1 else .stuck
section
variable {k : Nat} {f : Addr} {fd : FuncData} {ps : List Str} {x : Str} {p pos : Pos} {e : Expr} {es : List Expr} {m : DenA} {g : List D → Mu → Res D}
theorem tE_callF {n : Nat} {σ : L2.St} {H : Hp} {Q : VK} (h : tE K W (mCallF n g m) σ H Q) : tA K W m σ H fun vs H1 => spD K n g vs H1 Q (WE W σ) := by
  obtain ⟨F, io, env, mu, M, R, h⟩ := h
  refine ⟨F, io, env, mu, M, R, (Sat.bind h).imp fun vs H1 ⟨F1, j1, m1, ds, s1, M1, r1, q⟩ => ?_⟩
  have q : Sat K (Rep K) F1 j1 H1 (fun c dd H => W c dd σ H) (if ds.length = n then g ds m1 else .stuck) Q := q
  by_cases hl : ds.length = n
  · rw [if_pos hl] at q
    exact ⟨by rw [r1.length]; exact hl, F1, j1, m1, ds, M1, r1, q⟩
  · rw [if_neg hl] at q; exact q.elim
theorem de_call (F : FnOk X.prog X.w X.K X.mg X.base (L2.CX X.prog X.w) k f fd ps (spD X.K ps.length g)) (tk : Takes X W) (hr : Room k X.A) (hg : Gl X x) (hm : X.mg x = some (.ref f)) (hk : PySem.W.keepIn X.K (.ref f) = true) (hb : Binds X.K fd ps [])
    (ha : DA X W (e :: es) m) (hdb : (x == ("__debug__" : Str)) = false := by decide) (he : starEach (e :: es) X.env = (false, eval e X.env) :: starEach es X.env := by rfl) (hpl : (backTo pos (starEach es X.env)).any (·.1) = false := by rfl) :
    DE X W (.Call (.Name x p) (e :: es) [] pos) (mCallF ps.length g m) :=
  (pe_callS (E := WE W) F hr hg hm hk hb (fun σ => passAt tk σ) ha hdb he hpl).imp fun σ H Q h => tE_callF h
end
/-- the slots at a def's entry -/
def startD (N : List Str) (ds : List D) : DEnv := ds.map some ++ List.replicate (N.length - ds.length) none
def denF (N : List Str) (m : DenS) : List D → Mu → Res D := fun ds mu => match m (startD N ds) mu with
  | .nx _ m' => .ok .non m'
  | .rt d m' => .ok d m'
  | .exc x _ m' => .exc x m'
  | _ => .stuck
theorem envR_start {F : Hp} {io : List Addr} {N : List Str} : ∀ {vs : List V} {ds : List D}, RepL K F io vs ds → EnvR K F io (L2.start N vs) (startD N ds) := fun {vs ds} r => by
  refine ⟨by unfold L2.start startD; rw [List.length_append, List.length_append, List.length_map, List.length_map, List.length_replicate, List.length_replicate, r.length], fun i d e => ?_⟩
  unfold startD at e
  by_cases hi : i < ds.length
  · rw [List.getElem?_append_left (by simpa using hi), List.getElem?_map] at e
    cases e2 : ds[i]? with
    | none => rw [e2] at e; cases e
    | some d' =>
      rw [e2] at e; cases e
      obtain ⟨v, ev, rv⟩ := r.get e2
      refine ⟨v, ?_, rv⟩
      unfold L2.start
      rw [List.getElem?_append_left (by rw [List.length_map, r.length]; exact hi), List.getElem?_map, ev]; rfl
  · rw [List.getElem?_append_right (by simpa using hi), List.getElem?_replicate] at e
    split at e <;> cases e
/-- THE RULE for a def: its body's derivation gives its promise -/
theorem fn_D {P : Program} {w : World} {mg : Str → Option Value} {base : Heap} {x qual : Str} {st : Stmt} {f : Addr} {fd : FuncData} {N ps : List Str} {k : Nat} {m : DenS} (F : Fun K x qual st f fd) (S : FnScope N ps (defScope st))
    (hbody : ∀ (X : Cx) (E : XK) (cdv : Value) (A : Around) (outer : List Env) (s : Shared) (H : Hp), Room k (A.deeper (PyProof.Rows.envOfC qual (defScope st) s.heap.objs.size f cdv)) → X = cxOf (L2.CX P w) P w K mg base N qual (defScope st) f cdv A outer s H E →
      DSs X (fun c d _ H' => E c d H') (defBody st) m) : FnOk P w K mg base (L2.CX P w) (k + 1) f fd ps (spD K ps.length (denF N m)) := by
  refine F.okX S (fun vs H Q E h => h.1) fun cdv A outer s H vs Q E hr h => ?_
  refine ⟨_, hbody _ E cdv A outer s H hr rfl, ?_⟩
  obtain ⟨hl, F, io, mu, ds, M, r, q⟩ := h
  refine ⟨F, io, startD N ds, mu, M, envR_start r, ?_⟩
  unfold denF at q
  cases e : m (startD N ds) mu with
  | nx e1 m1 => rw [e] at q; exact fun F1 j1 H1 σ1 s1 M1 R1 => q F1 j1 H1 .non s1 M1 .non
  | rt d m1 => rw [e] at q; exact fun F1 j1 H1 v s1 M1 r1 => q F1 j1 H1 v s1 M1 r1
  | exc x e1 m1 => rw [e] at q; exact fun F1 j1 H1 σ1 c dd s1 M1 R1 r1 => q F1 j1 H1 c dd s1 M1 r1
  | bk _ _ => rw [e] at q; exact q.elim
  | ct _ _ => rw [e] at q; exact q.elim
  | stuck => rw [e] at q; exact q.elim
theorem FnOk_congr {P : Program} {w : World} {mg : Str → Option Value} {base : Heap} {f : Addr} {fd : FuncData} {ps : List Str} {k n : Nat} {g g' : List D → Mu → Res D} (h : FnOk P w K mg base (L2.CX P w) k f fd ps (spD K n g)) (e : g = g') : FnOk P w K mg base (L2.CX P w) k f fd ps (spD K n g') := e ▸ h
end
end DL

/-! DL4: the operations on deep values, each with its rule. -/
namespace DL
open PySem L2

/-! ### dicts' pairs -/
def dGet {κ : Type} [DecidableEq κ] (l : List (κ × D)) (k : κ) : Option D := (l.find? fun kv => decide (kv.1 = k)).map (·.2)
def dPut {κ : Type} [DecidableEq κ] (l : List (κ × D)) (k : κ) (d : D) : List (κ × D) := if l.any (fun kv => decide (kv.1 = k)) then l.map (fun kv => if kv.1 = k then (kv.1, d) else kv) else l ++ [(k, d)]
def keyOf : D → Option Key
  | .int i => some (.inl i)
  | .str s => some (.inr s)
  | _ => none
section
variable {K : PySem.W.Frag} {F H : Hp} {io : List Addr} {mu : Mu}
theorem keyOf_rep {v : V} {d : D} {k : Key} (r : Rep K F io v d) (e : keyOf d = some k) : v = kV k := by
  cases r with
  | int => cases e; rfl
  | str => cases e; rfl
  | _ => cases e
theorem RepK.get : ∀ {xs : List (Key × V)} {ds : List (Key × D)} {k : Key} {d : D}, RepK K F io xs ds → dGet ds k = some d → ∃ v, valV xs k = some v ∧ Rep K F io v d
  | _, _, _, _, .nil, e => by cases e
  | _, _, k, d, @RepK.cons _ _ _ k0 v0 d0 vs ds r t, e => by
    by_cases h : k0 = k
    · unfold dGet at e
      rw [List.find?_cons_of_pos (by simpa using h)] at e
      cases e
      exact ⟨v0, valV_pos h, r⟩
    · unfold dGet at e
      rw [List.find?_cons_of_neg (by simpa using h)] at e
      obtain ⟨v, e2, r2⟩ := RepK.get t e
      exact ⟨v, by rw [valV_neg h]; exact e2, r2⟩
theorem RepK.any : ∀ {xs : List (Key × V)} {ds : List (Key × D)} {k : Key}, RepK K F io xs ds → (xs.any fun kv => decide (kv.1 = k)) = ds.any fun kv => decide (kv.1 = k)
  | _, _, _, .nil => rfl
  | _, _, k, .cons r t => by rw [List.any_cons, List.any_cons, RepK.any t]
theorem RepK.append : ∀ {xs ys : List (Key × V)} {ds es : List (Key × D)}, RepK K F io xs ds → RepK K F io ys es → RepK K F io (xs ++ ys) (ds ++ es)
  | _, _, _, _, .nil, s => s
  | _, _, _, _, .cons r t, s => .cons r (RepK.append t s)
theorem RepK.repl {v : V} {d : D} {k : Key} (q : Rep K F io v d) : ∀ {xs : List (Key × V)} {ds : List (Key × D)}, RepK K F io xs ds → RepK K F io (xs.map fun kv => if kv.1 = k then (kv.1, v) else kv) (ds.map fun kv => if kv.1 = k then (kv.1, d) else kv)
  | _, _, .nil => .nil
  | _, _, @RepK.cons _ _ _ k0 v0 d0 vs ds r t => by
    rw [List.map_cons, List.map_cons]
    by_cases h : k0 = k
    · rw [if_pos h, if_pos h]; exact .cons q (RepK.repl q t)
    · rw [if_neg h, if_neg h]; exact .cons r (RepK.repl q t)
theorem RepK.put {xs : List (Key × V)} {ds : List (Key × D)} {v : V} {d : D} {k : Key} (h : RepK K F io xs ds) (q : Rep K F io v d) : RepK K F io (putK xs k v) (dPut ds k d) := by
  unfold putK dPut
  rw [h.any]
  split
  · exact h.repl q
  · exact h.append (.cons q .nil)
end

/-! ### + - * // % ** -/
def gAdd (b : Bool) (mu : Mu) (x y : D) : ORes D := match x, y with
  | .int i, .int j => some (.int (i + j), mu)
  | .str a, .str c => if a.length + c.length ≤ 1000000 then some (.str (a ++ c), mu) else none
  | .tup l, .tup k => if l.isEmpty = false ∧ lim (l.length + k.length) = true then some (.tup (l ++ k), mu) else none
  | x, y => match view mu x, view mu y with
    | .lst l, .lst k => if lim (l.length + k.length) then mk b (.lst (l ++ k)) mu else none
    | _, _ => none
def rAddA (K : PySem.W.Frag) : R2 := fun x y H Q => rI0 (fun i j => .int (i + j)) x y H Q ∨ (∃ i j, x = .str i ∧ y = .str j ∧ i.length + j.length ≤ sizeLine ∧ Q (.str (i ++ j)) H) ∨ rCatT K x y H Q ∨ rCat x y H Q
theorem op_addA {X : Cx} : OpR X (binaryOp .Add) (rAddA X.K) := op_add.or (op_add_str.or (op_catT.or op_cat))
section
variable {K : PySem.W.Frag}
theorem satO_some {F H : Hp} {io : List Addr} {mu : Mu} {v : V} {d : D} {Q : VK} (h : SatO K (Rep K) F io H (some (d, mu)) Q) (M : Mem K F io H mu) (r : Rep K F io v d) : Q v H := h F io H v Step.rfl M r
theorem og_add (b : Bool) : OpD K (rAddA K) (gAdd b) := fun F io H mu x y dx dy Q M rx ry h => by
  unfold gAdd at h
  split at h
  · rename_i i j
    exact .inl ⟨i, j, rx.int_inv, ry.int_inv, satO_some h M .int⟩
  · rename_i i j
    split at h
    · rename_i hl
      exact .inr (.inl ⟨i, j, rx.str_inv, ry.str_inv, by rw [sizeLine_eq]; omega, satO_some h M .str⟩)
    · exact h.elim
  · rename_i l k
    split at h
    · rename_i hl
      obtain ⟨h1, h2⟩ := hl
      obtain ⟨a, xs, rfl, qa, r1⟩ := M.tup rx rfl
      obtain ⟨c, ys, rfl, qc, r2⟩ := M.tup ry rfl
      refine .inr (.inr (.inl ⟨a, c, xs, ys, rfl, rfl, qa, qc, fun z => ?_, by rw [r1.length, r2.length]; exact lim_line h2, fun z => ?_, fun z p hp => ?_⟩))
      · subst z; cases r1; simp at h1
      · subst z
        cases r2
        rw [List.append_nil] at h
        exact satO_some h M rx
      · exact h _ _ _ _ (M.stepF hp) (M.newF hp) (.tup (SqT.of upd_same) ((r1.append r2).mono (Le.put (M.fresh hp)) Pre.rfl))
    · exact h.elim
  · split at h
    · rename_i l k e1 e2
      split at h
      · rename_i hl
        obtain ⟨a, xs, rfl, qa, r1⟩ := M.lst rx e1
        obtain ⟨c, ys, rfl, qc, r2⟩ := M.lst ry e2
        exact .inr (.inr (.inr ⟨a, c, xs, ys, rfl, rfl, qa, qc, by rw [r1.length, r2.length]; exact lim_line hl, fun p hp => sat_mk M h p _ hp ⟨_, rfl, r1.append r2⟩⟩))
      · exact h.elim
    · exact h.elim
/-- an operation on two ints -/
def gII (c : Int → Int → Bool) (f : Int → Int → D) : Mu → D → D → ORes D := fun mu x y => match x, y with
  | .int i, .int j => if c i j then some (f i j, mu) else none
  | _, _ => none
theorem og_ii {C : Int → Int → Prop} {g : Int → Int → V} {c : Int → Int → Bool} {f : Int → Int → D} (hc : ∀ i j, c i j = true → C i j) (hf : ∀ F io i j, Rep K F io (g i j) (f i j)) : OpD K (rI C g) (gII c f) := fun F io H mu x y dx dy Q M rx ry h => by
  unfold gII at h
  split at h
  · rename_i i j
    split at h
    · rename_i hq
      exact ⟨i, j, rx.int_inv, ry.int_inv, hc i j hq, satO_some h M (hf _ _ _ _)⟩
    · exact h.elim
  · exact h.elim
theorem og_ii0 {g : Int → Int → V} {f : Int → Int → D} (hf : ∀ F io i j, Rep K F io (g i j) (f i j)) : OpD K (rI0 g) (gII (fun _ _ => true) f) := fun F io H mu x y dx dy Q M rx ry h => by
  unfold gII at h
  split at h
  · rename_i i j
    exact ⟨i, j, rx.int_inv, ry.int_inv, satO_some (by simpa using h) M (hf _ _ _ _)⟩
  · exact h.elim
def gSub : Mu → D → D → ORes D := gII (fun _ _ => true) fun i j => .int (i - j)
theorem og_sub : OpD K (rI0 fun i j => .int (i - j)) gSub := og_ii0 fun _ _ _ _ => .int
def modB (_ j : Int) : Bool := decide (0 < j)
def gMod : Mu → D → D → ORes D := gII modB fun i j => .int (i % j)
theorem og_mod : OpD K (rI (fun _ j => 0 < j) fun i j => .int (i % j)) gMod := og_ii (fun i j h => of_decide_eq_true h) fun _ _ _ _ => .int
def divB (_ j : Int) : Bool := decide (0 < j ∧ j.natAbs.log2 < 9000)
def gFdiv : Mu → D → D → ORes D := gII divB fun i j => .int (i / j)
theorem og_fdiv : OpD K (rI CDivW fun i j => .int (i / j)) gFdiv := og_ii (fun i j h => (of_decide_eq_true (h : decide (0 < j ∧ j.natAbs.log2 < 9000) = true) : 0 < j ∧ j.natAbs.log2 < 9000)) fun _ _ _ _ => .int
def CPowW (i j : Int) : Prop := 0 ≤ j ∧ (Builtin.Int.intBits i : Int) * j ≤ 2 ^ 27
def powB (i j : Int) : Bool := decide (0 ≤ j ∧ (Builtin.Int.intBits i : Int) * j ≤ 2 ^ 27)
theorem op_powW {X : Cx} : OpR X (binaryOp .Pow) (rI CPowW fun i j => .int (i ^ j.toNat)) := opI fun _ _ _ _ _ _ _ hc q => PyProof.Rows.pow_int hc.1 hc.2 q
def gPow : Mu → D → D → ORes D := gII powB fun i j => .int (i ^ j.toNat)
theorem og_pow : OpD K (rI CPowW fun i j => .int (i ^ j.toNat)) gPow := og_ii (fun i j h => (of_decide_eq_true (h : decide (0 ≤ j ∧ (Builtin.Int.intBits i : Int) * j ≤ 2 ^ 27) = true) : 0 ≤ j ∧ (Builtin.Int.intBits i : Int) * j ≤ 2 ^ 27)) fun _ _ _ _ => .int
/-- * -/
def mulB (i j : Int) : Bool := decide ((Builtin.Int.intBits i : Int) + (Builtin.Int.intBits j : Int) ≤ 134217728)
def gMul (b : Bool) (mu : Mu) (x y : D) : ORes D := match x, y with
  | .int i, .int j => if mulB i j then some (.int (i * j), mu) else none
  | .tup l, .int k => if l.isEmpty = false ∧ 2 ≤ k ∧ k ≤ 1000 ∧ l.length ≤ 1000 then some (.tup (List.replicate k.toNat l).flatten, mu) else none
  | x, .int k => match view mu x with
    | .lst l => if -(2 ^ 63) ≤ k ∧ k < 2 ^ 63 ∧ lim (l.length * k.toNat) = true then mk b (.lst (List.replicate k.toNat l).flatten) mu else none
    | _ => none
  | _, _ => none
def rMulA (K : PySem.W.Frag) : R2 := fun x y H Q => rI CMulX (fun i j => .int (i * j)) x y H Q ∨ rRepT K x y H Q ∨ rRep x y H Q
theorem op_mulA {X : Cx} : OpR X (binaryOp .Mult) (rMulA X.K) := op_mulX.or (op_repT.or op_rep)
theorem og_mul (b : Bool) : OpD K (rMulA K) (gMul b) := fun F io H mu x y dx dy Q M rx ry h => by
  unfold gMul at h
  split at h
  · rename_i i j
    split at h
    · rename_i hq
      exact .inl ⟨i, j, rx.int_inv, ry.int_inv, (of_decide_eq_true hq : _), satO_some h M .int⟩
    · exact h.elim
  · rename_i l k
    split at h
    · rename_i hl
      obtain ⟨h1, h2, h3, h4⟩ := hl
      obtain ⟨a, xs, rfl, qa, r1⟩ := M.tup rx rfl
      refine .inr (.inl ⟨a, k, xs, rfl, ry.int_inv, qa, fun z => ?_, h2, h3, by rw [r1.length]; exact h4, fun p hp => ?_⟩)
      · subst z; cases r1; simp at h1
      · exact h _ _ _ _ (M.stepF hp) (M.newF hp) (.tup (SqT.of upd_same) ((r1.rep _).mono (Le.put (M.fresh hp)) Pre.rfl))
    · exact h.elim
  · rename_i k _ _
    split at h
    · rename_i l e1
      split at h
      · rename_i hl
        obtain ⟨h1, h2, h3⟩ := hl
        obtain ⟨a, xs, rfl, qa, r1⟩ := M.lst rx e1
        exact .inr (.inr ⟨a, k, xs, rfl, ry.int_inv, qa, h1, h2, by rw [r1.length]; exact lim_line h3, fun p hp => sat_mk M h p _ hp ⟨_, rfl, r1.rep _⟩⟩)
      · exact h.elim
    · exact h.elim
  · exact h.elim
def gNeg (mu : Mu) (x : D) : ORes D := match x with
  | .int i => some (.int (-i), mu)
  | _ => none
theorem ug_neg : UnD K (rU fun i => .int (-i)) gNeg := fun F io H mu x dx Q M rx h => by
  unfold gNeg at h
  split at h
  · rename_i i
    exact ⟨i, rx.int_inv, satO_some h M .int⟩
  · exact h.elim

/-! ### < <= > >= of ints -/
def gLt : Mu → D → D → ORes D := gII (fun _ _ => true) fun i j => .bl (decide (i < j))
def gLe : Mu → D → D → ORes D := gII (fun _ _ => true) fun i j => .bl (decide (i ≤ j))
def gGt : Mu → D → D → ORes D := gII (fun _ _ => true) fun i j => .bl (decide (j < i))
def gGe : Mu → D → D → ORes D := gII (fun _ _ => true) fun i j => .bl (decide (j ≤ i))
theorem og_lt : OpD K (rI0 fun i j => .bl (decide (i < j))) gLt := og_ii0 fun _ _ _ _ => .bl
theorem og_le : OpD K (rI0 fun i j => .bl (decide (i ≤ j))) gLe := og_ii0 fun _ _ _ _ => .bl
theorem og_gt : OpD K (rI0 fun i j => .bl (decide (j < i))) gGt := og_ii0 fun _ _ _ _ => .bl
theorem og_ge : OpD K (rI0 fun i j => .bl (decide (j ≤ i))) gGe := og_ii0 fun _ _ _ _ => .bl

end
/-! ### == != of data -/
mutual
def deq : D → D → Bool
  | .non, d => match d with | .non => true | _ => false
  | .bl a, d => match d with | .bl b => a == b | .int j => (if a then 1 else 0) == j | _ => false
  | .int i, d => match d with | .int j => decide (i = j) | .bl b => i == (if b then 1 else 0) | _ => false
  | .str x, d => match d with | .str y => decide (x = y) | _ => false
  | .lst l, d => match d with | .lst k => deqL l k | _ => false
  | .tup l, d => match d with | .tup k => deqL l k | _ => false
  | .ty _, _ => false
  | .ref _, _ => false
  | .rl _, _ => false
  | .dk _, _ => false
  | .cell _, _ => false
def deqL : List D → List D → Bool
  | [], d => match d with | [] => true | _ => false
  | x :: xs, d => match d with | y :: ys => deq x y && deqL xs ys | [] => false
end
/-! plain data, at most so deep -/
mutual
def okD : Nat → D → Bool
  | _, .non => true
  | _, .bl _ => true
  | _, .int _ => true
  | _, .str x => PyData.strOk x
  | n + 1, .lst l => okL n l
  | n + 1, .tup l => okL n l
  | _, _ => false
def okL : Nat → List D → Bool
  | _, [] => true
  | n, d :: ds => okD n d && okL n ds
end
mutual
def py : D → PyData
  | .bl b => .bool b
  | .int i => .int i
  | .str x => .str x
  | .lst l => .list (pyL l)
  | .tup l => .tuple (pyL l)
  | _ => .none
def pyL : List D → List PyData
  | [] => []
  | d :: ds => py d :: pyL ds
end
mutual
theorem py_lay : ∀ (n : Nat) (d : D), okD n d = true → (py d).canLay0 = true ∧ (py d).depth ≤ n
  | _, .non, _ => by simp [py, PyData.canLay0, PyData.depth]
  | _, .bl _, _ => by simp [py, PyData.canLay0, PyData.depth]
  | _, .int _, _ => by simp [py, PyData.canLay0, PyData.depth]
  | _, .str x, h => by simp only [okD] at h; simp [py, PyData.canLay0, PyData.depth, h]
  | n + 1, .lst l, h => by
    simp only [okD] at h
    obtain ⟨a, b⟩ := pyL_lay n l h
    simp only [py, PyData.canLay0, PyData.depth]
    exact ⟨a, by omega⟩
  | n + 1, .tup l, h => by
    simp only [okD] at h
    obtain ⟨a, b⟩ := pyL_lay n l h
    simp only [py, PyData.canLay0, PyData.depth]
    exact ⟨a, by omega⟩
  | 0, .lst _, h => by simp [okD] at h
  | 0, .tup _, h => by simp [okD] at h
  | _, .rl _, h => by simp [okD] at h
  | _, .dk _, h => by simp [okD] at h
  | _, .cell _, h => by simp [okD] at h
  | _, .ty _, h => by simp [okD] at h
  | _, .ref _, h => by simp [okD] at h
theorem pyL_lay : ∀ (n : Nat) (l : List D), okL n l = true → PyData.canLayAll0 (pyL l) = true ∧ PyData.depthAll (pyL l) ≤ n
  | _, [], _ => by simp [pyL, PyData.canLayAll0, PyData.depthAll]
  | n, d :: ds, h => by
    simp only [okL, Bool.and_eq_true] at h
    obtain ⟨a1, b1⟩ := py_lay n d h.1
    obtain ⟨a2, b2⟩ := pyL_lay n ds h.2
    simp only [pyL, PyData.canLayAll0, PyData.depthAll, a1, a2, Bool.and_self, true_and]
    omega
end
mutual
theorem py_eqv : ∀ (n m : Nat) (d e : D), okD n d = true → okD m e = true → PyData.eqv (py d) (py e) = deq d e
  | n, m, .non, e, h, k => by cases e <;> simp [py, deq, PyData.eqv] <;> (cases m <;> simp [okD] at k)
  | n, m, .bl a, e, h, k => by cases e <;> simp [py, deq, PyData.eqv] <;> (cases m <;> simp [okD] at k)
  | n, m, .int a, e, h, k => by
    cases e with
    | int j => simp only [py, deq, PyData.eqv]; rw [Bool.beq_eq_decide_eq]
    | _ => simp [py, deq, PyData.eqv] <;> (cases m <;> simp [okD] at k)
  | n, m, .str a, e, h, k => by
    cases e with
    | str j => simp only [py, deq, PyData.eqv]; rw [Bool.beq_eq_decide_eq]
    | _ => simp [py, deq, PyData.eqv] <;> (cases m <;> simp [okD] at k)
  | n + 1, m, .lst l, e, h, k => by
    cases e with
    | lst j =>
      cases m with
      | zero => simp [okD] at k
      | succ m =>
        simp only [okD] at h k
        simp only [py, deq, PyData.eqv]
        exact pyL_eqv n m l j h k
    | _ => simp [py, deq, PyData.eqv] <;> (cases m <;> simp [okD] at k)
  | n + 1, m, .tup l, e, h, k => by
    cases e with
    | tup j =>
      cases m with
      | zero => simp [okD] at k
      | succ m =>
        simp only [okD] at h k
        simp only [py, deq, PyData.eqv]
        exact pyL_eqv n m l j h k
    | _ => simp [py, deq, PyData.eqv] <;> (cases m <;> simp [okD] at k)
  | 0, _, .lst _, _, h, _ => by simp [okD] at h
  | 0, _, .tup _, _, h, _ => by simp [okD] at h
  | n, _, .rl _, _, h, _ => by cases n <;> simp [okD] at h
  | n, _, .dk _, _, h, _ => by cases n <;> simp [okD] at h
  | n, _, .cell _, _, h, _ => by cases n <;> simp [okD] at h
  | n, _, .ty _, _, h, _ => by cases n <;> simp [okD] at h
  | n, _, .ref _, _, h, _ => by cases n <;> simp [okD] at h
theorem pyL_eqv : ∀ (n m : Nat) (d e : List D), okL n d = true → okL m e = true → PyData.eqvAll (pyL d) (pyL e) = deqL d e
  | n, m, [], e, h, k => by cases e <;> simp [pyL, deqL, PyData.eqvAll]
  | n, m, x :: xs, [], h, k => by simp [pyL, deqL, PyData.eqvAll]
  | n, m, x :: xs, y :: ys, h, k => by
    simp only [okL, Bool.and_eq_true] at h k
    simp only [pyL, deqL, PyData.eqvAll]
    rw [py_eqv n m x y h.1 k.1, pyL_eqv n m xs ys h.2 k.2]
end
section
variable {K : PySem.W.Frag} {F G : Hp} {io : List Addr}
mutual
theorem rep_dp (l : Le F G) : ∀ (n : Nat) {v : V} {d : D}, Rep K F io v d → okD n d = true → Dp K G v (py d)
  | _, _, _, .non, _ => by simp only [py]; exact .non
  | _, _, _, .bl, _ => by simp only [py]; exact .bl _
  | _, _, _, .int, _ => by simp only [py]; exact .int _
  | _, _, _, .str, _ => by simp only [py]; exact .str _
  | n + 1, _, _, .lst h r, k => by simp only [okD] at k; simp only [py]; exact .lst (SqL.of (l _ _ h)) (repL_dp l n r k)
  | n + 1, _, _, .tup h r, k => by simp only [okD] at k; simp only [py]; exact .tup (l.sqt h) (repL_dp l n r k)
  | 0, _, _, .lst _ _, k => by simp [okD] at k
  | 0, _, _, .tup _ _, k => by simp [okD] at k
  | n, _, _, .rl _ _, k => by cases n <;> simp [okD] at k
  | n, _, _, .dk _ _, k => by cases n <;> simp [okD] at k
  | n, _, _, .cell _, k => by cases n <;> simp [okD] at k
  | n, _, _, .ty, k => by cases n <;> simp [okD] at k
  | n, _, _, .ref, k => by cases n <;> simp [okD] at k
theorem repL_dp (l : Le F G) : ∀ (n : Nat) {v : List V} {d : List D}, RepL K F io v d → okL n d = true → DpAll K G v (pyL d)
  | _, _, _, .nil, _ => by simp only [pyL]; exact .nil
  | n, _, _, .cons r t, k => by
    simp only [okL, Bool.and_eq_true] at k
    simp only [pyL]
    exact .cons (rep_dp l n r k.1) (repL_dp l n t k.2)
end
end
section
variable {K : PySem.W.Frag} {F H : Hp} {io : List Addr} {mu : Mu}
theorem Mem.dp {n : Nat} {v : V} {d : D} (M : Mem K F io H mu) (r : Rep K F io v d) (k : okD n (view mu d) = true) : Dp K H v (py (view mu d)) := by
  cases d with
  | cell c =>
    cases e : view mu (.cell c) with
    | lst l =>
      rw [e] at k
      obtain ⟨a, xs, rfl, h, r2⟩ := M.lst r e
      cases n with
      | zero => simp [okD] at k
      | succ n =>
        simp only [okD] at k
        simp only [py]
        exact .lst (SqL.of h) (repL_dp M.le n r2 k)
    | _ =>
      rw [e] at k
      first
        | (cases n <;> simp [okD] at k; done)
        | (exfalso
           rw [view_cell] at e
           split at e <;> cases e)
  | _ => exact rep_dp M.le n r k
theorem shaped_py {d : D} (k : okD 60 d = true) : SeqAt.shaped (py d) = true := by
  obtain ⟨a, b⟩ := py_lay 60 d k
  unfold SeqAt.shaped
  rw [a, Bool.true_and]
  exact decide_eq_true (by omega)
def gEq (neg : Bool) (mu : Mu) (x y : D) : ORes D := if okD 60 (view mu x) = true ∧ okD 60 (view mu y) = true then some (.bl (if neg then !deq (view mu x) (view mu y) else deq (view mu x) (view mu y)), mu) else none
theorem og_eq : OpD K (rEqD K) (gEq false) := fun F io H mu x y dx dy Q M rx ry h => by
  unfold gEq at h
  split at h
  · rename_i hk
    refine ⟨_, _, M.dp rx hk.1, M.dp ry hk.2, shaped_py hk.1, shaped_py hk.2, ?_⟩
    rw [py_eqv 60 60 _ _ hk.1 hk.2]
    exact satO_some h M .bl
  · exact h.elim
theorem og_ne : OpD K (rNeD K) (gEq true) := fun F io H mu x y dx dy Q M rx ry h => by
  unfold gEq at h
  split at h
  · rename_i hk
    refine ⟨_, _, M.dp rx hk.1, M.dp ry hk.2, shaped_py hk.1, shaped_py hk.2, ?_⟩
    rw [py_eqv 60 60 _ _ hk.1 hk.2]
    exact satO_some h M .bl
  · exact h.elim
/-! ### in, not in; is None -/
def gIn (neg : Bool) (mu : Mu) (x y : D) : ORes D := match view mu y with
  | .lst l => if okD 60 (view mu x) = true ∧ okD 60 (.lst l) = true then some (.bl (if neg then !(l.any fun z => deq z (view mu x)) else l.any fun z => deq z (view mu x)), mu) else none
  | _ => none
theorem any_py {n m : Nat} {d : D} (hd : okD m d = true) : ∀ {l : List D}, okL n l = true → ((pyL l).any fun z => PyData.eqv z (py d)) = l.any fun z => deq z d
  | [], _ => rfl
  | x :: xs, h => by
    simp only [okL, Bool.and_eq_true] at h
    simp only [pyL, List.any_cons]
    rw [py_eqv n m x d h.1 hd, any_py hd h.2]
theorem og_in : OpD K (rInD K) (gIn false) := fun F io H mu x y dx dy Q M rx ry h => by
  unfold gIn at h
  split at h
  · rename_i l e
    split at h
    · rename_i hk
      refine ⟨_, pyL l, M.dp rx hk.1, ?_, shaped_py hk.1, ?_, ?_⟩
      · have := M.dp (n := 60) ry (by rw [e]; exact hk.2)
        rw [e] at this; simpa only [py] using this
      · have := shaped_py hk.2
        simpa only [py] using this
      · rw [any_py (n := 59) hk.1 (by simpa only [okD] using hk.2)]
        exact satO_some h M .bl
    · exact h.elim
  · exact h.elim
theorem og_notIn : OpD K (rNotInD K) (gIn true) := fun F io H mu x y dx dy Q M rx ry h => by
  unfold gIn at h
  split at h
  · rename_i l e
    split at h
    · rename_i hk
      refine ⟨_, pyL l, M.dp rx hk.1, ?_, shaped_py hk.1, ?_, ?_⟩
      · have := M.dp (n := 60) ry (by rw [e]; exact hk.2)
        rw [e] at this; simpa only [py] using this
      · have := shaped_py hk.2
        simpa only [py] using this
      · rw [any_py (n := 59) hk.1 (by simpa only [okD] using hk.2)]
        exact satO_some h M .bl
    · exact h.elim
  · exact h.elim
def isN : D → Bool
  | .non => true
  | _ => false
theorem isN_rep {v : V} {d : D} (r : Rep K F io v d) : decide (v = .non) = isN d := by
  cases r <;> rfl
def gIsN (neg : Bool) (mu : Mu) (x y : D) : ORes D := match y with
  | .non => some (.bl (if neg then !isN x else isN x), mu)
  | _ => none
theorem og_isN : OpD K (fun x y H Q => y = .non ∧ Q (.bl (decide (x = .non))) H) (gIsN false) := fun F io H mu x y dx dy Q M rx ry h => by
  unfold gIsN at h
  split at h
  · refine ⟨ry.non_inv, ?_⟩
    rw [isN_rep rx]
    exact satO_some h M .bl
  · exact h.elim
theorem og_notN : OpD K (fun x y H Q => y = .non ∧ Q (.bl (!decide (x = .non))) H) (gIsN true) := fun F io H mu x y dx dy Q M rx ry h => by
  unfold gIsN at h
  split at h
  · refine ⟨ry.non_inv, ?_⟩
    rw [isN_rep rx]
    exact satO_some h M .bl
  · exact h.elim
end
end DL

/-! DL5: subscripts, built-in calls, methods, what is walked. -/
namespace DL
open PySem L2

/-! ### a[b] -/
section
open PySem.Spec PyProof.Rows
theorem ix_dict {X : Cx} (hu : X.A.units + 1 < cLine) : IxR X (fun x y H Q => ∃ a v, x = .ref a ∧ DGet H a y (some v) ∧ Q v H) := by
  intro value slice pins s σ H x y v u Q I rx ry h hs
  obtain ⟨a, w, rfl, g, q⟩ := h
  obtain rfl : v = Value.ref a := rx
  have hT := dict_typeIs I g
  unfold subscriptTail
  refine wpAny_bind ?_
  rw [getitemInPython_of_ne hT.not_modules]
  refine wpAny_bind (wpAny_specialOf hT PySem.F.slot_dict_getitem.lookup ?_)
  have fin : wpAny (model X.prog X.w) X.A (subscripted slice false (.ref a) u) (fun r s₃ => wpAny (model X.prog X.w) X.A (letTemporaryGo value (.ref a) r >>= fun _ => pure r) (EP X pins σ Q) X.xe s₃) X.xe s := by
    rw [hs]
    exact wpAny_operating (d_getItem hu I g ry fun w' s' I' r' => wpAny_bind (wpAny_letTemporaryGo (wpAny_pure ⟨w, H, I', r', q⟩)))
  first
    | exact wpAny_pure (wpAny_bind fin)
    | exact wpAny_bind (wpAny_pure (wpAny_bind fin))
    | exact wpAny_bind fin
end
def gIx (mu : Mu) (x y : D) : ORes D := match y with
  | .int i => match view mu x with
    | .lst l => (atI l i).map fun d => (d, mu)
    | .tup l => (atI l i).map fun d => (d, mu)
    | .rl l => (atI l i).map fun d => (d, mu)
    | .str s => if s.length ≤ 1000000 then (atI s.cps.toList i).map fun c => (.str ⟨#[c]⟩, mu) else none
    | .dk l => (dGet l (.inl i)).map fun d => (d, mu)
    | _ => none
  | .str s => match view mu x with
    | .dk l => (dGet l (.inr s)).map fun d => (d, mu)
    | _ => none
  | _ => none
def rIxA (K : PySem.W.Frag) : R2 := fun x y H Q => rIx K x y H Q ∨ ∃ a v, x = .ref a ∧ DGet H a y (some v) ∧ Q v H
theorem ix_all {X : Cx} (hu : X.A.units + 1 < cLine) : IxR X (rIxA X.K) := ix_seq.or (ix_dict hu)
section
variable {K : PySem.W.Frag} {F H : Hp} {io : List Addr} {mu : Mu}
theorem atI_rep {xs : List V} {ds : List D} {i : Int} {d : D} (r : RepL K F io xs ds) (e : atI ds i = some d) : ∃ v, atI xs i = some v ∧ Rep K F io v d := by
  unfold atI at e ⊢
  rw [r.length]
  cases h : ixN ds.length i with
  | none => rw [h] at e; cases e
  | some j => rw [h] at e; exact r.get e
theorem Mem.rl {v : V} {d : D} {ds : List D} (M : Mem K F io H mu) (r : Rep K F io v d) (e : view mu d = .rl ds) : ∃ a xs, v = .ref a ∧ SqL K H a xs ∧ RepL K F io xs ds := by
  have e' : d = .rl ds := view_nocell e (fun _ => nofun) (fun _ => nofun)
  subst e'
  cases r with
  | rl h r => exact ⟨_, _, rfl, M.le.sql h, r⟩
theorem dget_rep {v : V} {d : D} {l : List (Key × D)} {k : Key} {y : D} (M : Mem K F io H mu) (r : Rep K F io v d) (e : view mu d = .dk l) (g : dGet l k = some y) : ∃ a w, v = .ref a ∧ DGet H a (kV k) (some w) ∧ Rep K F io w y := by
  obtain ⟨a, xs, rfl, h, r2⟩ := M.dk r e
  obtain ⟨w, e2, r3⟩ := r2.get g
  exact ⟨a, w, rfl, .inl ⟨xs, k, h, rfl, e2.symm⟩, r3⟩
theorem og_ix : OpD K (rIxA K) gIx := fun F io H mu x y dx dy Q M rx ry h => by
  have some_inv : ∀ {α : Type} {o : Option α} {f : α → D × Mu}, SatO K (Rep K) F io H (o.map f) Q → ∃ a, o = some a ∧ SatO K (Rep K) F io H (some (f a)) Q := fun {α o f} h => by
    cases o with
    | none => exact h.elim
    | some a => exact ⟨a, rfl, h⟩
  unfold gIx at h
  split at h
  · rename_i i
    have hy := ry.int_inv
    subst hy
    split at h
    · rename_i l e
      obtain ⟨d, e2, h⟩ := some_inv h
      obtain ⟨a, xs, rfl, ha, r⟩ := M.lst rx e
      obtain ⟨v, e3, r3⟩ := atI_rep r e2
      exact .inl (.inl ⟨a, xs, i, v, rfl, rfl, SqL.of ha, e3, satO_some h M r3⟩)
    · rename_i l e
      obtain ⟨d, e2, h⟩ := some_inv h
      obtain ⟨a, xs, rfl, ha, r⟩ := M.tup rx e
      obtain ⟨v, e3, r3⟩ := atI_rep r e2
      exact .inl (.inr (.inl ⟨a, xs, i, v, rfl, rfl, ha, e3, satO_some h M r3⟩))
    · rename_i l e
      obtain ⟨d, e2, h⟩ := some_inv h
      obtain ⟨a, xs, rfl, ha, r⟩ := M.rl rx e
      obtain ⟨v, e3, r3⟩ := atI_rep r e2
      exact .inl (.inl ⟨a, xs, i, v, rfl, rfl, ha, e3, satO_some h M r3⟩)
    · rename_i s e
      split at h
      · rename_i hl
        obtain ⟨c, e2, h⟩ := some_inv h
        have e' : _ = D.str _ := view_nocell e (fun _ => nofun) (fun _ => nofun)
        subst e'
        exact .inl (.inr (.inr ⟨s, i, c, rx.str_inv, rfl, by rw [sizeLine_eq]; omega, e2, satO_some h M .str⟩))
      · exact h.elim
    · rename_i l e
      obtain ⟨d, e2, h⟩ := some_inv h
      obtain ⟨a, w, rfl, g, r⟩ := dget_rep M rx e e2
      exact .inr ⟨a, w, rfl, g, satO_some h M r⟩
    · exact h.elim
  · rename_i s
    have hy := ry.str_inv
    subst hy
    split at h
    · rename_i l e
      obtain ⟨d, e2, h⟩ := some_inv h
      obtain ⟨a, w, rfl, g, r⟩ := dget_rep M rx e e2
      exact .inr ⟨a, w, rfl, g, satO_some h M r⟩
    · exact h.elim
  · exact h.elim

/-! ### built-in calls -/
theorem RepL.one_inv {vs : List V} {d : D} (r : RepL K F io vs [d]) : ∃ v, vs = [v] ∧ Rep K F io v d := by
  cases r with
  | cons r t => cases t; exact ⟨_, rfl, r⟩
theorem RepL.two_inv {vs : List V} {d e : D} (r : RepL K F io vs [d, e]) : ∃ v w, vs = [v, w] ∧ Rep K F io v d ∧ Rep K F io w e := by
  cases r with
  | cons r t => cases t with
    | cons r2 t => cases t; exact ⟨_, _, rfl, r, r2⟩
def gLen (mu : Mu) (ds : List D) : ORes D := match ds with
  | [x] => match view mu x with
    | .lst l => some (.int l.length, mu)
    | .tup l => some (.int l.length, mu)
    | .rl l => some (.int l.length, mu)
    | .str s => if s.length ≤ 1000000 then some (.int s.length, mu) else none
    | .dk l => match x with
      | .cell _ => some (.int l.length, mu)
      | _ => none
    | _ => none
  | _ => none
def rLenA (K : PySem.W.Frag) : List V → Hp → VK → Prop := fun xs H Q => (∃ x n, xs = [x] ∧ LenV K x H n ∧ Q (.int n) H) ∨ ∃ a kvs, xs = [V.ref a] ∧ H a = some (.dK kvs) ∧ Q (.int kvs.length) H
theorem call_lenA {X : Cx} : CallR X (.builtin "len") (rLenA X.K) := call_len.or call_lenD
theorem cg_len : CallD K (rLenA K) gLen := fun F io H mu vs ds Q M r h => by
  unfold gLen at h
  split at h
  · rename_i x
    obtain ⟨v, rfl, rx⟩ := r.one_inv
    split at h
    · rename_i l e
      obtain ⟨a, xs, rfl, ha, r2⟩ := M.lst rx e
      exact .inl ⟨_, xs.length, rfl, .inl ⟨xs, SqL.of ha, rfl⟩, by rw [r2.length]; exact satO_some h M .int⟩
    · rename_i l e
      obtain ⟨a, xs, rfl, ha, r2⟩ := M.tup rx e
      exact .inl ⟨_, xs.length, rfl, .inr ⟨xs, ha, rfl⟩, by rw [r2.length]; exact satO_some h M .int⟩
    · rename_i l e
      obtain ⟨a, xs, rfl, ha, r2⟩ := M.rl rx e
      exact .inl ⟨_, xs.length, rfl, .inl ⟨xs, ha, rfl⟩, by rw [r2.length]; exact satO_some h M .int⟩
    · rename_i s e
      split at h
      · rename_i hl
        have e' : _ = D.str _ := view_nocell e (fun _ => nofun) (fun _ => nofun)
        subst e'
        have := rx.str_inv
        subst this
        exact .inl ⟨_, s.length, rfl, ⟨by rw [sizeLine_eq]; omega, rfl⟩, satO_some h M .int⟩
      · exact h.elim
    · rename_i l e
      split at h
      · rename_i n
        have e2 : mu[n]? = some (.dk l) := by
          rw [view_cell] at e
          split at e
          · cases e
          · rename_i q; cases e; exact q
          · cases e
        obtain ⟨a, xs, rfl, hn, ha, r2⟩ := M.dkW rx e2
        exact .inr ⟨a, xs, rfl, ha, by rw [r2.length]; exact satO_some h M .int⟩
      · exact h.elim
    · exact h.elim
  · exact h.elim
def g1I (f : Int → Int) : Mu → List D → ORes D := fun mu ds => match ds with
  | [.int i] => some (.int (f i), mu)
  | _ => none
theorem cg_abs : CallD K (fun xs H Q => ∃ i, xs = [.int i] ∧ Q (.int (if i < 0 then -i else i)) H) (g1I fun i => if i < 0 then -i else i) := fun F io H mu vs ds Q M r h => by
  unfold g1I at h
  split at h
  · rename_i i
    obtain ⟨v, rfl, rx⟩ := r.one_inv
    exact ⟨i, by rw [rx.int_inv], satO_some h M .int⟩
  · exact h.elim
def g2I (f : Int → Int → Int) : Mu → List D → ORes D := fun mu ds => match ds with
  | [.int i, .int j] => some (.int (f i j), mu)
  | _ => none
/-- int(x) -/
def gInt (mu : Mu) (ds : List D) : ORes D := match ds with
  | [.int i] => some (.int i, mu)
  | [.bl b] => some (.int (if b then 1 else 0), mu)
  | _ => none
theorem cg_int : CallD K (fun xs H Q => (∃ i, xs = [.int i] ∧ Q (.int i) H) ∨ ∃ k, xs = [.bl k] ∧ Q (.int (if k then 1 else 0)) H) gInt := fun F io H mu vs ds Q M r h => by
  unfold gInt at h
  split at h
  · rename_i i
    obtain ⟨v, rfl, rx⟩ := r.one_inv
    exact .inl ⟨i, by rw [rx.int_inv], satO_some h M .int⟩
  · rename_i b
    obtain ⟨v, rfl, rx⟩ := r.one_inv
    exact .inr ⟨b, by rw [rx.bl_inv], satO_some h M .int⟩
  · exact h.elim
/-- the ints of a list of ints -/
def intsOf : List D → Option (List Int)
  | [] => some []
  | .int i :: ds => (intsOf ds).map fun l => i :: l
  | _ :: _ => none
theorem intsOf_map {l : List Int} : intsOf (l.map D.int) = some l := by
  induction l with
  | nil => rfl
  | cons i l ih => simp only [List.map_cons, intsOf, ih, Option.map_some]
theorem intsOf_inv : ∀ {ds : List D} {l : List Int}, intsOf ds = some l → ds = l.map D.int
  | [], _, e => by cases e; rfl
  | d :: ds, l, e => by
    cases d with
    | int i =>
      simp only [intsOf, Option.map_eq_some_iff] at e
      obtain ⟨k, e1, rfl⟩ := e
      rw [intsOf_inv e1]; rfl
    | _ => cases e
def blsOf : List D → Option (List Bool)
  | [] => some []
  | .bl i :: ds => (blsOf ds).map fun l => i :: l
  | _ :: _ => none
theorem blsOf_map {l : List Bool} : blsOf (l.map D.bl) = some l := by
  induction l with
  | nil => rfl
  | cons i l ih => simp only [List.map_cons, blsOf, ih, Option.map_some]
theorem blsOf_inv : ∀ {ds : List D} {l : List Bool}, blsOf ds = some l → ds = l.map D.bl
  | [], _, e => by cases e; rfl
  | d :: ds, l, e => by
    cases d with
    | bl i =>
      simp only [blsOf, Option.map_eq_some_iff] at e
      obtain ⟨k, e1, rfl⟩ := e
      rw [blsOf_inv e1]; rfl
    | _ => cases e
def strsOf : List D → Option (List Str)
  | [] => some []
  | .str i :: ds => (strsOf ds).map fun l => i :: l
  | _ :: _ => none
theorem strsOf_map {l : List Str} : strsOf (l.map D.str) = some l := by
  induction l with
  | nil => rfl
  | cons i l ih => simp only [List.map_cons, strsOf, ih, Option.map_some]
theorem strsOf_inv : ∀ {ds : List D} {l : List Str}, strsOf ds = some l → ds = l.map D.str
  | [], _, e => by cases e; rfl
  | d :: ds, l, e => by
    cases d with
    | str i =>
      simp only [strsOf, Option.map_eq_some_iff] at e
      obtain ⟨k, e1, rfl⟩ := e
      rw [strsOf_inv e1]; rfl
    | _ => cases e
/-- one argument, a list of ints -/
def gIL (f : List Int → Option D) : Mu → List D → ORes D := fun mu ds => match ds with
  | [x] => match view mu x with
    | .lst l => match intsOf l with
      | some ns => (f ns).map fun d => (d, mu)
      | none => none
    | _ => none
  | _ => none
theorem gIL_inv {f : List Int → Option D} {vs : List V} {ds : List D} {Q : VK} (M : Mem K F io H mu) (r : RepL K F io vs ds) (h : SatO K (Rep K) F io H (gIL f mu ds) Q) :
    ∃ a ns d, vs = [.ref a] ∧ SqL K H a (ns.map V.int) ∧ f ns = some d ∧ SatO K (Rep K) F io H (some (d, mu)) Q := by
  unfold gIL at h
  split at h
  · rename_i x
    obtain ⟨v, rfl, rx⟩ := r.one_inv
    split at h
    · rename_i l e
      split at h
      · rename_i ns e2
        obtain ⟨a, xs, rfl, ha, r2⟩ := M.lst rx e
        rw [intsOf_inv e2] at r2
        have := r2.ints
        subst this
        cases hf : f ns with
        | none => rw [hf] at h; exact h.elim
        | some d => rw [hf] at h; exact ⟨a, ns, d, rfl, SqL.of ha, hf, h⟩
      · exact h.elim
    · exact h.elim
  · exact h.elim
theorem cg_sum : CallD K (rSum K) (gIL fun ns => some (.int ns.sum)) := fun F io H mu vs ds Q M r h => by
  obtain ⟨a, ns, d, rfl, ha, e, h⟩ := gIL_inv M r h
  cases e
  exact ⟨a, ns, rfl, ha, satO_some h M .int⟩
/-- the greatest, the least of a list -/
def maxI : List Int → Int
  | [] => 0
  | [x] => x
  | x :: xs => max x (maxI xs)
def minI : List Int → Int
  | [] => 0
  | [x] => x
  | x :: xs => min x (minI xs)
theorem maxI_mem : ∀ {l : List Int}, l ≠ [] → maxI l ∈ l ∧ ∀ y, y ∈ l → y ≤ maxI l
  | [], h => absurd rfl h
  | [x], _ => ⟨List.mem_singleton.mpr rfl, fun y hy => by rw [List.mem_singleton.mp hy]; exact Int.le_refl _⟩
  | x :: z :: xs, _ => by
    obtain ⟨h1, h2⟩ := maxI_mem (l := z :: xs) (by simp)
    have e : maxI (x :: z :: xs) = max x (maxI (z :: xs)) := rfl
    rw [e]
    refine ⟨?_, fun y hy => ?_⟩
    · rcases Int.le_total x (maxI (z :: xs)) with h | h
      · rw [Int.max_eq_right h]; exact List.mem_cons_of_mem _ h1
      · rw [Int.max_eq_left h]; exact List.mem_cons_self
    · rcases List.mem_cons.mp hy with q | q
      · rw [q]; exact Int.le_max_left _ _
      · exact Int.le_trans (h2 y q) (Int.le_max_right _ _)
theorem minI_mem : ∀ {l : List Int}, l ≠ [] → minI l ∈ l ∧ ∀ y, y ∈ l → minI l ≤ y
  | [], h => absurd rfl h
  | [x], _ => ⟨List.mem_singleton.mpr rfl, fun y hy => by rw [List.mem_singleton.mp hy]; exact Int.le_refl _⟩
  | x :: z :: xs, _ => by
    obtain ⟨h1, h2⟩ := minI_mem (l := z :: xs) (by simp)
    have e : minI (x :: z :: xs) = min x (minI (z :: xs)) := rfl
    rw [e]
    refine ⟨?_, fun y hy => ?_⟩
    · rcases Int.le_total x (minI (z :: xs)) with h | h
      · rw [Int.min_eq_left h]; exact List.mem_cons_self
      · rw [Int.min_eq_right h]; exact List.mem_cons_of_mem _ h1
    · rcases List.mem_cons.mp hy with q | q
      · rw [q]; exact Int.min_le_left _ _
      · exact Int.le_trans (Int.min_le_right _ _) (h2 y q)
/-- max(xs), max(a, b) -/
def gMax (mu : Mu) (ds : List D) : ORes D := match ds with
  | [.int i, .int j] => some (.int (max i j), mu)
  | ds => gIL (fun ns => if ns.isEmpty then none else some (.int (maxI ns))) mu ds
def gMin (mu : Mu) (ds : List D) : ORes D := match ds with
  | [.int i, .int j] => some (.int (min i j), mu)
  | ds => gIL (fun ns => if ns.isEmpty then none else some (.int (minI ns))) mu ds
def rMaxA (K : PySem.W.Frag) : List V → Hp → VK → Prop := fun xs H Q => (∃ i j, xs = [.int i, .int j] ∧ Q (.int (if j > i then j else i)) H) ∨ rMax K xs H Q
def rMinA (K : PySem.W.Frag) : List V → Hp → VK → Prop := fun xs H Q => (∃ i j, xs = [.int i, .int j] ∧ Q (.int (if j < i then j else i)) H) ∨ rMin K xs H Q
theorem call_maxA {X : Cx} (hc : X.calm = true) : CallR X (.builtin "max") (rMaxA X.K) := (call_max2 hc).or (cr_max hc)
theorem call_minA {X : Cx} (hc : X.calm = true) : CallR X (.builtin "min") (rMinA X.K) := (call_min2 hc).or (cr_min hc)
theorem cg_max : CallD K (rMaxA K) gMax := fun F io H mu vs ds Q M r h => by
  unfold gMax at h
  split at h
  · rename_i i j
    obtain ⟨v, w, rfl, rx, ry⟩ := r.two_inv
    have := rx.int_inv
    subst this
    have := ry.int_inv
    subst this
    refine .inl ⟨i, j, rfl, ?_⟩
    have e : (if j > i then j else i) = max i j := by
      split
      · rw [Int.max_eq_right (by omega)]
      · rw [Int.max_eq_left (by omega)]
    rw [e]
    exact satO_some h M .int
  · obtain ⟨a, ns, d, rfl, ha, e, h⟩ := gIL_inv M r h
    split at e
    · cases e
    · rename_i hne
      cases e
      have hne : ns ≠ [] := fun z => hne (by rw [z]; rfl)
      obtain ⟨h1, h2⟩ := maxI_mem hne
      refine .inr ⟨a, ns, rfl, ha, by cases ns with
        | nil => exact absurd rfl hne
        | cons => simp, fun m hm hle => ?_⟩
      have : m = maxI ns := Int.le_antisymm (h2 m hm) (hle _ h1)
      rw [this]
      exact satO_some h M .int
theorem cg_min : CallD K (rMinA K) gMin := fun F io H mu vs ds Q M r h => by
  unfold gMin at h
  split at h
  · rename_i i j
    obtain ⟨v, w, rfl, rx, ry⟩ := r.two_inv
    have := rx.int_inv
    subst this
    have := ry.int_inv
    subst this
    refine .inl ⟨i, j, rfl, ?_⟩
    have e : (if j < i then j else i) = min i j := by
      split
      · rw [Int.min_eq_right (by omega)]
      · rw [Int.min_eq_left (by omega)]
    rw [e]
    exact satO_some h M .int
  · obtain ⟨a, ns, d, rfl, ha, e, h⟩ := gIL_inv M r h
    split at e
    · cases e
    · rename_i hne
      cases e
      have hne : ns ≠ [] := fun z => hne (by rw [z]; rfl)
      obtain ⟨h1, h2⟩ := minI_mem hne
      refine .inr ⟨a, ns, rfl, ha, by cases ns with
        | nil => exact absurd rfl hne
        | cons => simp, fun m hm hle => ?_⟩
      have : m = minI ns := Int.le_antisymm (hle _ h1) (h2 m hm)
      rw [this]
      exact satO_some h M .int
/-- all(xs), any(xs) of bools -/
def gBL (f : List Bool → Bool) : Mu → List D → ORes D := fun mu ds => match ds with
  | [x] => match view mu x with
    | .lst l => match blsOf l with
      | some ns => some (.bl (f ns), mu)
      | none => none
    | _ => none
  | _ => none
theorem gBL_inv {f : List Bool → Bool} {vs : List V} {ds : List D} {Q : VK} (M : Mem K F io H mu) (r : RepL K F io vs ds) (h : SatO K (Rep K) F io H (gBL f mu ds) Q) : ∃ a ns, vs = [.ref a] ∧ SqL K H a (ns.map V.bl) ∧ Q (.bl (f ns)) H := by
  unfold gBL at h
  split at h
  · rename_i x
    obtain ⟨v, rfl, rx⟩ := r.one_inv
    split at h
    · rename_i l e
      split at h
      · rename_i ns e2
        obtain ⟨a, xs, rfl, ha, r2⟩ := M.lst rx e
        rw [blsOf_inv e2] at r2
        have := r2.bls
        subst this
        exact ⟨a, ns, rfl, SqL.of ha, satO_some h M .bl⟩
      · exact h.elim
    · exact h.elim
  · exact h.elim
theorem cg_all : CallD K (rAll K) (gBL fun l => l.all id) := fun F io H mu vs ds Q M r h => let ⟨a, ns, e, ha, q⟩ := gBL_inv M r h; ⟨a, ns, e, ha, q⟩
theorem cg_any : CallD K (rAny K) (gBL fun l => l.any id) := fun F io H mu vs ds Q M r h => let ⟨a, ns, e, ha, q⟩ := gBL_inv M r h; ⟨a, ns, e, ha, q⟩
/-- list(x), tuple(x) of a list, a tuple -/
def seqOf (mu : Mu) (x : D) : Option (List D) := match view mu x with
  | .lst l => some l
  | .tup l => some l
  | .rl l => some l
  | _ => none
theorem seqOf_inv {x : D} {v : V} {l : List D} (M : Mem K F io H mu) (r : Rep K F io v x) (e : seqOf mu x = some l) : ∃ a xs, v = .ref a ∧ (SqL K H a xs ∨ SqT K H a xs) ∧ RepL K F io xs l := by
  unfold seqOf at e
  split at e
  · rename_i l' e'
    cases e
    obtain ⟨a, xs, rfl, ha, r2⟩ := M.lst r e'
    exact ⟨a, xs, rfl, .inl (SqL.of ha), r2⟩
  · rename_i l' e'
    cases e
    obtain ⟨a, xs, rfl, ha, r2⟩ := M.tup r e'
    exact ⟨a, xs, rfl, .inr ha, r2⟩
  · rename_i l' e'
    cases e
    obtain ⟨a, xs, rfl, ha, r2⟩ := M.rl r e'
    exact ⟨a, xs, rfl, .inl ha, r2⟩
  · cases e
def gList (b : Bool) (mu : Mu) (ds : List D) : ORes D := match ds with
  | [x] => match seqOf mu x with
    | some l => mk b (.lst l) mu
    | none => none
  | _ => none
theorem cg_list (b : Bool) : CallD K (fun xs H Q => ∃ p ys, xs = [.ref p] ∧ (SqL K H p ys ∨ SqT K H p ys) ∧ ∀ l, H l = none → Q (.ref l) (upd H l (.lst ys))) (gList b) := fun F io H mu vs ds Q M r h => by
  unfold gList at h
  split at h
  · rename_i x
    obtain ⟨v, rfl, rx⟩ := r.one_inv
    split at h
    · rename_i l e
      obtain ⟨a, xs, rfl, ha, r2⟩ := seqOf_inv M rx e
      exact ⟨a, xs, rfl, ha, fun p hp => sat_mk M h p _ hp ⟨xs, rfl, r2⟩⟩
    · exact h.elim
  · exact h.elim
def gTuple (mu : Mu) (ds : List D) : ORes D := match ds with
  | [x] => match view mu x with
    | .lst l => some (.tup l, mu)
    | .tup l => some (.tup l, mu)
    | .rl l => some (.tup l, mu)
    | _ => none
  | _ => none
theorem cg_tuple : CallD K (fun xs H Q => ∃ p ys, xs = [.ref p] ∧ ((SqL K H p ys ∧ ∀ l, H l = none → Q (.ref l) (upd H l (.tup ys))) ∨ (SqT K H p ys ∧ Q (.ref p) H))) gTuple := fun F io H mu vs ds Q M r h => by
  unfold gTuple at h
  split at h
  · rename_i x
    obtain ⟨v, rfl, rx⟩ := r.one_inv
    split at h
    · rename_i l e
      obtain ⟨a, xs, rfl, ha, r2⟩ := M.lst rx e
      exact ⟨a, xs, rfl, .inl ⟨SqL.of ha, fun p hp => h _ _ _ _ (M.stepF hp) (M.newF hp) (.tup (SqT.of upd_same) (r2.mono (Le.put (M.fresh hp)) Pre.rfl))⟩⟩
    · rename_i l e
      obtain ⟨a, xs, rfl, ha, r2⟩ := M.tup rx e
      have e' : x = .tup l := view_nocell e (fun _ => nofun) (fun _ => nofun)
      subst e'
      exact ⟨a, xs, rfl, .inr ⟨ha, satO_some h M rx⟩⟩
    · rename_i l e
      obtain ⟨a, xs, rfl, ha, r2⟩ := M.rl rx e
      exact ⟨a, xs, rfl, .inl ⟨ha, fun p hp => h _ _ _ _ (M.stepF hp) (M.newF hp) (.tup (SqT.of upd_same) (r2.mono (Le.put (M.fresh hp)) Pre.rfl))⟩⟩
    · exact h.elim
  · exact h.elim
/-! ### isinstance of built-in classes -/
def tyN (mu : Mu) (x : D) : Option String := match view mu x with
  | .non => some "NoneType"
  | .bl _ => some "bool"
  | .int _ => some "int"
  | .str _ => some "str"
  | .lst _ => some "list"
  | .rl _ => some "list"
  | .tup _ => some "tuple"
  | .dk _ => some "dict"
  | _ => none
theorem tyN_rep {x : D} {v : V} {n : String} (M : Mem K F io H mu) (r : Rep K F io v x) (e : tyN mu x = some n) : TyX K H v (.type n) := by
  unfold tyN at e
  split at e
  · rename_i e'; cases e; rw [view_nocell e' (fun _ => nofun) (fun _ => nofun)] at r; rw [r.non_inv]; exact .base .non
  · rename_i e'; cases e; rw [view_nocell e' (fun _ => nofun) (fun _ => nofun)] at r; rw [r.bl_inv]; exact .base (.bl _)
  · rename_i e'; cases e; rw [view_nocell e' (fun _ => nofun) (fun _ => nofun)] at r; rw [r.int_inv]; exact .base (.int _)
  · rename_i e'; cases e; rw [view_nocell e' (fun _ => nofun) (fun _ => nofun)] at r; rw [r.str_inv]; exact .base (.str _)
  · rename_i e'
    cases e
    obtain ⟨a, xs, rfl, ha, _⟩ := M.lst r e'
    exact .base (.lst ha)
  · rename_i e'
    cases e
    obtain ⟨a, xs, rfl, ha, _⟩ := M.rl r e'
    rcases ha with (ha | ⟨o, ha⟩) | ⟨o, its, k, ha, hc, _⟩
    · exact .base (.lst ha)
    · exact .base (.frz ha)
    · exact .kList ha hc
  · rename_i e'
    cases e
    obtain ⟨a, xs, rfl, ha, _⟩ := M.tup r e'
    rcases ha with (ha | ⟨o, ha⟩) | ⟨o, its, k, ha, hc, _⟩
    · exact .base (.tup ha)
    · exact .fTuple ha
    · exact .kTuple ha hc
  · rename_i e'
    cases e
    obtain ⟨a, xs, rfl, ha, _⟩ := M.dk r e'
    rcases ha with ha | ⟨o, ha⟩
    · exact .base (.dK ha)
    · exact .fDict ha
  · cases e
/-- is a value of the built-in type a one of the class b -/
def isiB (a b : String) : Option Bool :=
  if ["NoneType", "bool", "int", "str", "list", "tuple", "dict"].contains a && ["int", "bool", "str", "list", "tuple", "dict"].contains b then some (a == b || (a == "bool" && b == "int")) else none
theorem isiB_kit {a b : String} {r : Bool} (h : isiB a b = some r) : PySem.W.kitOne K (.type a) (.type b) = some r := by
  have key : ∀ x ∈ (["NoneType", "bool", "int", "str", "list", "tuple", "dict"] : List String), ∀ y ∈ (["int", "bool", "str", "list", "tuple", "dict"] : List String), kitB x y = isiB x y := by decide +kernel
  have h2 := h
  unfold isiB at h
  split at h
  · rename_i hc
    rw [Bool.and_eq_true] at hc
    exact kit_ty ((key a (List.contains_iff_mem.mp hc.1) b (List.contains_iff_mem.mp hc.2)).trans h2)
  · cases h
def isiL (a : String) : List D → Option Bool
  | [] => some false
  | .ty b :: cs => match isiB a b, isiL a cs with
    | some r, some q => some (r || q)
    | _, _ => none
  | _ :: _ => none
def gIsi (mu : Mu) (ds : List D) : ORes D := match ds with
  | [x, .ty b] => match tyN mu x with
    | some a => (isiB a b).map fun r => (.bl r, mu)
    | none => none
  | [x, .tup cs] => match tyN mu x with
    | some a => (isiL a cs).map fun r => (.bl r, mu)
    | none => none
  | _ => none
theorem isiL_kit {a : String} : ∀ {cs : List D} {vs : List V} {r : Bool}, RepL K F io vs cs → isiL a cs = some r → ∃ us, Paired ClsV vs us ∧ PySem.W.kitAny K (.type a) us = some r
  | [], _, r, .nil, h => by cases h; exact ⟨[], .nil, rfl⟩
  | c :: cs, _, r, .cons rc rs, h => by
    cases c with
    | ty b =>
      simp only [isiL] at h
      have := rc.ty_inv
      subst this
      split at h
      · rename_i r q e1 e2
        cases h
        obtain ⟨us, p, z⟩ := isiL_kit rs e2
        refine ⟨_ :: us, .cons (.ty b) p, kitAny_cons (isiB_kit e1) (fun y => ?_) (fun y => ?_)⟩
        · rw [y, Bool.false_or]; exact z
        · rw [y, Bool.true_or]
      · cases h
    | _ => cases h
/-- isinstance(x, (c1, c2, ..)), the tuple wherever it stands -/
def rIsiS (K : PySem.W.Frag) : List V → Hp → VK → Prop := fun xs H Q => ∃ (x : V) (tp : Addr) (cs : List V) (t : Value) (us : List Value) (b : Bool), xs = [x, .ref tp] ∧ SqT K H tp cs ∧ Paired ClsV cs us ∧ TyX K H x t ∧ PySem.W.kitAny K t us = some b ∧ Q (.bl b) H
theorem call_isiS {X : Cx} : CallR X (.builtin "isinstance") (rIsiS X.K) := by
  intro pins s σ H xs us Q I r h
  obtain ⟨x, tp, cs, t, ws, b, rfl, hT, k, ty, e, q⟩ := h
  obtain ⟨u1, u2, rfl, r1, r2⟩ := vals2 r
  cases (show u2 = Value.ref tp from r2)
  obtain ⟨P, Z, p, hx⟩ := kit_of I r1 ty
  obtain ⟨its, rv, ⟨o, h1, h2, n, h3⟩, _⟩ := I.tuple hT
  have e3 := ClsV.all k rv
  subst e3
  obtain ⟨oc, od, dt, sl⟩ := o
  simp only at h2 h3
  subst h2 h3
  exact PySem.W.kia_tup Z I.kIn p h1 e hx fun tk => ⟨.bl b, H, I.tok tk, rfl, q⟩
def rIsiA (K : PySem.W.Frag) : List V → Hp → VK → Prop := fun xs H Q => rIsi K xs H Q ∨ rIsiS K xs H Q
theorem call_isiA {X : Cx} : CallR X (.builtin "isinstance") (rIsiA X.K) := call_isi.or call_isiS
theorem cg_isi : CallD K (rIsiA K) gIsi := fun F io H mu vs ds Q M r h => by
  unfold gIsi at h
  split at h
  · rename_i x b
    obtain ⟨v, w, rfl, rx, ry⟩ := r.two_inv
    have := ry.ty_inv
    subst this
    split at h
    · rename_i a e
      cases e2 : isiB a b with
      | none => rw [e2] at h; exact h.elim
      | some r => rw [e2] at h; exact .inl ⟨v, _, _, _, r, rfl, .ty b, tyN_rep M rx e, isiB_kit e2, satO_some h M .bl⟩
    · exact h.elim
  · rename_i x cs
    obtain ⟨v, w, rfl, rx, ry⟩ := r.two_inv
    split at h
    · rename_i a e
      cases e2 : isiL a cs with
      | none => rw [e2] at h; exact h.elim
      | some rr =>
        rw [e2] at h
        obtain ⟨p, xs, rfl, hp, r2⟩ := M.tup ry rfl
        obtain ⟨us, pu, ku⟩ := isiL_kit r2 e2
        exact .inr ⟨v, p, xs, _, us, rr, rfl, hp, pu, tyN_rep M rx e, ku, satO_some h M .bl⟩
    · exact h.elim
  · exact h.elim

/-! ### methods of lists -/
def isLst (mu : Mu) (x : D) : Bool := match view mu x with
  | .lst _ => true
  | _ => false
theorem ty_lst : TyD K "list" isLst := fun F io H mu x dx M r e => by
  unfold isLst at e
  split at e
  · rename_i l e'
    obtain ⟨a, xs, rfl, ha, _⟩ := M.lst r e'
    exact .inl ⟨rfl, xs, SqL.of ha⟩
  · cases e
/-- xs.append(y), of a cell -/
def gAppend (mu : Mu) (x : D) (ds : List D) : ORes D := match x, ds with
  | .cell n, [y] => match mu[n]? with
    | some (.lst l) => if lim l.length then some (.non, mu.set n (.lst (l ++ [y]))) else none
    | _ => none
  | _, _ => none
theorem mg_append : MetD K rAppend gAppend := fun F io H mu x vs dx ds Q M rx r h => by
  unfold gAppend at h
  split at h
  · rename_i n y
    split at h
    · rename_i l e
      split at h
      · rename_i hl
        obtain ⟨a, xs, rfl, hn, ha, r2⟩ := M.lstW rx e
        obtain ⟨v, rfl, ry⟩ := r.one_inv
        exact ⟨a, xs, v, rfl, rfl, ha, by rw [r2.length]; exact lim_lt hl, h F io _ .non (Mem.stepW hn) (M.setC hn e nofun ⟨_, rfl, r2.append (.cons ry .nil)⟩) .non⟩
      · exact h.elim
    · exact h.elim
  · exact h.elim
/-- xs.extend(ys), of a cell -/
def gExtend (mu : Mu) (x : D) (ds : List D) : ORes D := match x, ds with
  | .cell n, [y] => match mu[n]?, view mu y with
    | some (.lst l), .lst k => if lim (l.length + k.length) then some (.non, mu.set n (.lst (l ++ k))) else none
    | _, _ => none
  | _, _ => none
theorem mg_extend : MetD K rExtend gExtend := fun F io H mu x vs dx ds Q M rx r h => by
  unfold gExtend at h
  split at h
  · rename_i n y
    split at h
    · rename_i l k e e2
      split at h
      · rename_i hl
        obtain ⟨a, xs, rfl, hn, ha, r2⟩ := M.lstW rx e
        obtain ⟨v, rfl, ry⟩ := r.one_inv
        obtain ⟨b, ys, rfl, hb, r3⟩ := M.lst ry e2
        exact ⟨a, b, xs, ys, rfl, rfl, ha, hb, by rw [r2.length, r3.length]; exact lim_line hl, h F io _ .non (Mem.stepW hn) (M.setC hn e nofun ⟨_, rfl, r2.append r3⟩) .non⟩
      · exact h.elim
    · exact h.elim
  · exact h.elim
/-- xs.pop(i), of a cell -/
def gPopAt (mu : Mu) (x : D) (ds : List D) : ORes D := match x, ds with
  | .cell n, [.int i] => match mu[n]? with
    | some (.lst l) => if 0 ≤ i ∧ i < 1000000 then (match l[i.toNat]? with
      | some y => some (y, mu.set n (.lst (l.eraseIdx i.toNat)))
      | none => none) else none
    | _ => none
  | _, _ => none
theorem mg_popAt : MetD K rPopAt gPopAt := fun F io H mu x vs dx ds Q M rx r h => by
  unfold gPopAt at h
  split at h
  · rename_i n i
    split at h
    · rename_i l e
      split at h
      · rename_i hi
        split at h
        · rename_i y ey
          obtain ⟨a, xs, rfl, hn, ha, r2⟩ := M.lstW rx e
          obtain ⟨v, rfl, ri⟩ := r.one_inv
          have := ri.int_inv
          subst this
          obtain ⟨w, ew, rw'⟩ := r2.get ey
          have hl : i.toNat < xs.length := (List.getElem?_eq_some_iff.mp ew).1
          exact ⟨a, xs, i, i.toNat, w, rfl, rfl, ha, by omega, by omega, PySem.seqIndex_of hi.1 (by omega), ew, h F io _ w (Mem.stepW hn) (M.setC hn e nofun ⟨_, rfl, r2.eraseIdx _⟩) rw'⟩
        · exact h.elim
      · exact h.elim
    · exact h.elim
  · exact h.elim
/-- xs.pop(), of a cell -/
def gPop (mu : Mu) (x : D) (ds : List D) : ORes D := match x, ds with
  | .cell n, [] => match mu[n]? with
    | some (.lst l) => match l[l.length - 1]? with
      | some y => some (y, mu.set n (.lst l.dropLast))
      | none => none
    | _ => none
  | _, _ => none
theorem RepL.dropLast {xs : List V} {ds : List D} (r : RepL K F io xs ds) : RepL K F io xs.dropLast ds.dropLast := by
  rw [List.dropLast_eq_take, List.dropLast_eq_take, r.length]; exact r.take _
theorem mg_pop : MetD K rPop gPop := fun F io H mu x vs dx ds Q M rx r h => by
  unfold gPop at h
  split at h
  · rename_i n
    split at h
    · rename_i l e
      split at h
      · rename_i y ey
        obtain ⟨a, xs, rfl, hn, ha, r2⟩ := M.lstW rx e
        cases r
        obtain ⟨w, ew, rw'⟩ := r2.get ey
        exact ⟨a, xs, w, rfl, rfl, ha, by rw [r2.length]; exact ew, h F io _ w (Mem.stepW hn) (M.setC hn e nofun ⟨_, rfl, r2.dropLast⟩) rw'⟩
      · exact h.elim
    · exact h.elim
  · exact h.elim

/-! ### what is walked -/
theorem PI_or {X : Cx} {tg e : Expr} {w w' : TI} (h : PI X tg e w) (h' : PI X tg e w') : PI X tg e (fun σ H R => w σ H R ∨ w' σ H R) := ⟨fun pins s σ H R I q => by
  rcases q with q | q
  · exact h.run pins s σ H R I q
  · exact h'.run pins s σ H R I q⟩
def mSeqI (me : DenE) : DenI := fun env mu => (me env mu).bind fun d m => match d with
  | .lst l => .ok l m
  | .tup l => .ok l m
  | .rl l => .ok l m
  | _ => .stuck
theorem itl_rep {a : Addr} {xs : List V} {ds : List D} (h : SqL K F a xs) (r : RepL K F io xs ds) : ItRep K F io (Itl K a) ds := fun F' jo H' mu' l p M => by
  have hs : SqL K H' a xs := M.le.sql (l.sql h)
  have r' := r.mono l p
  refine ⟨fun i d e => ?_, fun i hi => ⟨xs, hs, by rw [r.length]; exact hi⟩⟩
  obtain ⟨v, ev, rv⟩ := r'.get e
  refine ⟨⟨xs, v, hs, ev⟩, fun x H2 y => ?_⟩
  obtain ⟨rfl, y2⟩ := y
  have := y2 xs hs
  rw [ev] at this; cases this
  exact ⟨F', Step.rfl, M, rv⟩
theorem itt_rep {a : Addr} {xs : List V} {ds : List D} (h : SqT K F a xs) (r : RepL K F io xs ds) : ItRep K F io (Itt K a) ds := fun F' jo H' mu' l p M => by
  have hs : SqT K H' a xs := M.le.sqt (l.sqt h)
  have r' := r.mono l p
  refine ⟨fun i d e => ?_, fun i hi => ⟨xs, hs, by rw [r.length]; exact hi⟩⟩
  obtain ⟨v, ev, rv⟩ := r'.get e
  refine ⟨⟨xs, v, hs, ev⟩, fun x H2 y => ?_⟩
  obtain ⟨rfl, y2⟩ := y
  have := y2 xs hs
  rw [ev] at this; cases this
  exact ⟨F', Step.rfl, M, rv⟩
theorem di_seq {X : Cx} {W : WX} {tg e : Expr} {me : DenE} (he : DE X W e me) : DI X W tg e (mSeqI me) :=
  (PI_or (pi_list he) (pi_tup he)).imp fun σ H R ⟨F, io, env, mu, M, RR, h⟩ => by
    have h : Sat X.K (ItRep X.K) F io H (fun c dd H => W c dd σ H) ((me env mu).bind fun d m => match d with
      | .lst l => .ok l m
      | .tup l => .ok l m
      | .rl l => .ok l m
      | _ => .stuck) R := h
    cases q : me env mu with
    | stuck => rw [q] at h; exact h.elim
    | exc x m =>
      rw [q] at h
      refine .inl ⟨F, io, env, mu, M, RR, ?_⟩
      rw [q]; exact h
    | ok d m =>
      rw [q] at h
      cases d with
      | lst l =>
        refine .inl ⟨F, io, env, mu, M, RR, ?_⟩
        rw [q]
        intro F1 j1 H1 v s1 M1 r1
        cases r1 with
        | lst hf r => exact ⟨_, rfl, ⟨_, M1.le.sql (SqL.of hf)⟩, h F1 j1 H1 _ s1 M1 (itl_rep (SqL.of hf) r)⟩
      | rl l =>
        refine .inl ⟨F, io, env, mu, M, RR, ?_⟩
        rw [q]
        intro F1 j1 H1 v s1 M1 r1
        cases r1 with
        | rl hf r => exact ⟨_, rfl, ⟨_, M1.le.sql hf⟩, h F1 j1 H1 _ s1 M1 (itl_rep hf r)⟩
      | tup l =>
        refine .inr ⟨F, io, env, mu, M, RR, ?_⟩
        rw [q]
        intro F1 j1 H1 v s1 M1 r1
        cases r1 with
        | tup hf r => exact ⟨_, rfl, ⟨_, M1.le.sqt hf⟩, h F1 j1 H1 _ s1 M1 (itt_rep hf r)⟩
      | _ => exact h.elim
def rangeD (n : Int) : List D := (List.range n.toNat).map fun i => .int (i : Nat)
/-- range(n), range(a, b), in a for or a comprehension -/
def mRange1 (m : DenA) : DenI := fun env mu => (m env mu).bind fun ds m1 => match ds with
  | [.int n] => if -1000000000000 ≤ n ∧ n ≤ 1000000000000 then .ok (rangeD n) m1 else .stuck
  | _ => .stuck
def mRange2 (m : DenA) : DenI := fun env mu => (m env mu).bind fun ds m1 => match ds with
  | [.int a, .int b] => if -1000000000000 ≤ a ∧ a ≤ 1000000000000 ∧ -1000000000000 ≤ b ∧ b ≤ 1000000000000 then .ok ((List.range (b - a).toNat).map fun i => .int (a + (i : Nat))) m1 else .stuck
  | _ => .stuck
theorem itr_rep {lo : Int} {n : Nat} : ItRep K F io (Itr lo n) ((List.range n).map fun i => .int (lo + (i : Nat))) := fun F' jo H' mu' l p M => by
  refine ⟨fun i d e => ?_, fun i hi => ?_⟩
  · rw [List.getElem?_map] at e
    by_cases hi : i < n
    · rw [List.getElem?_range hi] at e
      cases e
      refine ⟨hi, fun x H2 y => ?_⟩
      obtain ⟨rfl, rfl⟩ := y
      exact ⟨F', Step.rfl, M, .int⟩
    · rw [List.getElem?_eq_none (by rw [List.length_range]; omega)] at e; cases e
  · rw [List.length_map, List.length_range] at hi
    exact hi
theorem di_range1 {X : Cx} {W : WX} {tg a : Expr} {m : DenA} {p pos : Pos} (hg : Gl X "range") (hm : X.mg "range" = none) (ha : DA X W [a] m) (hs : starEach [a] X.env = [(false, eval a X.env)] := by rfl) : DI X W tg (.Call (.Name "range" p) [a] [] pos) (mRange1 m) :=
  (pi_range1 hg hm ha hs).imp fun σ H R ⟨F, io, env, mu, M, RR, h⟩ => ⟨F, io, env, mu, M, RR, (Sat.bind h).imp fun vs H1 ⟨F1, j1, m1, ds, s1, M1, r1, q⟩ => by
    match ds, r1, q with
    | [.int n], r1, q =>
      obtain ⟨v, rfl, rx⟩ := r1.one_inv
      have := rx.int_inv
      subst this
      have q : Sat X.K (ItRep X.K) F1 j1 H1 (fun c dd H => W c dd σ H) (if -1000000000000 ≤ n ∧ n ≤ 1000000000000 then .ok (rangeD n) m1 else .stuck) R := q
      split at q
      · rename_i hn
        refine ⟨n, rfl, by omega, by omega, q F1 j1 H1 _ Step.rfl M1 ?_⟩
        have e := itr_rep (K := X.K) (F := F1) (io := j1) (lo := 0) (n := n.toNat)
        unfold rangeD
        simpa only [Int.zero_add] using e
      · exact q.elim⟩
theorem di_range2 {X : Cx} {W : WX} {tg a b : Expr} {m : DenA} {p pos : Pos} (hg : Gl X "range") (hm : X.mg "range" = none) (ha : DA X W [a, b] m) (hs : starEach [a, b] X.env = [(false, eval a X.env), (false, eval b X.env)] := by rfl) (hs2 : starEach [b] X.env = [(false, eval b X.env)] := by rfl) :
    DI X W tg (.Call (.Name "range" p) [a, b] [] pos) (mRange2 m) :=
  (pi_range2 hg hm ha hs hs2).imp fun σ H R ⟨F, io, env, mu, M, RR, h⟩ => ⟨F, io, env, mu, M, RR, (Sat.bind h).imp fun vs H1 ⟨F1, j1, m1, ds, s1, M1, r1, q⟩ => by
    match ds, r1, q with
    | [.int a, .int b], r1, q =>
      obtain ⟨v, w, rfl, rx, ry⟩ := r1.two_inv
      have := rx.int_inv
      subst this
      have := ry.int_inv
      subst this
      have q : Sat X.K (ItRep X.K) F1 j1 H1 (fun c dd H => W c dd σ H) (if -1000000000000 ≤ a ∧ a ≤ 1000000000000 ∧ -1000000000000 ≤ b ∧ b ≤ 1000000000000 then .ok ((List.range (b - a).toNat).map fun i => .int (a + (i : Nat))) m1 else .stuck) R := q
      split at q
      · rename_i hn
        exact ⟨a, b, rfl, ⟨by omega, by omega, by omega, by omega⟩, q F1 j1 H1 _ Step.rfl M1 itr_rep⟩
      · exact q.elim⟩
/-- zip(xs, ys) of two lists, of two tuples -/
def zipD : List D → List D → List D
  | x :: xs, y :: ys => .tup [x, y] :: zipD xs ys
  | _, _ => []
def mZip (m : DenA) : DenI := fun env mu => (m env mu).bind fun ds m1 => match ds with
  | [.lst l, .lst k] => .ok (zipD l k) m1
  | [.tup l, .tup k] => .ok (zipD l k) m1
  | _ => .stuck
theorem zipD_get : ∀ {l k : List D} {i : Nat} {d : D}, (zipD l k)[i]? = some d → ∃ x y, l[i]? = some x ∧ k[i]? = some y ∧ d = .tup [x, y]
  | [], _, _, _, e => by simp [zipD] at e
  | _ :: _, [], _, _, e => by simp [zipD] at e
  | x :: l, y :: k, 0, d, e => by simp [zipD] at e; exact ⟨x, y, rfl, rfl, e.symm⟩
  | x :: l, y :: k, i + 1, d, e => by
    simp only [zipD, List.getElem?_cons_succ] at e
    obtain ⟨a, b, h1, h2, h3⟩ := zipD_get e
    exact ⟨a, b, by simpa using h1, by simpa using h2, h3⟩
theorem zipD_len : ∀ {l k : List D} {i : Nat}, (zipD l k).length ≤ i → l.length ≤ i ∨ k.length ≤ i
  | [], _, _, _ => .inl (Nat.zero_le _)
  | _ :: _, [], _, _ => .inr (Nat.zero_le _)
  | x :: l, y :: k, i, h => by
    simp only [zipD, List.length_cons] at h ⊢
    cases i with
    | zero => omega
    | succ i =>
      rcases zipD_len (l := l) (k := k) (i := i) (by omega) with q | q
      · exact .inl (by omega)
      · exact .inr (by omega)
end
end DL

/-! DL6: zip, dict displays, stores by subscript, calls of a name that holds a def, methods of constants. -/
namespace DL
open PySem L2

section
variable {K : PySem.W.Frag} {F H : Hp} {io : List Addr} {mu : Mu}
theorem itz_rep {a b : Addr} {xs ys : List V} {l k : List D} (h : SqL K F a xs) (r : RepL K F io xs l) (h2 : SqL K F b ys) (r2 : RepL K F io ys k) : ItRep K F io (Itz K a b) (zipD l k) := fun F' jo H' mu' le p M => by
  have hs : SqL K H' a xs := M.le.sql (le.sql h)
  have hs2 : SqL K H' b ys := M.le.sql (le.sql h2)
  have r' := r.mono le p
  have r2' := r2.mono le p
  refine ⟨fun i d e => ?_, fun i hi => ⟨xs, ys, hs, hs2, ?_⟩⟩
  · obtain ⟨x, y, ex, ey, rfl⟩ := zipD_get e
    obtain ⟨v, ev, rv⟩ := r'.get ex
    obtain ⟨w, ew, rw'⟩ := r2'.get ey
    refine ⟨⟨xs, ys, v, w, hs, hs2, ev, ew⟩, fun z H2 q => ?_⟩
    obtain ⟨T, x', y', rfl, hT, rfl, q1, q2⟩ := q
    have e1 := q1 xs hs
    have e2 := q2 ys hs2
    rw [ev] at e1; cases e1
    rw [ew] at e2; cases e2
    have lp : Le F' (upd F' T (.tup [v, w])) := Le.put (M.fresh hT)
    exact ⟨_, M.stepF hT, M.newF hT, .tup (SqT.of upd_same) (.cons (rv.mono lp Pre.rfl) (.cons (rw'.mono lp Pre.rfl) .nil))⟩
  · rw [r.length, r2.length]; exact zipD_len hi
theorem itzT_rep {a b : Addr} {xs ys : List V} {l k : List D} (h : SqT K F a xs) (r : RepL K F io xs l) (h2 : SqT K F b ys) (r2 : RepL K F io ys k) : ItRep K F io (RZ.ItzT K a b) (zipD l k) := fun F' jo H' mu' le p M => by
  have hs : SqT K H' a xs := M.le.sqt (le.sqt h)
  have hs2 : SqT K H' b ys := M.le.sqt (le.sqt h2)
  have r' := r.mono le p
  have r2' := r2.mono le p
  refine ⟨fun i d e => ?_, fun i hi => ⟨xs, ys, hs, hs2, ?_⟩⟩
  · obtain ⟨x, y, ex, ey, rfl⟩ := zipD_get e
    obtain ⟨v, ev, rv⟩ := r'.get ex
    obtain ⟨w, ew, rw'⟩ := r2'.get ey
    refine ⟨⟨xs, ys, v, w, hs, hs2, ev, ew⟩, fun z H2 q => ?_⟩
    obtain ⟨T, x', y', rfl, hT, rfl, q1, q2⟩ := q
    have e1 := q1 xs hs
    have e2 := q2 ys hs2
    rw [ev] at e1; cases e1
    rw [ew] at e2; cases e2
    have lp : Le F' (upd F' T (.tup [v, w])) := Le.put (M.fresh hT)
    exact ⟨_, M.stepF hT, M.newF hT, .tup (SqT.of upd_same) (.cons (rv.mono lp Pre.rfl) (.cons (rw'.mono lp Pre.rfl) .nil))⟩
  · rw [r.length, r2.length]; exact zipD_len hi
end
section
variable {X : Cx} {W : WX}
theorem di_zip {e e2 : Expr} {m : DenA} {p pos tpos : Pos} {elts : List Expr} {kk : Nat} (hg : Gl X "zip") (hm : X.mg "zip" = none) (ha : DA X W [e, e2] m)
    (hs : starEach [e, e2] X.env = (false, eval e X.env) :: starEach [e2] X.env := by rfl) (hpl : (backTo pos (starEach [e2] X.env)).any (·.1) = false := by rfl) :
    DI X W (.Tuple elts kk tpos) (.Call (.Name "zip" p) [e, e2] [] pos) (mZip m) :=
  (RZ.pi_zipA hg hm ha hs hpl).imp fun σ H R ⟨F, io, env, mu, M, RR, h⟩ => ⟨F, io, env, mu, M, RR, (Sat.bind h).imp fun vs H1 ⟨F1, j1, m1, ds, s1, M1, r1, q⟩ => by
    match ds, r1, q with
    | [.lst l, .lst k], r1, q =>
      obtain ⟨v, w, rfl, rx, ry⟩ := r1.two_inv
      cases rx with
      | lst h1 q1 =>
        cases ry with
        | lst h2 q2 => exact ⟨_, _, _, _, rfl, .inl ⟨M1.le.sql (SqL.of h1), M1.le.sql (SqL.of h2), q F1 j1 H1 _ Step.rfl M1 (itz_rep (SqL.of h1) q1 (SqL.of h2) q2)⟩⟩
    | [.tup l, .tup k], r1, q =>
      obtain ⟨v, w, rfl, rx, ry⟩ := r1.two_inv
      cases rx with
      | tup h1 q1 =>
        cases ry with
        | tup h2 q2 => exact ⟨_, _, _, _, rfl, .inr ⟨M1.le.sqt h1, M1.le.sqt h2, q F1 j1 H1 _ Step.rfl M1 (itzT_rep h1 q1 h2 q2)⟩⟩⟩

/-! ### {k: v, ..}, a cell -/
def mPairs : List (DenE × DenE) → DEnv → Mu → Res (List (D × D))
  | [], _, mu => .ok [] mu
  | (k, v) :: r, env, mu => (k env mu).bind fun x m1 => (v env m1).bind fun y m2 => (mPairs r env m2).bind fun ps m3 => .ok ((x, y) :: ps) m3
def keysOf : List (D × D) → Option (List (Key × D))
  | [] => some []
  | (x, y) :: r => match keyOf x, keysOf r with
    | some k, some l => some ((k, y) :: l)
    | _, _ => none
def mergeD (l more : List (Key × D)) : List (Key × D) := more.foldl (fun acc kv => dPut acc kv.1 kv.2) l
def mDisp (prs : List (DenE × DenE)) : DenE := fun env mu => (mPairs prs env mu).bind fun ps m1 => match keysOf ps with
  | some l => if l.length ≤ 15 then .ofO (mk true (.dk (mergeD [] l)) m1) else .stuck
  | none => .stuck
/-- pairs of values -/
def RepP (K : PySem.W.Frag) (F : Hp) (io : List Addr) : List (V × V) → List (D × D) → Prop
  | [], [] => True
  | (v, w) :: r, (x, y) :: s => Rep K F io v x ∧ Rep K F io w y ∧ RepP K F io r s
  | _, _ => False
theorem RepP.mono {K : PySem.W.Frag} {F G : Hp} {io jo : List Addr} (l : Le F G) (p : Pre io jo) : ∀ {a : List (V × V)} {b : List (D × D)}, RepP K F io a b → RepP K G jo a b
  | [], [], h => h
  | (v, w) :: r, (x, y) :: s, h => ⟨h.1.mono l p, h.2.1.mono l p, RepP.mono l p h.2.2⟩
  | [], _ :: _, h => h.elim
  | _ :: _, [], h => h.elim
theorem tPairs_of {K : PySem.W.Frag} : ∀ (prs : List (DenE × DenE)) (σ : L2.St) (H : Hp) (Q : List (V × V) → Hp → Prop), (∃ F io env mu, Mem K F io H mu ∧ EnvR K F io σ env ∧ Sat K (RepP K) F io H (fun c dd H => W c dd σ H) (mPairs prs env mu) Q) →
    tPairs (prs.map fun p => (tE K W p.1, tE K W p.2)) σ H Q
  | [], σ, H, Q, ⟨F, io, env, mu, M, R, h⟩ => h F io H [] Step.rfl M True.intro
  | (k, v) :: r, σ, H, Q, ⟨F, io, env, mu, M, R, h⟩ => by
    refine ⟨F, io, env, mu, M, R, (Sat.bind h).imp fun x H1 ⟨F1, j1, m1, dx, s1, M1, r1, h1⟩ => ⟨F1, j1, env, m1, M1, R.step s1, (Sat.bind h1).imp fun y H2 ⟨F2, j2, m2, dy, s2, M2, r2, h2⟩ => ?_⟩⟩
    refine tPairs_of r σ H2 _ ⟨F2, j2, env, m2, M2, (R.step s1).step s2, (Sat.bind h2).imp fun ps H3 ⟨F3, j3, m3, ds, s3, M3, r3, h3⟩ => ?_⟩
    exact h3 F3 j3 H3 _ Step.rfl M3 ⟨r1.mono (s2.trans s3).le (s2.trans s3).pre, r2.mono s3.le s3.pre, r3⟩
theorem keysOf_rep {K : PySem.W.Frag} {F : Hp} {io : List Addr} : ∀ {ps : List (V × V)} {ds : List (D × D)} {l : List (Key × D)}, RepP K F io ps ds → keysOf ds = some l → ∃ kvs : List (Key × V), ps = kvs.map (fun kv => (kV kv.1, kv.2)) ∧ RepK K F io kvs l
  | [], [], l, _, e => by cases e; exact ⟨[], rfl, .nil⟩
  | (v, w) :: r, (x, y) :: s, l, h, e => by
    simp only [keysOf] at e
    split at e
    · rename_i k l' e1 e2
      cases e
      obtain ⟨kvs, rfl, rk⟩ := keysOf_rep h.2.2 e2
      refine ⟨(k, w) :: kvs, ?_, .cons h.2.1 rk⟩
      rw [keyOf_rep h.1 e1]; rfl
    · cases e
  | [], _ :: _, _, h, _ => h.elim
  | _ :: _, [], _, h, _ => h.elim
theorem merge_rep {K : PySem.W.Frag} {F : Hp} {io : List Addr} : ∀ {more : List (Key × V)} {dm : List (Key × D)} {l : List (Key × V)} {dl : List (Key × D)}, RepK K F io more dm → RepK K F io l dl → RepK K F io (mergeK l more) (mergeD dl dm)
  | _, _, _, _, .nil, r => r
  | _, _, l, dl, @RepK.cons _ _ _ k v d vs ds q t, r => by
    show RepK K F io (mergeK (putK l k v) vs) (mergeD (dPut dl k d) ds)
    exact merge_rep t (r.put q)
theorem de_disp {pos : Pos} {keys : List (Option Expr)} {values : List Expr} {prs : List (DenE × DenE)} (h : PPs X pos keys values (prs.map fun p => (tE X.K W p.1, tE X.K W p.2))) (hall : keys.all (·.isSome) = true) (hl : keys.length = values.length) (h0 : keys ≠ [])
    (h15 : keys.length ≤ 15) : DE X W (.Dict keys values pos) (mDisp prs) := (pe_disp h hall hl h0 h15).imp fun σ H Q ⟨F, io, env, mu, M, R, q⟩ p hp => by
  refine tPairs_of prs σ _ _ ⟨F, io, env, mu, M.newX hp, R, ?_⟩
  have q : Sat X.K (Rep X.K) F io H (fun c dd H => W c dd σ H) ((mPairs prs env mu).bind fun ps m1 => match keysOf ps with
    | some l => if l.length ≤ 15 then .ofO (mk true (.dk (mergeD [] l)) m1) else .stuck
    | none => .stuck) Q := q
  have s0 : Step F io H F io (upd H p (.dK [])) := M.stepX hp
  cases e : mPairs prs env mu with
  | stuck => rw [e] at q; exact q.elim
  | exc x m =>
    rw [e] at q
    exact Sat.step q s0
  | ok ps m1 =>
    rw [e] at q
    intro F2 j2 H2 vs s2 M2 r2
    have q : Sat X.K (Rep X.K) F io H (fun c dd H => W c dd σ H) (match keysOf ps with
      | some l => if l.length ≤ 15 then .ofO (mk true (.dk (mergeD [] l)) m1) else .stuck
      | none => .stuck) Q := q
    have hs := s0.trans s2
    have hpi : p ∉ io := M.notin hp
    have h2 : H2 p = some (.dK []) := s2.keep p _ upd_same hpi
    have f2 : F2 p = none := s2.fr p _ upd_same hpi (M.fresh hp)
    have n2 : p ∉ j2 := fun z => by
      have := s2.new p z hpi
      rw [upd_same] at this; cases this
    cases ek : keysOf ps with
    | none => rw [ek] at q; exact q.elim
    | some l =>
      rw [ek] at q
      have q : Sat X.K (Rep X.K) F io H (fun c dd H => W c dd σ H) (if l.length ≤ 15 then .ofO (mk true (.dk (mergeD [] l)) m1) else .stuck) Q := q
      by_cases hk : l.length ≤ 15
      · rw [if_pos hk] at q
        obtain ⟨kvs, rfl, rk⟩ := keysOf_rep r2 ek
        refine ⟨h2, kvs, rfl, by rw [rk.length]; exact hk, ?_⟩
        have M3 : Mem X.K F2 j2 (upd H2 p (.dK (mergeK [] kvs))) m1 := M2.setX n2 f2 h2
        have q : SatO X.K (Rep X.K) F io H (some (.cell m1.length, m1 ++ [.dk (mergeD [] l)])) Q := q
        refine q F2 (j2 ++ [p]) _ _ ⟨hs.le, hs.pre.trans Pre.app, fun a o ea na => ?_, fun a ha na => ?_, hs.fr⟩ (M3.adoptC upd_same f2 n2 ⟨_, rfl, merge_rep rk .nil⟩) (.cell M3.lenR)
        · rw [upd_ne (ne_of_none ea hp)]; exact hs.keep a o ea na
        · rcases List.mem_append.mp ha with z | z
          · exact hs.new a z na
          · rw [List.mem_singleton.mp z]; exact hp
      · rw [if_neg hk] at q; exact q.elim

/-! ### o[i] = v -/
theorem PSet_or {t t' : TSet} (h : PSet X t) (h' : PSet X t') : PSet X (fun o i v H Q => t o i v H Q ∨ t' o i v H Q) := by
  intro pins s σ H o i v ov iv u Q I ro ri rv q
  rcases q with q | q
  · exact h pins s σ H o i v ov iv u Q I ro ri rv q
  · exact h' pins s σ H o i v ov iv u Q I ro ri rv q
def gSet (mu : Mu) (o i v : D) : Option Mu := match o with
  | .cell n => match mu[n]? with
    | some (.dk l) => match keyOf i with
      | some k => if lim l.length then some (mu.set n (.dk (dPut l k v))) else none
      | none => none
    | some (.lst l) => match i with
      | .int j => match ixN l.length j with
        | some k => some (mu.set n (.lst (l.set k v)))
        | none => none
      | _ => none
    | _ => none
  | _ => none
def mSet (mv mo mi : DenE) : DenS := fun env mu => (mv env mu).andS env fun v m1 => (mo env m1).andS env fun o m2 => (mi env m2).andS env fun i m3 => match gSet m3 o i v with
  | some m4 => .nx env m4
  | none => .stuck
theorem ds_sub {o i value : Expr} {mo mi mv : DenE} {pos p : Pos} (hu : X.A.units + 1 < cLine) (ho : DE X W o mo) (hi : DE X W i mi) (hv : DE X W value mv)
    (hs : swapsWithSole [.Subscript o i p] value pos.line X.env = pure false := by rfl) (hw : swappedStores [.Subscript o i p] value X.env = pure none := by rfl)
    (h1 : (assignEach [.Subscript o i p] X.env).map (·.2) = [assign (.Subscript o i p) X.env] := by rfl)
    (ha : ∀ v, assign (.Subscript o i p) X.env v = (do
      let ov ← holding [v] (eval o X.env)
      let iv ← holding [v, ov] (eval i X.env)
      standAt p
      holding [v, ov, iv] (setItem ov iv v)
      release [v, ov, iv] []) := by intro _; rfl) : DS X W (.Assign [.Subscript o i p] value pos) (mSet mv mo mi) :=
  (ps_asg hv (pg_sub ho hi (PSet_or set_list (set_dict hu)) ha) hs hw h1).imp fun D σ H ⟨F, io, env, mu, M, R, h⟩ =>
    ⟨F, io, env, mu, M, R, (SatS.andS R h).imp fun v H1 ⟨F1, j1, m1, dv, s1, M1, r1, h1⟩ =>
      ⟨F1, j1, env, m1, M1, R.step s1, (SatS.andS (R.step s1) h1).imp fun o H2 ⟨F2, j2, m2, dO, s2, M2, r2, h2⟩ =>
        ⟨F2, j2, env, m2, M2, (R.step s1).step s2, (SatS.andS ((R.step s1).step s2) h2).imp fun i H3 ⟨F3, j3, m3, di, s3, M3, r3, h3⟩ => by
          have rv := r1.mono (s2.trans s3).le (s2.trans s3).pre
          have ro := r2.mono s3.le s3.pre
          have R3 := ((R.step s1).step s2).step s3
          have h3 : SatS X.K F3 j3 H3 W (match gSet m3 dO di dv with
            | some m4 => .nx env m4
            | none => .stuck) D := h3
          cases e : gSet m3 dO di dv with
          | none => rw [e] at h3; exact h3.elim
          | some m4 =>
            rw [e] at h3
            unfold gSet at e
            split at e
            · rename_i n
              split at e
              · rename_i l el
                split at e
                · rename_i k ek
                  split at e
                  · rename_i hl
                    cases e
                    obtain ⟨a, xs, rfl, hn, ha, rk⟩ := M3.dkW ro el
                    have := keyOf_rep r3 ek
                    subst this
                    exact .inr ⟨a, _, rfl, DPut.k ha (by rw [rk.length]; exact lim_lt hl), h3 F3 j3 _ σ (Mem.stepW hn) (M3.setC hn el nofun ⟨_, rfl, rk.put rv⟩) R3⟩
                  · cases e
                · cases e
              · rename_i l el
                split at e
                · rename_i j
                  split at e
                  · rename_i k ek
                    cases e
                    obtain ⟨a, xs, rfl, hn, ha, rk⟩ := M3.lstW ro el
                    have := r3.int_inv
                    subst this
                    exact .inl ⟨a, xs, j, k, rfl, rfl, ha, by rw [rk.length]; exact ek, h3 F3 j3 _ σ (Mem.stepW hn) (M3.setC hn el nofun ⟨_, rfl, rk.set rv k⟩) R3⟩
                  · cases e
                · cases e
              · cases e
            · cases e⟩⟩⟩

/-! ### a call of a name that holds a def -/
theorem held_of {P : Program} {w : World} {K : PySem.W.Frag} {mg : Str → Option Value} {base : Heap} {k : Nat} {f : Addr} {fd : FuncData} {ps : List Str} {sp : Sp} (Fn : FnOk P w K mg base (L2.CX P w) k f fd ps sp) (hk : PySem.W.keepIn K (.ref f) = true) (hb : Binds K fd ps []) :
    Held P w K mg base k f (fun vs H Q _ => sp vs H Q fun _ _ _ => False) := ⟨fd, ps, ⟨fun vs H Q E h => Fn.len vs H Q _ h, fun A outer s H args us vs Q E hr he hbt hv h =>
  codeAny_mono (Fn.run A outer s H args us vs Q (fun _ _ _ => False) hr he hbt hv h) fun r s' hq => by
    cases r with
    | error e =>
      obtain ⟨_, _, _, _, _, _, _, _, _, _, _, _, z⟩ := (show L2.CX P w outer H s (fun _ _ _ => False) e s' from hq)
      exact z.elim
    | ok fl =>
      cases fl with
      | ret u => exact hq
      | next => exact hq
      | brk => exact hq
      | cont => exact hq⟩, hk, hb⟩
/-- the defs that a name may hold: address, number of parameters, meaning -/
abbrev FTab := List (Addr × Nat × (List D → Mu → Res D))
def ftGet (T : FTab) (f : Addr) : Option (Nat × (List D → Mu → Res D)) := (T.find? fun p => decide (p.1 = f)).map (·.2)
def mCallV (i : Nat) (T : FTab) (m : DenA) : DenE := fun env mu => match env[i]? with
  | some (some (.ref f)) => match ftGet T f with
    | some (n, g) => (m env mu).noX.bind fun ds m1 => if ds.length = n then (g ds m1).noX else .stuck
    | none => .stuck
  | _ => .stuck
theorem de_callV {k i : Nat} {T : FTab} {x : Str} {p pos : Pos} {e : Expr} {es : List Expr} {m : DenA}
    (hT : ∀ q, q ∈ T → Held X.prog X.w X.K X.mg X.base k q.1 (fun vs H Q _ => spD X.K q.2.1 q.2.2 vs H Q fun _ _ _ => False)) (hr : Room k X.A) (hN : X.N[i]? = some x) (hv : Vis X.env.scope x) (ha : DA X W e' m) (hes : e' = e :: es)
    (hdb : (x == ("__debug__" : Str)) = false := by decide) (hcd : (x == ("__classdict__" : Str)) = false := by decide)
    (he : starEach (e :: es) X.env = (false, eval e X.env) :: starEach es X.env := by rfl) (hpl : (backTo pos (starEach es X.env)).any (·.1) = false := by rfl) : DE X W (.Call (.Name x p) (e :: es) [] pos) (mCallV i T m) := by
  subst hes
  refine (pe_callA (S := fun f => (ftGet T f).map fun q => fun vs H Q _ => spD X.K q.1 q.2 vs H Q fun _ _ _ => False) (fun f sp hf => ?_) hr hN hv ha hdb hcd he hpl).imp fun σ H Q ⟨F, io, env, mu, M, R, h⟩ => ?_
  · cases eq : ftGet T f with
    | none => rw [eq] at hf; cases hf
    | some q =>
      rw [eq] at hf
      cases hf
      unfold ftGet at eq
      cases e2 : T.find? (fun p => decide (p.1 = f)) with
      | none => rw [e2] at eq; cases eq
      | some t =>
        rw [e2] at eq
        cases eq
        have h1 := List.mem_of_find?_eq_some e2
        have h2 : t.1 = f := by simpa using List.find?_some e2
        rw [← h2]
        exact hT t h1
  · unfold mCallV at h
    cases e1 : env[i]? with
    | none => rw [e1] at h; exact h.elim
    | some o =>
      rw [e1] at h
      match o, e1, h with
      | some (.ref f), e1, h =>
        have h : Sat X.K (Rep X.K) F io H (fun c dd H => W c dd σ H) (match ftGet T f with
          | some (n, g) => (m env mu).noX.bind fun ds m1 => if ds.length = n then (g ds m1).noX else .stuck
          | none => .stuck) Q := h
        cases e2 : ftGet T f with
        | none => rw [e2] at h; exact h.elim
        | some q =>
          rw [e2] at h
          obtain ⟨n, g⟩ := q
          obtain ⟨v, ev, rv⟩ := R.2 i _ e1
          have := rv.ref_inv
          subst this
          have h : Sat X.K (Rep X.K) F io H (fun c dd H => W c dd σ H) ((m env mu).noX.bind fun ds m1 => if ds.length = n then (g ds m1).noX else .stuck) Q := h
          refine ⟨f, _, ev, (by show (ftGet T f).map _ = _; rw [e2]; rfl), F, io, env, mu, M, R, ?_⟩
          have h2 := sat_bindX (rep := RepL X.K) h Step.rfl
          cases em : m env mu with
          | stuck => rw [em] at h; exact h.elim
          | exc x m1 => rw [em] at h; exact h.elim
          | ok ds m1 =>
            rw [em] at h
            have h : Sat X.K (Rep X.K) F io H (fun c dd H => W c dd σ H) (if ds.length = n then (g ds m1).noX else .stuck) Q := h
            intro F1 j1 H1 vs s1 M1 r1
            by_cases hl : ds.length = n
            · rw [if_pos hl] at h
              exact ⟨by rw [r1.length]; exact hl, F1, j1, m1, ds, M1, r1, sat_noX (V := fun c dd H => W c dd σ H) (Sat.step h s1)⟩
            · rw [if_neg hl] at h; exact h.elim

/-! ### methods of a constant: c.m(e, ..) -/
def mMetC (d : D) (g : Mu → D → List D → ORes D) (m : DenA) : DenE := fun env mu => (m env mu).bind fun ds m1 => .ofO (g m1 d ds)
theorem de_bmC {o e : Expr} {es : List Expr} {m : DenA} {name : Str} {apos cpos : Pos} {T id : String} {r : V → List V → Hp → VK → Prop} {g : Mu → D → List D → ORes D} {v : V} {d : D} (pa : PlainAttrs T) (slot : Slot T name id)
    (hty : typeOf (.builtin id) = pure (.type "method_descriptor")) (hm : MtR X id r) (hT : ∀ H, tyV X.K T v H) (hr : ∀ F io, Rep X.K F io v d) (hg : MetD X.K r g) (ho : PE X o (tC v)) (ha : DA X W (e :: es) m)
    (hbase : attributeBase o name X.env (eval o X.env) = eval o X.env := by rfl)
    (hfew : ((backTo cpos (starEach (e :: es) X.env)).all (fun x => !x.1) && (backToKw cpos (keywordEach [] X.env)).all (fun x => x.1.isSome)
      && decide ((e :: es).length + ([] : List Keyword).length + (if ([] : List Keyword).isEmpty then 0 else 1) < 30)) = true := by rfl)
    (hline : (apos.endLine == cpos.line) = true := by rfl) (hs : starEach (e :: es) X.env = (false, eval e X.env) :: starEach es X.env := by rfl) (hplain : (backTo cpos (starEach es X.env)).any (·.1) = false := by rfl) :
    DE X W (.Call (.Attribute o name apos) (e :: es) [] cpos) (mMetC d g m) :=
  (pe_bm pa slot hty hm ho ha hbase hfew hline hs hplain).imp fun σ H Q ⟨F, io, env, mu, M, R, h⟩ => ⟨hT H, F, io, env, mu, M, R, (Sat.bind h).imp fun vs H1 ⟨F1, j1, m1, ds, s1, M1, r1, h1⟩ =>
    hg F1 j1 H1 m1 v vs d ds Q M1 (hr F1 j1) r1 (Sat.ofO h1)⟩
/-- t.index(x) of texts -/
def idxS (x : Str) : List Str → Option Nat
  | [] => none
  | y :: ys => if y = x then some 0 else (idxS x ys).map (· + 1)
theorem idxS_spec {x : Str} : ∀ {ys : List Str} {j : Nat}, idxS x ys = some j → ys[j]? = some x ∧ ∀ m, m < j → ys[m]? ≠ some x
  | [], _, e => by cases e
  | y :: ys, j, e => by
    simp only [idxS] at e
    split at e
    · rename_i h
      cases e
      exact ⟨by rw [h]; rfl, fun m hm => absurd hm (Nat.not_lt_zero m)⟩
    · rename_i h
      rw [Option.map_eq_some_iff] at e
      obtain ⟨k, e1, rfl⟩ := e
      obtain ⟨h1, h2⟩ := idxS_spec e1
      refine ⟨h1, fun m hm => ?_⟩
      cases m with
      | zero => exact fun z => h (Option.some.inj z)
      | succ m => exact h2 m (by omega)
def gIndex (mu : Mu) (x : D) (ds : List D) : ORes D := match x, ds with
  | .tup l, [.str z] => match strsOf l with
    | some ys => (idxS z ys).map fun j => (.int (j : Nat), mu)
    | none => none
  | _, _ => none
theorem mg_tup_index {K : PySem.W.Frag} : MetD K (fun x xs H Q => ∃ p, ∃ ys : List Str, ∃ z j, x = .ref p ∧ xs = [.str z] ∧ SqT K H p (ys.map V.str) ∧ ys[j]? = some z ∧ (∀ m, m < j → ys[m]? ≠ some z) ∧ Q (.int (j : Nat)) H) gIndex := fun F io H mu x vs dx ds Q M rx r h => by
  unfold gIndex at h
  split at h
  · rename_i l z
    split at h
    · rename_i ys e
      cases e2 : idxS z ys with
      | none => rw [e2] at h; exact h.elim
      | some j =>
        rw [e2] at h
        obtain ⟨v, rfl, rz⟩ := r.one_inv
        have := rz.str_inv
        subst this
        obtain ⟨a, xs, rfl, ha, r2⟩ := M.tup rx rfl
        rw [strsOf_inv e] at r2
        have := r2.strs'
        subst this
        obtain ⟨h1, h2⟩ := idxS_spec e2
        exact ⟨a, ys, z, j, rfl, rfl, ha, h1, h2, satO_some h M .int⟩
    · exact h.elim
  · exact h.elim
end
end DL

/-! DL7: what a program's text brings: defs, constants, built-in names; the end of a law. -/
namespace DL
open PySem L2

theorem bt_len : bootBuiltins "len" = some (.builtin "len") := by decide +kernel
theorem bt_abs : bootBuiltins "abs" = some (.builtin "abs") := by decide +kernel
theorem bt_max : bootBuiltins "max" = some (.builtin "max") := by decide +kernel
theorem bt_min : bootBuiltins "min" = some (.builtin "min") := by decide +kernel
theorem bt_sum : bootBuiltins "sum" = some (.builtin "sum") := by decide +kernel
theorem bt_all : bootBuiltins "all" = some (.builtin "all") := by decide +kernel
theorem bt_any : bootBuiltins "any" = some (.builtin "any") := by decide +kernel
theorem bt_isinstance : bootBuiltins "isinstance" = some (.builtin "isinstance") := by decide +kernel
theorem bt_int : bootBuiltins "int" = some (.type "int") := by decide +kernel
theorem bt_bool : bootBuiltins "bool" = some (.type "bool") := by decide +kernel
theorem bt_str : bootBuiltins "str" = some (.type "str") := by decide +kernel
theorem bt_list : bootBuiltins "list" = some (.type "list") := by decide +kernel
theorem bt_tuple : bootBuiltins "tuple" = some (.type "tuple") := by decide +kernel
theorem bt_dict : bootBuiltins "dict" = some (.type "dict") := by decide +kernel
theorem bt_set : bootBuiltins "set" = some (.type "set") := by decide +kernel
theorem bt_repr : bootBuiltins "repr" = some (.builtin "repr") := by decide +kernel
theorem bt_sorted : bootBuiltins "sorted" = some (.builtin "sorted") := by decide +kernel

section
variable {X : Cx} {W : WX}
/-- a, b, c = x, y, z -/
theorem ds_par3 {i j l : Nat} {x y z : Str} {a b c : Expr} {m : DenA} {px py pz pt pos : Pos} {kt k2 pt2} (hc : X.calm = true) (hN : X.N.Nodup) (hi : X.N[i]? = some x) (hj : X.N[j]? = some y) (hl : X.N[l]? = some z) (hij : i ≠ j) (hil : i ≠ l) (hjl : j ≠ l)
    (hx : X.env.scope.names.lookup x = some .local) (hy : X.env.scope.names.lookup y = some .local) (hz : X.env.scope.names.lookup z = some .local) (ha : DA X W [a, b, c] m)
    (hw : swappedStores [.Tuple [.Name x px, .Name y py, .Name z pz] kt pt] (.Tuple [a, b, c] k2 pt2) X.env = pure (some [x, y, z]))
    (hs : swapsWithSole [.Tuple [.Name x px, .Name y py, .Name z pz] kt pt] (.Tuple [a, b, c] k2 pt2) pos.line X.env = pure false := by rfl) :
    DS X W (.Assign [.Tuple [.Name x px, .Name y py, .Name z pz] kt pt] (.Tuple [a, b, c] k2 pt2) pos) (mPar3 i j l m) := (ps_par3 hc hN hi hj hl hij hil hjl hx hy hz ha hw hs).imp fun D σ H ⟨F, io, env, mu, M, R, h⟩ =>
  ⟨F, io, env, mu, M, R, (SatS.andS R h).imp fun vs H1 ⟨F1, j1, m1, ds, s1, M1, r1, q⟩ => by
    cases r1 with
    | nil => exact q.elim
    | cons ra r1 =>
      cases r1 with
      | nil => exact q.elim
      | cons rb r1 =>
        cases r1 with
        | nil => exact q.elim
        | cons rc r1 =>
          cases r1 with
          | nil => exact ⟨_, _, _, rfl, q F1 j1 H1 _ Step.rfl M1 ((((R.step s1).set ra).set rb).set rc)⟩
          | cons _ _ => exact q.elim⟩
end

/-- a def as the top has made it -/
structure FnF (K : PySem.W.Frag) (mg : Str → Option Value) (x : Str) (st : Stmt) (ps : List Str) where
  a : Addr
  fd : FuncData
  F : Fun K x x st a fd
  b : Binds K fd ps []
  g : mg x = some (.ref a)
def FnF.of {K : PySem.W.Frag} {h : Heap} {mg : Str → Option Value} {x : Str} {st : Stmt} {ps : List Str} {f : Addr} {oc : Value} {od an : Option Addr} {osl : Array (Option Value)} {kV doc pm cdv ct : Value} (KX : K.In h) (G : h.Ns mainGlobals mg)
    (hb : ∀ (kV doc pm : Value) (an : Option Addr) (cdv ct : Value) (us : List Value), us.length = ps.length → bindArgs (PySem.W.fnOf x x (defArgs st) (defBody st) (defScope st) .none kV doc pm an cdv ct) ⟨us, []⟩ = pure (ps.zip us))
    (e : PySem.W.nsIn K mainGlobals x = some (some (.ref f))) (l : K.lookup f = some ⟨oc, od, .func (PySem.W.fnOf x x (defArgs st) (defBody st) (defScope st) .none kV doc pm an cdv ct), osl⟩) (c : PySem.W.codeIn K cdv x = true) (k : PySem.W.keepIn K (.ref f) = true) : FnF K mg x st ps :=
  ⟨f, _, fun_mk l c k, (fun_mk l c k).binds hb, PySem.W.mg_of KX G e⟩
theorem FnF.ne {K : PySem.W.Frag} {mg : Str → Option Value} {x y : Str} {st su : Stmt} {ps qs : List Str} (A : FnF K mg x st ps) (B : FnF K mg y su qs) (h : x ≠ y) : A.a ≠ B.a := fun e => by
  obtain ⟨oc, od, kV, doc, pm, an, cdv, ct, osl, e1, l1, _⟩ := A.F.ex
  obtain ⟨oc', od', kV', doc', pm', an', cdv', ct', osl', e2, l2, _⟩ := B.F.ex
  rw [e, l2] at l1
  have : B.fd = A.fd := by
    injection l1 with l1
    injection l1 with _ _ l3 _
    injection l3
  rw [e1, e2] at this
  have z := congrArg FuncData.name this
  exact h z.symm

/-! ### constants of the text -/
def optL {α β : Type} (f : α → Option β) : List α → Option (List β)
  | [] => some []
  | v :: vs => match f v with
    | some d => match optL f vs with
      | some ds => some (d :: ds)
      | none => none
    | none => none
def atomK : Value → Option D
  | .none => some .non
  | .bool b => some (.bl b)
  | .int i _ => some (.int i)
  | .str x _ => some (.str x)
  | .type n => some (.ty n)
  | _ => none
/-- what a value of the written part is worth, so deep at most -/
def repK (K : PySem.W.Frag) : Nat → Value → Option D
  | 0, v => atomK v
  | n + 1, v => match v with
    | .ref a => match K.lookup a with
      | some ⟨.type "tuple", _, .seq its _, _⟩ => if its.size ≤ 1000000 then (match optL (repK K n) its.toList with
        | some ds => some (.tup ds)
        | none => none) else none
      | _ => none
    | v => atomK v
section
variable {K : PySem.W.Frag} {F : Hp} {io : List Addr}
theorem atomK_rep {u : Value} {d : D} (h : atomK u = some d) : ∃ v, RelV v u ∧ Rep K F io v d := by
  cases u with
  | none => cases h; exact ⟨.non, rfl, .non⟩
  | bool b => cases h; exact ⟨.bl b, rfl, .bl⟩
  | int i t => cases h; exact ⟨.int i, ⟨_, rfl⟩, .int⟩
  | str x t => cases h; exact ⟨.str x, ⟨_, rfl⟩, .str⟩
  | type n => cases h; exact ⟨.ty n, rfl, .ty⟩
  | _ => cases h
theorem optL_rep {f : Value → Option D} (hf : ∀ u d, f u = some d → ∃ v, RelV v u ∧ Rep K F io v d) : ∀ {us : List Value} {ds : List D}, optL f us = some ds → ∃ vs, Vals vs us ∧ RepL K F io vs ds
  | [], _, h => by cases h; exact ⟨[], .nil, .nil⟩
  | u :: us, ds, h => by
    simp only [optL] at h
    split at h
    · rename_i d e
      split at h
      · rename_i ds' e2
        cases h
        obtain ⟨v, r, q⟩ := hf u d e
        obtain ⟨vs, r2, q2⟩ := optL_rep hf e2
        exact ⟨v :: vs, .cons r r2, .cons q q2⟩
      · cases h
    · cases h
theorem repK_rep : ∀ (n : Nat) (u : Value) (d : D), repK K n u = some d → ∃ v, RelV v u ∧ Rep K F io v d
  | 0, u, d, h => atomK_rep h
  | n + 1, u, d, h => by
    unfold repK at h
    split at h
    · rename_i a
      split at h
      · rename_i dd its k sl e
        split at h
        · rename_i hz
          split at h
          · rename_i ds e2
            cases h
            obtain ⟨vs, r, q⟩ := optL_rep (repK_rep n) e2
            exact ⟨.ref a, rfl, .tup (.inr ⟨_, its, k, e, rfl, rfl, by rw [sizeLine_eq]; omega, r⟩) q⟩
          · cases h
        · cases h
      · cases h
    · exact atomK_rep h
/-- a constant of the text: its value, its worth -/
structure CnF (K : PySem.W.Frag) (mg : Str → Option Value) (x : Str) (d : D) where
  u : Value
  v : V
  g : mg x = some u
  rv : RelV v u
  rep : ∀ F io, Rep K F io v d
theorem cn_rep (n : Nat) {u : Value} {v : V} {d : D} (h : repK K n u = some d) (r : RelV v u) : ∀ F io, Rep K F io v d := fun F io => by
  obtain ⟨w, r2, q⟩ := repK_rep (F := F) (io := io) n u d h
  rw [r.inj r2]; exact q
def CnF.ref {h : Heap} {mg : Str → Option Value} {x : Str} {d : D} {a : Addr} (n : Nat) (KX : K.In h) (G : h.Ns mainGlobals mg) (e : PySem.W.nsIn K mainGlobals x = some (some (.ref a))) (hr : repK K n (.ref a) = some d) : CnF K mg x d :=
  ⟨.ref a, .ref a, PySem.W.mg_of KX G e, rfl, cn_rep n hr rfl⟩
def CnF.int {h : Heap} {mg : Str → Option Value} {x : Str} {i : Int} {t : Tok} (KX : K.In h) (G : h.Ns mainGlobals mg) (e : PySem.W.nsIn K mainGlobals x = some (some (.int i t))) : CnF K mg x (.int i) :=
  ⟨.int i t, .int i, PySem.W.mg_of KX G e, ⟨_, rfl⟩, fun _ _ => .int⟩
def CnF.str {h : Heap} {mg : Str → Option Value} {x : Str} {i : Str} {t : Tok} (KX : K.In h) (G : h.Ns mainGlobals mg) (e : PySem.W.nsIn K mainGlobals x = some (some (.str i t))) : CnF K mg x (.str i) :=
  ⟨.str i t, .str i, PySem.W.mg_of KX G e, ⟨_, rfl⟩, fun _ _ => .str⟩
/-- a constant tuple as the receiver of a method -/
theorem CnF.tupV {mg : Str → Option Value} {x : Str} {a : Addr} {o : Obj} (hl : K.lookup a = some o) (hc : o.cls = .type "tuple") (hd : o.dict = none) : ∀ H, tyV K "tuple" (.ref a) H := fun H => .inr (.inl ⟨rfl, o, hl, hc, hd⟩)
end

/-! ### the end of a law -/
theorem cx_none {P : Program} {w : World} {H : Hp} {s : Shared} {e : Value} {s' : Shared} (h : L2.CX P w [] H s (fun _ _ _ => False) e s') : False := by
  obtain ⟨_, _, _, _, _, _, _, _, _, _, _, _, z⟩ := h
  exact z
/-- the script, as data that is only read -/
def scriptD (ns : List Int) : D := .rl (ns.map D.int)
theorem repL_ints {K : PySem.W.Frag} {F : Hp} {io : List Addr} : ∀ ns : List Int, RepL K F io (ns.map V.int) (ns.map D.int)
  | [] => .nil
  | _ :: ns => .cons .int (repL_ints ns)
theorem walk_D {l : PySem.W.OpenLaw} {k : Nat} {q : Program} {loose : List Str} {XP : (Str → Option Value) → Heap → Prop} {YP : World → Heap → Prop} {d : DefRec} {K : Params → PySem.W.Frag} {x : Str}
    (hn : l.most = some 63) (hdf : d.params.defaults = []) (hr : Room k callerA) (hY : ∀ (w : World) (h : Heap), YP w h → (K w.params).In h)
    (F : ∀ (w : World) (mg : Str → Option Value) (fa : Addr) (h : Heap), (K w.params).In h → h.Ns mainGlobals mg → mg d.name = some (.ref fa) →
      ∃ (fd : FuncData) (g : List D → Mu → Res D), (∀ (s : Shared) (u : Value), BindsTo s fd ⟨[u], []⟩ [(x, u)]) ∧ (∀ base : Heap, (K w.params).In base → base.Ns mainGlobals mg → FnOk l.prog w (K w.params) mg base (L2.CX l.prog w) k fa fd [x] (spD (K w.params) 1 g)) ∧
        ∀ ns : List Int, ns.length ≤ 63 → ∃ mu, g [scriptD ns] [] = .ok (.bl true) mu) :
    PySem.W.WalkO q loose XP YP l.row.toRowW d [] (fun f vs => PySem.call f vs) := by
  refine L2.walk_of (n := 63) (k := k) (x := x) (CX := fun w => L2.CX l.prog w) (sp := fun w => fun vs H Q E => ∃ a ns, vs = [.ref a] ∧ SqL (K w.params) H a (ns.map V.int) ∧ ns.length ≤ 63 ∧ ∀ H', Q (.bl true) H') hn (by decide) hdf hr hY (fun w mg fa h KX G hmg => ?_) (fun w H a ns hl _ hS => ⟨a, ns, rfl, hS, hl, fun _ => rfl⟩) fun _ _ _ _ _ z => cx_none z
  obtain ⟨fd, g, hb, hF, hg⟩ := F w mg fa h KX G hmg
  refine ⟨fd, hb, fun base h1 h2 => (hF base h1 h2).imp fun vs H Q E ⟨a, ns, e, hS, hl, hq⟩ => ?_⟩
  subst e
  obtain ⟨mu, hg⟩ := hg ns hl
  refine ⟨rfl, H, [], [], [scriptD ns], ⟨Le.rfl, rfl, List.nodup_nil, fun _ m => absurd m (by simp), fun n a c e => by simp at e⟩, .cons (.rl hS (repL_ints ns)) .nil, ?_⟩
  rw [hg]
  intro F' jo H' v s M r
  rw [r.bl_inv]
  exact hq H'
end DL

/-! DL8: rules in the shape in which gen.py prints them. -/
namespace DL
open PySem L2
theorem hu65_of {A : Around} {k : Nat} (hr : Room k A) : A.units + 65 < cLine := by
  have := hr.un
  omega
section
variable {X : Cx} {W : WX}
theorem de_callN {k n : Nat} {f : Addr} {fd : FuncData} {ps : List Str} {x : Str} {p pos : Pos} {e : Expr} {es : List Expr} {m : DenA} {g : List D → Mu → Res D} (hg : Gl X x) (hl : ps.length = n) (F : FnOk X.prog X.w X.K X.mg X.base (L2.CX X.prog X.w) k f fd ps (spD X.K n g)) (tk : Takes X W) (hr : Room k X.A) (hm : X.mg x = some (.ref f)) (hk : PySem.W.keepIn X.K (.ref f) = true) (hb : Binds X.K fd ps [])
    (ha : DA X W (e :: es) m) (hdb : (x == ("__debug__" : Str)) = false := by decide) (he : starEach (e :: es) X.env = (false, eval e X.env) :: starEach es X.env := by rfl) (hpl : (backTo pos (starEach es X.env)).any (·.1) = false := by rfl) :
    DE X W (.Call (.Name x p) (e :: es) [] pos) (mCallF n g m) := by
  subst hl
  exact de_call F tk hr hg hm hk hb ha hdb he hpl
theorem de_ty {x : Str} {pos : Pos} {n : String} (hg : Gl X x) (hm : X.mg x = none) (hv : bootBuiltins x = some (.type n)) (hn : x ≠ "__name__" := by decide) (hd : (x == ("__debug__" : Str)) = false := by decide) : DE X W (.Name x pos) (mC (.ty n)) :=
  de_c (pe_bltn (v := .ty n) hg hm hv rfl hn hd) fun _ _ => .ty
theorem de_def {x : Str} {pos : Pos} {a : Addr} (hg : Gl X x) (hm : X.mg x = some (.ref a)) (hd : (x == ("__debug__" : Str)) = false := by decide) : DE X W (.Name x pos) (mC (.ref a)) := de_c (pe_glob (v := .ref a) hg hm rfl hd) fun _ _ => .ref
end
end DL

/-! DL9: evaluation of meanings: lemmas for comprehensions and loops; the drawing from the script (alike in every law). -/
namespace DL
open PySem L2

/-! ### evaluation -/
theorem bind_ok {α β : Type} {a : α} {m : Mu} {f : α → Mu → Res β} : (Res.ok a m).bind f = f a m := rfl
theorem andS_ok {α : Type} {a : α} {m : Mu} {env : DEnv} {f : α → Mu → SR} : (Res.ok a m).andS env f = f a m := rfl
theorem noX_ok {α : Type} {a : α} {m : Mu} : (Res.ok a m).noX = .ok a m := rfl
theorem ofO_some {α : Type} {p : α × Mu} : Res.ofO (some p) = .ok p.1 p.2 := rfl
theorem view_int {mu : Mu} {i : Int} : view mu (.int i) = .int i := rfl
theorem view_bl {mu : Mu} {i : Bool} : view mu (.bl i) = .bl i := rfl
theorem view_non {mu : Mu} : view mu .non = .non := rfl
theorem view_str {mu : Mu} {i : Str} : view mu (.str i) = .str i := rfl
theorem view_lst {mu : Mu} {l : List D} : view mu (.lst l) = .lst l := rfl
theorem view_tup {mu : Mu} {l : List D} : view mu (.tup l) = .tup l := rfl
theorem view_rl {mu : Mu} {l : List D} : view mu (.rl l) = .rl l := rfl
theorem view_dk {mu : Mu} {l : List (Key × D)} : view mu (.dk l) = .dk l := rfl
theorem lim_ok {n : Nat} (h : n ≤ 1000000) : lim n = true := decide_eq_true h

/-- how many bits: enough for every product here -/
theorem mulB_ok {i j : Int} (hi : (Builtin.Int.intBits i) ≤ 60000000) (hj : (Builtin.Int.intBits j) ≤ 60000000) : mulB i j = true := decide_eq_true (by omega)


/-! rules of evaluation -/
def itemsD : D → Option (List D)
  | .lst l => some l
  | .tup l => some l
  | .rl l => some l
  | _ => none
def zipO : D → D → Option (List D)
  | .lst l, .lst k => some (zipD l k)
  | .tup l, .tup k => some (zipD l k)
  | _, _ => none
def seqGo (sb : DenS) : SR → SR
  | .nx e m => sb e m
  | r => r
section
variable {env e' env0 : DEnv} {mu m1 m2 m3 m4 m5 : Mu} {ma mb mc me : DenE} {ta tb : DenT} {x y z v w d : D} {c c' : Bool} {n i j k : Nat}
theorem mVar_ok (h : env[i]? = some (some d)) : mVar i env mu = .ok d mu := by unfold mVar; rw [h]
theorem mC_ok : mC d env mu = .ok d mu := rfl
theorem mOp_ok {g : Mu → D → D → ORes D} (h1 : ma env mu = .ok x m1) (h2 : mb env m1 = .ok y m2) (h3 : g m2 x y = some (z, m3)) : mOp g ma mb env mu = .ok z m3 := by
  unfold mOp; rw [h1, bind_ok, h2, bind_ok, h3]; rfl
theorem mUn_ok {g : Mu → D → ORes D} (h1 : ma env mu = .ok x m1) (h3 : g m1 x = some (z, m3)) : mUn g ma env mu = .ok z m3 := by
  unfold mUn; rw [h1, bind_ok, h3]; rfl
theorem mTest_ok (h1 : ma env mu = .ok (.bl c) m1) : mTest ma env mu = .ok c m1 := by unfold mTest; rw [h1, bind_ok]
theorem mTAnd_ok {r : Res Bool} (h1 : ta env mu = .ok c m1) (h2 : (if c = true then tb env m1 else .ok false m1) = r) : mTAnd ta tb env mu = r := by unfold mTAnd; rw [h1, bind_ok]; exact h2
theorem mTOr_ok {r : Res Bool} (h1 : ta env mu = .ok c m1) (h2 : (if c = true then .ok true m1 else tb env m1) = r) : mTOr ta tb env mu = r := by unfold mTOr; rw [h1, bind_ok]; exact h2
theorem mTNot_ok (h1 : ta env mu = .ok c m1) : mTNot ta env mu = .ok (!c) m1 := by unfold mTNot; rw [h1, bind_ok]
theorem mAnd_ok {r : Res D} (h1 : ma env mu = .ok (.bl c) m1) (h2 : (if c = true then mb env m1 else .ok (.bl false) m1) = r) : mAnd ma mb env mu = r := by unfold mAnd; rw [h1, bind_ok]; exact h2
theorem mOr_ok {r : Res D} (h1 : ma env mu = .ok (.bl c) m1) (h2 : (if c = true then .ok (.bl true) m1 else mb env m1) = r) : mOr ma mb env mu = r := by unfold mOr; rw [h1, bind_ok]; exact h2
theorem mNot_ok (h1 : ma env mu = .ok (.bl c) m1) : mNot ma env mu = .ok (.bl (!c)) m1 := by unfold mNot; rw [h1, bind_ok]
theorem mIf_ok {r : Res D} (h1 : ta env mu = .ok c m1) (h2 : (if c = true then ma env m1 else mb env m1) = r) : mIf ta ma mb env mu = r := by unfold mIf; rw [h1, bind_ok]; exact h2
theorem ite_t {α : Type} {a b r : α} (h : c = true) (k : a = r) : (if c = true then a else b) = r := by rw [if_pos h]; exact k
theorem ite_f {α : Type} {a b r : α} (h : c = false) (k : b = r) : (if c = true then a else b) = r := by rw [if_neg (by rw [h]; decide)]; exact k
theorem mChain_ok {g g' : Mu → D → D → ORes D} {r : Res D} (h1 : ma env mu = .ok x m1) (h2 : mb env m1 = .ok y m2) (h3 : g m2 x y = some (.bl c, m3)) (h4 : (if c = true then (mc env m3).bind (fun w m4 => .ofO (g' m4 y w)) else .ok (.bl false) m3) = r) : mChain g g' ma mb mc env mu = r := by
  unfold mChain; rw [h1, bind_ok, h2, bind_ok, h3]
  cases c with
  | true => rw [if_pos rfl] at h4; exact h4
  | false => rw [if_neg Bool.false_ne_true] at h4; exact h4
theorem bindO_ok {g : Mu → D → D → ORes D} (h1 : mc env m3 = .ok w m4) (h2 : g m4 y w = some (z, m5)) : ((mc env m3).bind fun w m4 => .ofO (g m4 y w)) = .ok z m5 := by rw [h1, bind_ok, h2]; rfl
variable {ds es : List D} {am : DenA}
theorem mNil_ok : mNil env mu = .ok [] mu := rfl
theorem mCons_ok (h1 : ma env mu = .ok x m1) (h2 : am env m1 = .ok ds m2) : mCons ma am env mu = .ok (x :: ds) m2 := by unfold mCons; rw [h1, bind_ok, h2, bind_ok]
theorem mTup_ok (h1 : am env mu = .ok ds m1) (h2 : lim ds.length = true) : mTup am env mu = .ok (.tup ds) m1 := by unfold mTup; rw [h1, bind_ok, h2]; rfl
theorem mLst_ok (h1 : am env mu = .ok ds m1) (h2 : lim ds.length = true) : mLst false am env mu = .ok (.lst ds) m1 := by unfold mLst; rw [h1, bind_ok, h2]; rfl
theorem mLst_okC (h1 : am env mu = .ok ds m1) (h2 : lim ds.length = true) : mLst true am env mu = .ok (.cell m1.length) (m1 ++ [.lst ds]) := by unfold mLst; rw [h1, bind_ok, h2]; rfl
theorem mCall_ok {g : Mu → List D → ORes D} (h1 : am env mu = .ok ds m1) (h2 : g m1 ds = some (z, m2)) : mCall g am env mu = .ok z m2 := by unfold mCall; rw [h1, bind_ok, h2]; rfl
theorem mMet_ok {ty : Mu → D → Bool} {g : Mu → D → List D → ORes D} (h1 : ma env mu = .ok x m1) (h2 : ty m1 x = true) (h3 : am env m1 = .ok ds m2) (h4 : g m2 x ds = some (z, m3)) : mMet ty g ma am env mu = .ok z m3 := by
  unfold mMet; rw [h1, bind_ok, h2, if_pos rfl, h3, bind_ok, h4]; rfl
theorem mMetC_ok {g : Mu → D → List D → ORes D} (h3 : am env mu = .ok ds m2) (h4 : g m2 d ds = some (z, m3)) : mMetC d g am env mu = .ok z m3 := by unfold mMetC; rw [h3, bind_ok, h4]; rfl
theorem mCallF_ok {g : List D → Mu → Res D} (h1 : am env mu = .ok ds m1) (h2 : ds.length = n) (h3 : g ds m1 = .ok z m2) : mCallF n g am env mu = .ok z m2 := by unfold mCallF; rw [h1, bind_ok, if_pos h2, h3]
theorem mCallV_ok {T : FTab} {f : Addr} {g : List D → Mu → Res D} (h0 : env[i]? = some (some (.ref f))) (hT : ftGet T f = some (n, g)) (h1 : am env mu = .ok ds m1) (h2 : ds.length = n) (h3 : g ds m1 = .ok z m2) : mCallV i T am env mu = .ok z m2 := by
  unfold mCallV; rw [h0]; simp only [hT]; rw [h1, noX_ok, bind_ok, if_pos h2, h3]; rfl
variable {sa sb : DenS} {r r1 : SR} {mg : DenG} {mi : DenI}
theorem mSeq_nx (h1 : sa env mu = .nx e' m1) (h2 : sb e' m1 = r) : mSeq sa sb env mu = r := by unfold mSeq; rw [h1]; exact h2
theorem mSeq_rt (h1 : sa env mu = .rt d m1) : mSeq sa sb env mu = .rt d m1 := by unfold mSeq; rw [h1]
theorem mSeq_eq (h1 : sa env mu = r1) (h2 : seqGo sb r1 = r) : mSeq sa sb env mu = r := by
  rw [← h2, ← h1]
  unfold mSeq seqGo
  cases sa env mu <;> rfl
theorem seqNx (h : sb e' m1 = r) : seqGo sb (.nx e' m1) = r := h
theorem seqRt : seqGo sb (.rt d m1) = .rt d m1 := rfl
theorem mSkip_ok : mSkip env mu = .nx env mu := rfl
theorem mRetN_ok : mRetN env mu = .rt .non mu := rfl
theorem mRet_ok (h1 : ma env mu = .ok d m1) : mRet ma env mu = .rt d m1 := by unfold mRet; rw [h1]; rfl
theorem mExpr_ok (h1 : ma env mu = .ok d m1) : mExpr ma env mu = .nx env m1 := by unfold mExpr; rw [h1]; rfl
theorem mAsg_ok (h1 : ma env mu = .ok d m1) (h2 : mg d env m1 = .ok e' m2) : mAsg ma mg env mu = .nx e' m2 := by unfold mAsg; rw [h1, andS_ok, h2, andS_ok]
theorem mGName_ok (h : env.set i (some d) = e') : mGName i d env mu = .ok e' mu := by unfold mGName; rw [h]
theorem mGTup_ok {ms : DenGs} {rr : Res DEnv} (hl : ds.length = n) (h : ms ds env mu = rr) : mGTup n ms (.tup ds) env mu = rr := by unfold mGTup; simp only [hl, if_true]; exact h
theorem mGCons_ok {ms : DenGs} {rr : Res DEnv} (h1 : mg d env mu = .ok e' m1) (h : ms ds e' m1 = rr) : mGCons mg ms (d :: ds) env mu = rr := by show (mg d env mu).bind _ = _; rw [h1, bind_ok]; exact h
theorem mGNil_ok : mGNil [] env mu = .ok env mu := rfl
theorem mPar_ok (h1 : am env mu = .ok [x, y] m1) (h2 : (env.set i (some x)).set j (some y) = e') : mPar i j am env mu = .nx e' m1 := by unfold mPar; rw [h1, andS_ok]; subst h2; rfl
theorem mPar3_ok (h1 : am env mu = .ok [x, y, z] m1) (h2 : ((env.set i (some x)).set j (some y)).set k (some z) = e') : mPar3 i j k am env mu = .nx e' m1 := by unfold mPar3; rw [h1, andS_ok]; subst h2; rfl
theorem mIfS_ok (h1 : ta env mu = .ok c m1) (h2 : (if c = true then sa env m1 else sb env m1) = r) : mIfS ta sa sb env mu = r := by unfold mIfS; rw [h1, andS_ok]; exact h2
theorem mFor_ok (h1 : mi env mu = .ok ds m1) (h2 : forL mg sb ds env m1 = r) : mFor mi mg sb env mu = r := by unfold mFor; rw [h1, andS_ok]; exact h2
theorem mSet_ok (h1 : ma env mu = .ok v m1) (h2 : mb env m1 = .ok x m2) (h3 : mc env m2 = .ok y m3) (h4 : gSet m3 x y v = some m4) : mSet ma mb mc env mu = .nx env m4 := by
  unfold mSet; rw [h1, andS_ok, h2, andS_ok, h3, andS_ok, h4]
theorem mSeqI_ok (h : ma env mu = .ok d m1) (h2 : itemsD d = some ds) : mSeqI ma env mu = .ok ds m1 := by
  unfold mSeqI; rw [h, bind_ok]
  cases d <;> cases h2 <;> rfl
theorem mRange1_ok {n : Int} (h : am env mu = .ok [.int n] m1) (h0 : -1000000000000 ≤ n ∧ n ≤ 1000000000000) : mRange1 am env mu = .ok (rangeD n) m1 := by unfold mRange1; rw [h, bind_ok]; simp only [h0, and_self, if_true]
theorem mZip_ok (h : am env mu = .ok [x, y] m1) (h2 : zipO x y = some ds) : mZip am env mu = .ok ds m1 := by
  unfold mZip; rw [h, bind_ok]
  cases x <;> cases y <;> cases h2 <;> rfl
theorem mFrz_ok {l : List D} (h1 : env[i]? = some (some (.cell n))) (h2 : mu[n]? = some (.lst l)) (h3 : sa (env.set i (some (.lst l))) (mu.set n .dead) = r) : mFrz i sa env mu = r := by unfold mFrz; rw [h1]; simp only [h2]; exact h3
theorem denF_rt {N : List Str} {m : DenS} (h0 : startD N ds = env0) (h : m env0 mu = .rt d m1) : denF N m ds mu = .ok d m1 := by unfold denF; rw [h0, h]
theorem denF_nx {N : List Str} {m : DenS} (h0 : startD N ds = env0) (h : m env0 mu = .nx e' m1) : denF N m ds mu = .ok .non m1 := by unfold denF; rw [h0, h]
theorem gMul_ok {b : Bool} {i j : Int} (h : mulB i j = true) : gMul b mu (.int i) (.int j) = some (.int (i * j), mu) := by unfold gMul; simp only [h, if_true]
theorem gMod_ok {i j : Int} (h : 0 < j) : gMod mu (.int i) (.int j) = some (.int (i % j), mu) := by
  unfold gMod gII; have : modB i j = true := decide_eq_true h
  simp only [this, if_true]
theorem gFdiv_ok {i j : Int} (h : 0 < j) (h2 : j.natAbs.log2 < 9000) : gFdiv mu (.int i) (.int j) = some (.int (i / j), mu) := by
  unfold gFdiv gII; have : divB i j = true := decide_eq_true ⟨h, h2⟩
  simp only [this, if_true]
theorem gPow_ok {i : Int} {j : Nat} (h : (Builtin.Int.intBits i : Int) * j ≤ 2 ^ 27) : gPow mu (.int i) (.int j) = some (.int (i ^ j), mu) := by
  unfold gPow gII; have : powB i j = true := decide_eq_true ⟨by omega, h⟩
  simp only [this, if_true, Int.toNat_natCast]
theorem gSub_ok {i j : Int} : gSub mu (.int i) (.int j) = some (.int (i - j), mu) := rfl
theorem gAdd_ok {b : Bool} {i j : Int} : gAdd b mu (.int i) (.int j) = some (.int (i + j), mu) := rfl
theorem gEq_ok {neg : Bool} {i j : Int} : gEq neg mu (.int i) (.int j) = some (.bl (if neg then !decide (i = j) else decide (i = j)), mu) := rfl
theorem gEqI {i j : Int} : gEq false mu (.int i) (.int j) = some (.bl (decide (i = j)), mu) := rfl
theorem gNeI {i j : Int} : gEq true mu (.int i) (.int j) = some (.bl (!decide (i = j)), mu) := rfl
theorem gLt_ok {i j : Int} : gLt mu (.int i) (.int j) = some (.bl (decide (i < j)), mu) := rfl
theorem gLe_ok {i j : Int} : gLe mu (.int i) (.int j) = some (.bl (decide (i ≤ j)), mu) := rfl
theorem gGt_ok {i j : Int} : gGt mu (.int i) (.int j) = some (.bl (decide (j < i)), mu) := rfl
theorem gGe_ok {i j : Int} : gGe mu (.int i) (.int j) = some (.bl (decide (j ≤ i)), mu) := rfl
theorem gInt_ok {i : Int} : gInt mu [.int i] = some (.int i, mu) := rfl
end
section
variable {mg : DenG} {mt : DenT} {me : DenE} {env0 env : DEnv} {mu : Mu} {mi : DenI} {own : List Nat} {α : Type}
theorem lcL_filter (enc : α → D) (p : α → Bool) (f : α → D) : ∀ (xs : List α) (acc : List D), (∀ x ∈ xs, ∃ e, mg (enc x) env0 mu = .ok e mu ∧ mt e mu = .ok (p x) mu ∧ (p x = true → me e mu = .ok (f x) mu)) → acc.length + xs.length ≤ 1000000 →
    lcL mg mt me env0 (xs.map enc) acc mu = .ok (acc ++ (xs.filter p).map f) mu
  | [], acc, _, _ => by simp [lcL]
  | x :: xs, acc, h, hl => by
    obtain ⟨e, h1, h2, h3⟩ := h x (List.mem_cons_self)
    have hx := fun y hy => h y (List.mem_cons_of_mem _ hy)
    simp only [List.map_cons, lcL, h1, noX_ok, bind_ok, h2]
    simp only [List.length_cons] at hl
    cases hp : p x with
    | false =>
      simp only [Bool.false_eq_true, if_false]
      rw [lcL_filter enc p f xs acc hx (by omega), List.filter_cons_of_neg (by simp [hp])]
    | true =>
      simp only [if_true, h3 hp, noX_ok, bind_ok, lim_ok (show acc.length ≤ 1000000 by omega)]
      rw [lcL_filter enc p f xs _ hx (by simp; omega), List.filter_cons_of_pos hp]
      simp
/-- [f(x) for x in xs if p(x)], nothing changed -/
theorem mLc_filter (enc : α → D) (p : α → Bool) (f : α → D) (xs : List α) (hi : mi env mu = .ok (xs.map enc) mu) (h : ∀ x ∈ xs, ∃ e, mg (enc x) (wipeD env own) mu = .ok e mu ∧ mt e mu = .ok (p x) mu ∧ (p x = true → me e mu = .ok (f x) mu)) (hl : xs.length ≤ 1000000) :
    mLc false mi mg mt me own env mu = .ok (.lst ((xs.filter p).map f)) mu := by
  unfold mLc
  rw [hi, bind_ok, lcL_filter enc p f xs [] h (by simpa using hl), bind_ok]
  rfl
theorem mLc_map (enc : α → D) (f : α → D) (xs : List α) (hi : mi env mu = .ok (xs.map enc) mu) (h : ∀ x ∈ xs, ∃ e, mg (enc x) (wipeD env own) mu = .ok e mu ∧ mt e mu = .ok true mu ∧ me e mu = .ok (f x) mu) (hl : xs.length ≤ 1000000) :
    mLc false mi mg mt me own env mu = .ok (.lst (xs.map f)) mu := by
  rw [mLc_filter enc (fun _ => true) f xs hi (fun x hx => let ⟨e, a, b, c⟩ := h x hx; ⟨e, a, b, fun _ => c⟩) hl, List.filter_eq_self.mpr (fun _ _ => rfl)]
theorem mLc_mapC (enc : α → D) (p : α → Bool) (f : α → D) (xs : List α) (hi : mi env mu = .ok (xs.map enc) mu) (h : ∀ x ∈ xs, ∃ e, mg (enc x) (wipeD env own) mu = .ok e mu ∧ mt e mu = .ok (p x) mu ∧ (p x = true → me e mu = .ok (f x) mu)) (hl : xs.length ≤ 1000000) :
    mLc true mi mg mt me own env mu = .ok (.cell mu.length) (mu ++ [.lst ((xs.filter p).map f)]) := by
  unfold mLc
  rw [hi, bind_ok, lcL_filter enc p f xs [] h (by simpa using hl), bind_ok]
  rfl
/-- a loop with an invariant; its turns end as nx or ct -/
theorem forL_inv {mb : DenS} (enc : α → D) (I : List α → DEnv → Mu → Prop) : ∀ (xs : List α) (env : DEnv) (mu : Mu), I xs env mu →
    (∀ x rest env mu, I (x :: rest) env mu → ∃ e m e' m', mg (enc x) env mu = .ok e m ∧ (mb e m = .nx e' m' ∨ mb e m = .ct e' m') ∧ I rest e' m') → ∃ e m, forL mg mb (xs.map enc) env mu = .nx e m ∧ I [] e m
  | [], env, mu, h, _ => ⟨env, mu, rfl, h⟩
  | x :: xs, env, mu, h, k => by
    obtain ⟨e, m, e', m', h1, h2, h3⟩ := k x xs env mu h
    obtain ⟨e2, m2, h4, h5⟩ := forL_inv enc I xs e' m' h3 k
    refine ⟨e2, m2, ?_, h5⟩
    simp only [List.map_cons, forL, h1, andS_ok]
    rcases h2 with h2 | h2 <;> rw [h2] <;> exact h4
/-- a loop whose turns may return, each by what Q says -/
theorem forL_ret {mb : DenS} (enc : α → D) (I : List α → DEnv → Mu → Prop) (Q : D → Mu → Prop) : ∀ (xs : List α) (env : DEnv) (mu : Mu), I xs env mu →
    (∀ x rest env mu, I (x :: rest) env mu → ∃ e m, mg (enc x) env mu = .ok e m ∧ ((∃ e' m', (mb e m = .nx e' m' ∨ mb e m = .ct e' m') ∧ I rest e' m') ∨ ∃ d m', mb e m = .rt d m' ∧ Q d m')) →
    (∃ e m, forL mg mb (xs.map enc) env mu = .nx e m ∧ I [] e m) ∨ ∃ d m, forL mg mb (xs.map enc) env mu = .rt d m ∧ Q d m
  | [], env, mu, h, _ => .inl ⟨env, mu, rfl, h⟩
  | x :: xs, env, mu, h, k => by
    obtain ⟨e, m, h1, h2⟩ := k x xs env mu h
    rcases h2 with ⟨e', m', h2, h3⟩ | ⟨d, m', h2, h3⟩
    · have h4 := forL_ret enc I Q xs e' m' h3 k
      have e5 : forL mg mb ((x :: xs).map enc) env mu = forL mg mb (xs.map enc) e' m' := by
        simp only [List.map_cons, forL, h1, andS_ok]
        rcases h2 with h2 | h2 <;> rw [h2]
      rw [e5]; exact h4
    · refine .inr ⟨d, m', ?_, h3⟩
      simp only [List.map_cons, forL, h1, andS_ok, h2]
end

/-! built-ins on lists of ints -/
section
variable {mu : Mu}
theorem gAddL {x : D} {k : List D} (h : lim ([x].length + k.length) = true) : gAdd false mu (.lst [x]) (.lst k) = some (.lst (x :: k), mu) := by
  show (if lim ([x].length + k.length) = true then mk false (.lst ([x] ++ k)) mu else none) = _
  rw [if_pos h]; rfl
theorem gCatL {l k : List D} (h : lim (l.length + k.length) = true) : gAdd false mu (.lst l) (.lst k) = some (.lst (l ++ k), mu) := by
  show (if lim (l.length + k.length) = true then mk false (.lst (l ++ k)) mu else none) = _
  rw [if_pos h]; rfl
theorem gSumL {ns : List Int} : gIL (fun ns => some (.int ns.sum)) mu [.lst (ns.map D.int)] = some (.int ns.sum, mu) := by
  show (match intsOf (ns.map D.int) with
    | some ns => (some (D.int ns.sum)).map fun d => (d, mu)
    | none => none) = _
  rw [intsOf_map]; rfl
theorem gMax0 {ns : List Int} : gMax mu [.lst (.int 0 :: ns.map D.int)] = some (.int (maxI (0 :: ns)), mu) := by
  show (match intsOf ((0 :: ns).map D.int) with
    | some ns => (if ns.isEmpty then none else some (D.int (maxI ns))).map fun d => (d, mu)
    | none => none) = _
  rw [intsOf_map]; rfl
theorem gMax2 {i j : Int} : gMax mu [.int i, .int j] = some (.int (max i j), mu) := rfl
theorem gMin2 {i j : Int} : gMin mu [.int i, .int j] = some (.int (min i j), mu) := rfl
theorem gMaxP {i j : Int} : gMax mu [.lst [.int i, .int j]] = some (.int (max i j), mu) := rfl
theorem gAllL {ns : List Bool} : gBL (fun l => l.all id) mu [.lst (ns.map D.bl)] = some (.bl (ns.all id), mu) := by
  show (match blsOf (ns.map D.bl) with
    | some ns => some (D.bl (ns.all id), mu)
    | none => none) = _
  rw [blsOf_map]
theorem gTupL {l : List D} : gTuple mu [.lst l] = some (.tup l, mu) := rfl
theorem gTupT {l : List D} : gTuple mu [.tup l] = some (.tup l, mu) := rfl
theorem gListT {l : List D} : gList false mu [.tup l] = some (.lst l, mu) := rfl
theorem gLenT {l : List D} : gLen mu [.tup l] = some (.int l.length, mu) := rfl
theorem gLenL {l : List D} : gLen mu [.lst l] = some (.int l.length, mu) := rfl
theorem gIsiT {l : List D} : gIsi mu [.tup l, .ty "tuple"] = some (.bl true, mu) := rfl
theorem gIsNT {l : List D} : gIsN false mu (.tup l) .non = some (.bl false, mu) := rfl
theorem mx0 {l : List Int} : maxI (0 :: l) ∈ 0 :: l ∧ ∀ y, y ∈ 0 :: l → y ≤ maxI (0 :: l) := maxI_mem (by simp)
theorem gEqD {x y : D} (hx : okD 60 x = true) (hy : okD 60 y = true) (hv : view mu x = x) (hw : view mu y = y) : gEq false mu x y = some (.bl (deq x y), mu) := by
  unfold gEq; rw [hv, hw, if_pos ⟨hx, hy⟩]; rfl
theorem gNeD {x y : D} (hx : okD 60 x = true) (hy : okD 60 y = true) (hv : view mu x = x) (hw : view mu y = y) : gEq true mu x y = some (.bl (!deq x y), mu) := by
  unfold gEq; rw [hv, hw, if_pos ⟨hx, hy⟩]; rfl
theorem gEqL0 {l : List D} (hx : okD 60 (.lst l) = true) : gEq false mu (.lst l) (.lst []) = some (.bl l.isEmpty, mu) := by
  rw [gEqD hx rfl rfl rfl]; cases l <;> rfl
theorem gNeL0 {l : List D} (hx : okD 60 (.lst l) = true) : gEq true mu (.lst l) (.lst []) = some (.bl (!l.isEmpty), mu) := by
  rw [gNeD hx rfl rfl rfl]; cases l <;> rfl
end

/-! ### the drawing -/
abbrev kGreat : Key := .inr "great"
abbrev kRest : Key := .inr "rest"
abbrev kCells : Key := .inr "cells"
abbrev kTurn : Key := .inr "turn"
def N_begin : List Str := ["_law_script", "_law_great", "_law_cell"]
def absI : Mu → List D → ORes D := g1I fun i => if i < 0 then -i else i
def q_begin1 : DenE := mLc true (mSeqI (mVar 0)) (mGName 2) (mTest (mOp gGe (mCall (g1I fun i => if i < 0 then -i else i) (mCons (mVar 2) mNil)) (mOp gPow (mC (.int 10)) (mC (.int 18))))) (mOp gSub (mCall (g1I fun i => if i < 0 then -i else i) (mCons (mVar 2) mNil)) (mOp gPow (mC (.int 10)) (mC (.int 18)))) [2]
def q_begin2 : DenE := mLc false (mSeqI (mVar 0)) (mGName 2) mYes (mCall (g1I fun i => if i < 0 then -i else i) (mCons (mVar 2) mNil)) [2]
def m_begin : DenS :=
  (mSeq (mAsg q_begin1 (mGName 1))
  (mRet (mDisp [((mC (.str "great")), (mVar 1)), ((mC (.str "rest")), (mC (.int 0))), ((mC (.str "cells")), q_begin2), ((mC (.str "turn")), (mC (.int 0)))])))
def dBegin : List D → Mu → Res D := denF N_begin m_begin
def N_blend : List Str := ["_law_draw", "_law_turn", "_law_found", "_law_prime", "_law_blend_here", "_law_cell"]
def b_blend2 : DenS := (mAsg (mOp gMod (mCall gInt (mCons (mOp (gAdd false) (mOp (gMul false) (mVar 4) (mC (.int 48271))) (mVar 5)) mNil)) (mVar 3)) (mGName 4))
def b_blend1 : DenS := (mSeq (mAsg (mOp gMod (mCall gInt (mCons (mOp (gAdd false) (mOp (gMul false) (mVar 1) (mC (.int 69621))) (mOp gFdiv (mVar 3) (mC (.int 7)))) mNil)) (mVar 3)) (mGName 4))
  (mSeq (mFor (mSeqI (mOp gIx (mVar 0) (mC (.str "cells")))) (mGName 5)
  b_blend2)
  (mAsg (mOp (gAdd false) (mOp (gMul false) (mVar 2) (mC (.int 2147483647))) (mOp gMod (mCall gInt (mCons (mOp gPow (mVar 4) (mC (.int 5))) mNil)) (mVar 3))) (mGName 2))))
def m_blend : DenS :=
  (mSeq (mAsg (mOp (gAdd false) (mOp gIx (mVar 0) (mC (.str "turn"))) (mC (.int 1))) (mGName 1))
  (mSeq (mSet (mVar 1) (mVar 0) (mC (.str "turn")))
  (mSeq (mAsg (mC (.int 0)) (mGName 2))
  (mSeq (mFor (mSeqI (mLst false (mCons (mC (.int 2147483629)) (mCons (mC (.int 2147483587)) (mCons (mC (.int 2147483579)) (mCons (mC (.int 2147483563)) mNil)))))) (mGName 3)
  b_blend1)
  (mRet (mVar 2))))))
def dBlend : List D → Mu → Res D := denF N_blend m_blend
def N_take : List Str := ["_law_draw", "_law_many", "_law_found"]
def m_take : DenS :=
  (mSeq (mIfS (mTAnd (mTest (mOp (gEq false) (mOp gIx (mVar 0) (mC (.str "rest"))) (mC (.int 0)))) (mTest (mOp (gEq true) (mOp gIx (mVar 0) (mC (.str "great"))) (mLst false mNil))))
  (mSet (mMet isLst gPopAt (mOp gIx (mVar 0) (mC (.str "great"))) (mCons (mC (.int 0)) mNil)) (mVar 0) (mC (.str "rest")))
  mSkip)
  (mSeq (mIfS (mTest (mOp (gEq false) (mOp gIx (mVar 0) (mC (.str "rest"))) (mC (.int 0))))
  (mSet (mCallF 1 dBlend (mCons (mVar 0) mNil)) (mVar 0) (mC (.str "rest")))
  mSkip)
  (mSeq (mAsg (mOp gMod (mCall gInt (mCons (mOp gIx (mVar 0) (mC (.str "rest"))) mNil)) (mVar 1)) (mGName 2))
  (mSeq (mSet (mOp gFdiv (mOp gIx (mVar 0) (mC (.str "rest"))) (mVar 1)) (mVar 0) (mC (.str "rest")))
  (mRet (mVar 2))))))
def dTake : List D → Mu → Res D := denF N_take m_take
def N_pick : List Str := ["_law_draw", "_law_some"]
def m_pick : DenS := (mRet (mOp gIx (mVar 1) (mCallF 2 dTake (mCons (mVar 0) (mCons (mCall gLen (mCons (mVar 1) mNil)) mNil)))))
def dPick : List D → Mu → Res D := denF N_pick m_pick

def drawD (great : Nat) (rest turn : Int) (cells : List Int) : List (Key × D) := [(kGreat, .cell great), (kRest, .int rest), (kCells, .lst (cells.map D.int)), (kTurn, .int turn)]
/-- the drawing stands in cells 0 (the great ones) and 1; so many turns at most -/
structure Draw (n : Nat) (mu : Mu) : Prop where
  ex : ∃ (great cells : List Int) (rest turn : Int), mu[0]? = some (.lst (great.map D.int)) ∧ mu[1]? = some (.dk (drawD 0 rest turn cells)) ∧ (∀ g ∈ great, 0 ≤ g) ∧ (∀ c ∈ cells, 0 ≤ c) ∧ 0 ≤ rest ∧ 0 ≤ turn ∧ turn ≤ n
theorem Draw.mono {n m : Nat} {mu : Mu} (h : Draw n mu) (l : n ≤ m) : Draw m mu := by
  obtain ⟨a, b, c, d, h0, h1, h2, h3, h4, h5, h6⟩ := h.ex
  exact ⟨a, b, c, d, h0, h1, h2, h3, h4, h5, by omega⟩
/-- what stands from cell 2 on is as it was -/
structure Fr (mu mu' : Mu) : Prop where
  len : mu'.length = mu.length
  at_ : ∀ k, 2 ≤ k → mu'[k]? = mu[k]?
theorem Fr.rfl {mu : Mu} : Fr mu mu := ⟨_root_.rfl, fun _ _ => _root_.rfl⟩
theorem Fr.trans {a b c : Mu} (h : Fr a b) (k : Fr b c) : Fr a c := ⟨k.len.trans h.len, fun i hi => (k.at_ i hi).trans (h.at_ i hi)⟩
theorem Fr.set {mu : Mu} {i : Nat} {c : Cell} (h : i < 2) : Fr mu (mu.set i c) := ⟨List.length_set, fun k hk => List.getElem?_set_ne (by omega)⟩

/-! what the drawing's four defs do -/
structure At (mu : Mu) (great cells : List Int) (rest turn : Int) : Prop where
  h0 : mu[0]? = some (.lst (great.map D.int))
  h1 : mu[1]? = some (.dk (drawD 0 rest turn cells))
section
variable {mu : Mu} {great cells : List Int} {rest turn : Int}
theorem At.view1 (h : At mu great cells rest turn) : view mu (.cell 1) = .dk (drawD 0 rest turn cells) := by rw [view_cell, h.h1]
theorem At.view0 (h : At mu great cells rest turn) : view mu (.cell 0) = .lst (great.map D.int) := by rw [view_cell, h.h0]
theorem At.ixRest (h : At mu great cells rest turn) : gIx mu (.cell 1) (.str "rest") = some (.int rest, mu) := by
  unfold gIx
  rw [h.view1]
  rfl
theorem At.ixGreat (h : At mu great cells rest turn) : gIx mu (.cell 1) (.str "great") = some (.cell 0, mu) := by
  unfold gIx
  rw [h.view1]
  rfl
theorem At.ixCells (h : At mu great cells rest turn) : gIx mu (.cell 1) (.str "cells") = some (.lst (cells.map D.int), mu) := by
  unfold gIx
  rw [h.view1]
  rfl
theorem At.ixTurn (h : At mu great cells rest turn) : gIx mu (.cell 1) (.str "turn") = some (.int turn, mu) := by
  unfold gIx
  rw [h.view1]
  rfl
theorem At.setRest (h : At mu great cells rest turn) (r : Int) : gSet mu (.cell 1) (.str "rest") (.int r) = some (mu.set 1 (.dk (drawD 0 r turn cells))) := by
  unfold gSet
  simp only [h.h1]
  rfl
theorem At.setTurn (h : At mu great cells rest turn) (r : Int) : gSet mu (.cell 1) (.str "turn") (.int r) = some (mu.set 1 (.dk (drawD 0 rest r cells))) := by
  unfold gSet
  simp only [h.h1]
  rfl
theorem At.next (h : At mu great cells rest turn) (r t : Int) : At (mu.set 1 (.dk (drawD 0 r t cells))) great cells r t :=
  ⟨by rw [List.getElem?_set_ne (by decide)]; exact h.h0, by rw [List.getElem?_set_self (List.getElem?_eq_some_iff.mp h.h1).1]⟩
end

theorem bits_of {x : Int} {m : Nat} (h : x.natAbs < 2 ^ m) : Builtin.Int.intBits x ≤ m := intBits_le_iff.mpr h
theorem bits30 {x : Int} (h0 : 0 ≤ x) (h : x < 1000000000) : Builtin.Int.intBits x ≤ 30 := bits_of (by omega)
theorem bits31 {x : Int} (h0 : 0 ≤ x) (h : x < 2147483648) : Builtin.Int.intBits x ≤ 31 := bits_of (by omega)
section
variable {mu : Mu} {great cells : List Int} {rest turn : Int}
theorem inner_ok (h : At mu great cells rest turn) {t found p : Int} (hp : 0 < p) (hp2 : p < 2147483648) : ∀ (here : Int) (x : Option D), 0 ≤ here → here < p → (∀ c ∈ cells, 0 ≤ c) →
    ∃ here' x', 0 ≤ here' ∧ here' < p ∧ mFor (mSeqI (mOp gIx (mVar 0) (mC (.str "cells")))) (mGName 5) b_blend2 [some (.cell 1), some (.int t), some (.int found), some (.int p), some (.int here), x] mu = .nx [some (.cell 1), some (.int t), some (.int found), some (.int p), some (.int here'), x'] mu := fun here x h0 h1 hc => by
  have key := forL_inv (mg := mGName 5) (mb := b_blend2) D.int (fun _ env m => m = mu ∧ ∃ here x, 0 ≤ here ∧ here < p ∧ env = [some (.cell 1), some (.int t), some (.int found), some (.int p), some (.int here), x]) cells
    [some (.cell 1), some (.int t), some (.int found), some (.int p), some (.int here), x] mu ⟨rfl, here, x, h0, h1, rfl⟩ (fun c rest env m ⟨e1, here, x, g0, g1, e2⟩ => by
      subst e1; subst e2
      refine ⟨_, _, [some (.cell 1), some (.int t), some (.int found), some (.int p), some (.int ((here * 48271 + c) % p)), some (.int c)], _, rfl, .inl ?_, rfl, (here * 48271 + c) % p, some (.int c), Int.emod_nonneg _ (by omega), Int.emod_lt_of_pos _ hp, rfl⟩
      have hm : mulB here 48271 = true := mulB_ok (Nat.le_trans (bits31 g0 (by omega)) (by omega)) (Nat.le_trans (bits31 (x := 48271) (by omega) (by omega)) (by omega))
      unfold b_blend2
      (repeat' (first | (with_reducible assumption) | (with_reducible exact gMod_ok hp) | (with_reducible apply mVar_ok) | (with_reducible apply mC_ok) | (with_reducible apply mOp_ok) | (with_reducible apply mTest_ok) | (with_reducible apply mCons_ok) | (with_reducible apply mNil_ok) | (with_reducible apply mCall_ok) | (with_reducible apply mCallF_ok) | (with_reducible apply mSeq_eq) | (with_reducible apply seqNx) | (with_reducible apply seqRt) | (with_reducible apply mSkip_ok) | (with_reducible apply mRet_ok) | (with_reducible apply mRetN_ok) | (with_reducible apply mExpr_ok) | (with_reducible apply mAsg_ok) | (with_reducible apply mGName_ok) | (with_reducible apply mIfS_ok) | (with_reducible apply mTAnd_ok) | (with_reducible apply mTOr_ok) | (with_reducible apply mTNot_ok) | (with_reducible apply mAnd_ok) | (with_reducible apply mOr_ok) | (with_reducible apply mNot_ok) | (with_reducible apply mIf_ok) | (with_reducible apply mChain_ok) | (with_reducible apply bindO_ok) | (with_reducible apply mTup_ok) | (with_reducible apply mLst_ok) | (with_reducible apply mLst_okC) | (with_reducible apply mUn_ok) | (with_reducible apply mMet_ok) | (with_reducible apply mMetC_ok) | (with_reducible apply mGTup_ok) | (with_reducible apply mGCons_ok) | (with_reducible apply mGNil_ok) | (with_reducible apply mPar_ok) | (with_reducible apply mPar3_ok) | (with_reducible apply mSet_ok) | (with_reducible apply mSeqI_ok) | (with_reducible apply mRange1_ok) | (with_reducible apply mZip_ok) | (with_reducible apply mFrz_ok) | (with_reducible apply mFor_ok) | (with_reducible apply mCallV_ok) | (with_reducible apply gAddL) | (with_reducible apply gSumL) | (with_reducible apply gMax0) | (with_reducible apply gMax2) | (with_reducible apply gMaxP) | (with_reducible apply gAllL) | (with_reducible apply gTupL) | (with_reducible apply gTupT) | (with_reducible apply gListT) | (with_reducible apply gLenT) | (with_reducible apply gIsiT) | (with_reducible apply gIsNT) | (with_reducible apply gEqL0) | (with_reducible apply gNeL0) | (with_reducible apply gMul_ok) | (with_reducible apply gAdd_ok) | (with_reducible apply gSub_ok) | (with_reducible apply gEqI) | (with_reducible apply gNeI) | (with_reducible apply gLt_ok) | (with_reducible apply gLe_ok) | (with_reducible apply gGt_ok) | (with_reducible apply gGe_ok) | (with_reducible apply gInt_ok) | (with_reducible apply mulB_ok) | (with_reducible apply lim_ok) | ((with_reducible apply ite_t); (first | assumption | (exact decide_eq_true (by omega)) | (exact decide_eq_false (by omega)) | (simp only [Bool.not_eq_true', Bool.not_eq_false', Bool.not_not, decide_eq_false_iff_not, decide_eq_true_eq, Bool.false_eq_true, if_true, if_false, Bool.not_false, Bool.not_true, reduceIte]; omega) | exact rfl)) | ((with_reducible apply ite_f); (first | assumption | (exact decide_eq_true (by omega)) | (exact decide_eq_false (by omega)) | (simp only [Bool.not_eq_true', Bool.not_eq_false', Bool.not_not, decide_eq_false_iff_not, decide_eq_true_eq, Bool.false_eq_true, if_true, if_false, Bool.not_false, Bool.not_true, reduceIte]; omega) | exact rfl)) | (simp only [List.set_cons_succ, List.set_cons_zero, wipeD]; exact rfl) | (simp only [List.length_cons, List.length_nil]; omega) | (exact rfl) | (omega))))
  obtain ⟨e, m, k1, rfl, here', x', a, b, rfl⟩ := key
  refine ⟨here', x', a, b, mFor_ok (m1 := m) (ds := cells.map D.int) ?_ k1⟩
  (repeat' (first | (with_reducible assumption) | (with_reducible exact h.ixCells) | (with_reducible apply mVar_ok) | (with_reducible apply mC_ok) | (with_reducible apply mOp_ok) | (with_reducible apply mTest_ok) | (with_reducible apply mCons_ok) | (with_reducible apply mNil_ok) | (with_reducible apply mCall_ok) | (with_reducible apply mCallF_ok) | (with_reducible apply mSeq_eq) | (with_reducible apply seqNx) | (with_reducible apply seqRt) | (with_reducible apply mSkip_ok) | (with_reducible apply mRet_ok) | (with_reducible apply mRetN_ok) | (with_reducible apply mExpr_ok) | (with_reducible apply mAsg_ok) | (with_reducible apply mGName_ok) | (with_reducible apply mIfS_ok) | (with_reducible apply mTAnd_ok) | (with_reducible apply mTOr_ok) | (with_reducible apply mTNot_ok) | (with_reducible apply mAnd_ok) | (with_reducible apply mOr_ok) | (with_reducible apply mNot_ok) | (with_reducible apply mIf_ok) | (with_reducible apply mChain_ok) | (with_reducible apply bindO_ok) | (with_reducible apply mTup_ok) | (with_reducible apply mLst_ok) | (with_reducible apply mLst_okC) | (with_reducible apply mUn_ok) | (with_reducible apply mMet_ok) | (with_reducible apply mMetC_ok) | (with_reducible apply mGTup_ok) | (with_reducible apply mGCons_ok) | (with_reducible apply mGNil_ok) | (with_reducible apply mPar_ok) | (with_reducible apply mPar3_ok) | (with_reducible apply mSet_ok) | (with_reducible apply mSeqI_ok) | (with_reducible apply mRange1_ok) | (with_reducible apply mZip_ok) | (with_reducible apply mFrz_ok) | (with_reducible apply mFor_ok) | (with_reducible apply mCallV_ok) | (with_reducible apply gAddL) | (with_reducible apply gSumL) | (with_reducible apply gMax0) | (with_reducible apply gMax2) | (with_reducible apply gMaxP) | (with_reducible apply gAllL) | (with_reducible apply gTupL) | (with_reducible apply gTupT) | (with_reducible apply gListT) | (with_reducible apply gLenT) | (with_reducible apply gIsiT) | (with_reducible apply gIsNT) | (with_reducible apply gEqL0) | (with_reducible apply gNeL0) | (with_reducible apply gMul_ok) | (with_reducible apply gAdd_ok) | (with_reducible apply gSub_ok) | (with_reducible apply gEqI) | (with_reducible apply gNeI) | (with_reducible apply gLt_ok) | (with_reducible apply gLe_ok) | (with_reducible apply gGt_ok) | (with_reducible apply gGe_ok) | (with_reducible apply gInt_ok) | (with_reducible apply mulB_ok) | (with_reducible apply lim_ok) | ((with_reducible apply ite_t); (first | assumption | (exact decide_eq_true (by omega)) | (exact decide_eq_false (by omega)) | (simp only [Bool.not_eq_true', Bool.not_eq_false', Bool.not_not, decide_eq_false_iff_not, decide_eq_true_eq, Bool.false_eq_true, if_true, if_false, Bool.not_false, Bool.not_true, reduceIte]; omega) | exact rfl)) | ((with_reducible apply ite_f); (first | assumption | (exact decide_eq_true (by omega)) | (exact decide_eq_false (by omega)) | (simp only [Bool.not_eq_true', Bool.not_eq_false', Bool.not_not, decide_eq_false_iff_not, decide_eq_true_eq, Bool.false_eq_true, if_true, if_false, Bool.not_false, Bool.not_true, reduceIte]; omega) | exact rfl)) | (simp only [List.set_cons_succ, List.set_cons_zero, wipeD]; exact rfl) | (simp only [List.length_cons, List.length_nil]; omega) | (exact rfl) | (omega)))
theorem outer_ok (h : At mu great cells rest turn) (hc : ∀ c ∈ cells, 0 ≤ c) {t : Int} (ht : Builtin.Int.intBits t ≤ 60000000) (ht0 : 0 ≤ t) (x3 x4 x5 : Option D) : ∃ (env : DEnv) (found : Int), 0 ≤ found ∧ env[2]? = some (some (.int found)) ∧
    forL (mGName 3) b_blend1 [.int 2147483629, .int 2147483587, .int 2147483579, .int 2147483563] [some (.cell 1), some (.int t), some (.int 0), x3, x4, x5] mu = .nx env mu := by
  have key := forL_inv (mg := mGName 3) (mb := b_blend1) D.int (fun l env m => (∀ p ∈ l, 0 < p ∧ p < 2147483648) ∧ m = mu ∧ ∃ found x3 x4 x5, 0 ≤ found ∧ Builtin.Int.intBits found ≤ 1000 * (5 - l.length) ∧ l.length ≤ 4 ∧ env = [some (.cell 1), some (.int t), some (.int found), x3, x4, x5]) [2147483629, 2147483587, 2147483579, 2147483563]
    [some (.cell 1), some (.int t), some (.int 0), x3, x4, x5] mu ⟨by decide, rfl, 0, x3, x4, x5, by decide, by decide, by decide, rfl⟩ (fun p l env m ⟨hl, e1, found, x3, x4, x5, g0, g1, g2, e2⟩ => by
      subst e1; subst e2
      obtain ⟨hp, hp2⟩ := hl p (List.mem_cons_self)
      simp only [List.length_cons] at g1 g2
      have hm : mulB t 69621 = true := mulB_ok ht (Nat.le_trans (bits31 (x := 69621) (by omega) (by omega)) (by omega))
      have hm2 : mulB found 2147483647 = true := mulB_ok (by omega) (Nat.le_trans (bits31 (x := 2147483647) (by omega) (by omega)) (by omega))
      have hd : p.natAbs.log2 < 9000 := Nat.lt_of_lt_of_le (m := 31) ((Nat.log2_lt (by omega)).mpr (by omega)) (by omega)
      obtain ⟨here', x', k0, k1, k2⟩ := inner_ok h (t := t) (found := found) hp hp2 ((t * 69621 + p / 7) % p) x5 (Int.emod_nonneg _ (by omega)) (Int.emod_lt_of_pos _ hp) hc
      have hpow : gPow m (.int here') (.int 5) = some (.int (here' ^ 5), m) := gPow_ok (j := 5) (by have := bits31 k0 (by omega); omega)
      have q0 : 0 ≤ here' ^ 5 % p := Int.emod_nonneg _ (by omega)
      have q1 : here' ^ 5 % p < p := Int.emod_lt_of_pos _ hp
      refine ⟨_, _, [some (.cell 1), some (.int t), some (.int (found * 2147483647 + here' ^ 5 % p)), some (.int p), some (.int here'), x'], _, rfl, .inl ?_, fun q hq => hl q (List.mem_cons_of_mem _ hq), rfl, found * 2147483647 + here' ^ 5 % p, some (.int p), some (.int here'), x', by omega, ?_, by omega, rfl⟩
      · unfold b_blend1
        (repeat' (first | (with_reducible assumption) | (with_reducible exact k2) | (with_reducible exact gMod_ok hp) | (with_reducible exact gFdiv_ok (j := 7) (by decide) (by decide)) | (with_reducible exact hpow) | (with_reducible apply mVar_ok) | (with_reducible apply mC_ok) | (with_reducible apply mOp_ok) | (with_reducible apply mTest_ok) | (with_reducible apply mCons_ok) | (with_reducible apply mNil_ok) | (with_reducible apply mCall_ok) | (with_reducible apply mCallF_ok) | (with_reducible apply mSeq_eq) | (with_reducible apply seqNx) | (with_reducible apply seqRt) | (with_reducible apply mSkip_ok) | (with_reducible apply mRet_ok) | (with_reducible apply mRetN_ok) | (with_reducible apply mExpr_ok) | (with_reducible apply mAsg_ok) | (with_reducible apply mGName_ok) | (with_reducible apply mIfS_ok) | (with_reducible apply mTAnd_ok) | (with_reducible apply mTOr_ok) | (with_reducible apply mTNot_ok) | (with_reducible apply mAnd_ok) | (with_reducible apply mOr_ok) | (with_reducible apply mNot_ok) | (with_reducible apply mIf_ok) | (with_reducible apply mChain_ok) | (with_reducible apply bindO_ok) | (with_reducible apply mTup_ok) | (with_reducible apply mLst_ok) | (with_reducible apply mLst_okC) | (with_reducible apply mUn_ok) | (with_reducible apply mMet_ok) | (with_reducible apply mMetC_ok) | (with_reducible apply mGTup_ok) | (with_reducible apply mGCons_ok) | (with_reducible apply mGNil_ok) | (with_reducible apply mPar_ok) | (with_reducible apply mPar3_ok) | (with_reducible apply mSet_ok) | (with_reducible apply mSeqI_ok) | (with_reducible apply mRange1_ok) | (with_reducible apply mZip_ok) | (with_reducible apply mFrz_ok) | (with_reducible apply mFor_ok) | (with_reducible apply mCallV_ok) | (with_reducible apply gAddL) | (with_reducible apply gSumL) | (with_reducible apply gMax0) | (with_reducible apply gMax2) | (with_reducible apply gMaxP) | (with_reducible apply gAllL) | (with_reducible apply gTupL) | (with_reducible apply gTupT) | (with_reducible apply gListT) | (with_reducible apply gLenT) | (with_reducible apply gIsiT) | (with_reducible apply gIsNT) | (with_reducible apply gEqL0) | (with_reducible apply gNeL0) | (with_reducible apply gMul_ok) | (with_reducible apply gAdd_ok) | (with_reducible apply gSub_ok) | (with_reducible apply gEqI) | (with_reducible apply gNeI) | (with_reducible apply gLt_ok) | (with_reducible apply gLe_ok) | (with_reducible apply gGt_ok) | (with_reducible apply gGe_ok) | (with_reducible apply gInt_ok) | (with_reducible apply mulB_ok) | (with_reducible apply lim_ok) | ((with_reducible apply ite_t); (first | assumption | (exact decide_eq_true (by omega)) | (exact decide_eq_false (by omega)) | (simp only [Bool.not_eq_true', Bool.not_eq_false', Bool.not_not, decide_eq_false_iff_not, decide_eq_true_eq, Bool.false_eq_true, if_true, if_false, Bool.not_false, Bool.not_true, reduceIte]; omega) | exact rfl)) | ((with_reducible apply ite_f); (first | assumption | (exact decide_eq_true (by omega)) | (exact decide_eq_false (by omega)) | (simp only [Bool.not_eq_true', Bool.not_eq_false', Bool.not_not, decide_eq_false_iff_not, decide_eq_true_eq, Bool.false_eq_true, if_true, if_false, Bool.not_false, Bool.not_true, reduceIte]; omega) | exact rfl)) | (simp only [List.set_cons_succ, List.set_cons_zero, wipeD]; exact rfl) | (simp only [List.length_cons, List.length_nil]; omega) | (exact rfl) | (omega)))
      · have b1 := intBits_mul_le (m := 1000 * (5 - (l.length + 1))) (n := 31) g1 (bits31 (x := 2147483647) (by omega) (by omega))
        have b2 := intBits_add_le b1 (bits31 q0 (by omega))
        omega)
  obtain ⟨e, m, k1, _, rfl, found, a3, a4, a5, b, _, _, rfl⟩ := key
  exact ⟨_, found, b, rfl, k1⟩

theorem blend_ok (h : At mu great cells rest turn) (hc : ∀ c ∈ cells, 0 ≤ c) (ht : Builtin.Int.intBits (turn + 1) ≤ 60000000) (ht0 : 0 ≤ turn) : ∃ r : Int, 0 ≤ r ∧ dBlend [.cell 1] mu = .ok (.int r) (mu.set 1 (.dk (drawD 0 rest (turn + 1) cells))) := by
  have h' := h.next rest (turn + 1)
  obtain ⟨env, found, f0, f1, f2⟩ := outer_ok h' hc ht (by omega) none none none
  refine ⟨found, f0, denF_rt (env0 := [some (.cell 1), none, none, none, none, none]) rfl ?_⟩
  have e1 : mRet (mVar 2) env (mu.set 1 (.dk (drawD 0 rest (turn + 1) cells))) = .rt (.int found) (mu.set 1 (.dk (drawD 0 rest (turn + 1) cells))) := mRet_ok (mVar_ok f1)
  have hs := h.setTurn (turn + 1)
  unfold m_blend
  (repeat' (first | (with_reducible assumption) | (with_reducible exact h.ixTurn) | (with_reducible exact hs) | (with_reducible exact f2) | (with_reducible exact e1) | (with_reducible apply mVar_ok) | (with_reducible apply mC_ok) | (with_reducible apply mOp_ok) | (with_reducible apply mTest_ok) | (with_reducible apply mCons_ok) | (with_reducible apply mNil_ok) | (with_reducible apply mCall_ok) | (with_reducible apply mCallF_ok) | (with_reducible apply mSeq_eq) | (with_reducible apply seqNx) | (with_reducible apply seqRt) | (with_reducible apply mSkip_ok) | (with_reducible apply mRet_ok) | (with_reducible apply mRetN_ok) | (with_reducible apply mExpr_ok) | (with_reducible apply mAsg_ok) | (with_reducible apply mGName_ok) | (with_reducible apply mIfS_ok) | (with_reducible apply mTAnd_ok) | (with_reducible apply mTOr_ok) | (with_reducible apply mTNot_ok) | (with_reducible apply mAnd_ok) | (with_reducible apply mOr_ok) | (with_reducible apply mNot_ok) | (with_reducible apply mIf_ok) | (with_reducible apply mChain_ok) | (with_reducible apply bindO_ok) | (with_reducible apply mTup_ok) | (with_reducible apply mLst_ok) | (with_reducible apply mLst_okC) | (with_reducible apply mUn_ok) | (with_reducible apply mMet_ok) | (with_reducible apply mMetC_ok) | (with_reducible apply mGTup_ok) | (with_reducible apply mGCons_ok) | (with_reducible apply mGNil_ok) | (with_reducible apply mPar_ok) | (with_reducible apply mPar3_ok) | (with_reducible apply mSet_ok) | (with_reducible apply mSeqI_ok) | (with_reducible apply mRange1_ok) | (with_reducible apply mZip_ok) | (with_reducible apply mFrz_ok) | (with_reducible apply mFor_ok) | (with_reducible apply mCallV_ok) | (with_reducible apply gAddL) | (with_reducible apply gSumL) | (with_reducible apply gMax0) | (with_reducible apply gMax2) | (with_reducible apply gMaxP) | (with_reducible apply gAllL) | (with_reducible apply gTupL) | (with_reducible apply gTupT) | (with_reducible apply gListT) | (with_reducible apply gLenT) | (with_reducible apply gIsiT) | (with_reducible apply gIsNT) | (with_reducible apply gEqL0) | (with_reducible apply gNeL0) | (with_reducible apply gMul_ok) | (with_reducible apply gAdd_ok) | (with_reducible apply gSub_ok) | (with_reducible apply gEqI) | (with_reducible apply gNeI) | (with_reducible apply gLt_ok) | (with_reducible apply gLe_ok) | (with_reducible apply gGt_ok) | (with_reducible apply gGe_ok) | (with_reducible apply gInt_ok) | (with_reducible apply mulB_ok) | (with_reducible apply lim_ok) | ((with_reducible apply ite_t); (first | assumption | (exact decide_eq_true (by omega)) | (exact decide_eq_false (by omega)) | (simp only [Bool.not_eq_true', Bool.not_eq_false', Bool.not_not, decide_eq_false_iff_not, decide_eq_true_eq, Bool.false_eq_true, if_true, if_false, Bool.not_false, Bool.not_true, reduceIte]; omega) | exact rfl)) | ((with_reducible apply ite_f); (first | assumption | (exact decide_eq_true (by omega)) | (exact decide_eq_false (by omega)) | (simp only [Bool.not_eq_true', Bool.not_eq_false', Bool.not_not, decide_eq_false_iff_not, decide_eq_true_eq, Bool.false_eq_true, if_true, if_false, Bool.not_false, Bool.not_true, reduceIte]; omega) | exact rfl)) | (simp only [List.set_cons_succ, List.set_cons_zero, wipeD]; exact rfl) | (simp only [List.length_cons, List.length_nil]; omega) | (exact rfl) | (omega)))
theorem great_ne (h : At mu great cells rest turn) : gEq true mu (.cell 0) (.lst []) = some (.bl (!great.isEmpty), mu) := by
  unfold gEq
  have ok : ∀ l : List Int, okL 59 (l.map D.int) = true := fun l => by
    induction l with
    | nil => rfl
    | cons x l ih => simp only [List.map_cons, okL, okD, ih, Bool.and_self]
  rw [h.view0, view_lst]
  have e1 : okD 60 (D.lst (great.map D.int)) = true := by simp only [okD]; exact ok great
  have e2 : okD 60 (D.lst []) = true := rfl
  rw [if_pos ⟨e1, e2⟩]
  cases great with
  | nil => rfl
  | cons x l => rfl
theorem pop_ok (h : At mu great cells rest turn) {g : Int} {gs : List Int} (e : great = g :: gs) : gPopAt mu (.cell 0) [.int 0] = some (.int g, mu.set 0 (.lst (gs.map D.int))) := by
  subst e
  unfold gPopAt
  simp only [h.h0]
  rfl
theorem At.pop (h : At mu great cells rest turn) (gs : List Int) : At (mu.set 0 (.lst (gs.map D.int))) gs cells rest turn :=
  ⟨by rw [List.getElem?_set_self (List.getElem?_eq_some_iff.mp h.h0).1], by rw [List.getElem?_set_ne (by decide)]; exact h.h1⟩
theorem isLst0 (h : At mu great cells rest turn) : isLst mu (.cell 0) = true := by unfold isLst; rw [h.view0]
end
/-- the last part of a take: rest is told -/
theorem take_end {mu : Mu} {great cells : List Int} {rest turn many : Int} (h : At mu great cells rest turn) (hm : 0 < many) (hl : many.natAbs.log2 < 9000) :
    (mSeq (mAsg (mOp gMod (mCall gInt (mCons (mOp gIx (mVar 0) (mC (.str "rest"))) mNil)) (mVar 1)) (mGName 2))
  (mSeq (mSet (mOp gFdiv (mOp gIx (mVar 0) (mC (.str "rest"))) (mVar 1)) (mVar 0) (mC (.str "rest")))
  (mRet (mVar 2)))) [some (.cell 1), some (.int many), none] mu = .rt (.int (rest % many)) (mu.set 1 (.dk (drawD 0 (rest / many) turn cells))) := by
  have hs := h.setRest (rest / many)
  (repeat' (first | (with_reducible assumption) | (with_reducible exact h.ixRest) | (with_reducible exact gMod_ok hm) | (with_reducible exact gFdiv_ok hm hl) | (with_reducible exact hs) | (with_reducible apply mVar_ok) | (with_reducible apply mC_ok) | (with_reducible apply mOp_ok) | (with_reducible apply mTest_ok) | (with_reducible apply mCons_ok) | (with_reducible apply mNil_ok) | (with_reducible apply mCall_ok) | (with_reducible apply mCallF_ok) | (with_reducible apply mSeq_eq) | (with_reducible apply seqNx) | (with_reducible apply seqRt) | (with_reducible apply mSkip_ok) | (with_reducible apply mRet_ok) | (with_reducible apply mRetN_ok) | (with_reducible apply mExpr_ok) | (with_reducible apply mAsg_ok) | (with_reducible apply mGName_ok) | (with_reducible apply mIfS_ok) | (with_reducible apply mTAnd_ok) | (with_reducible apply mTOr_ok) | (with_reducible apply mTNot_ok) | (with_reducible apply mAnd_ok) | (with_reducible apply mOr_ok) | (with_reducible apply mNot_ok) | (with_reducible apply mIf_ok) | (with_reducible apply mChain_ok) | (with_reducible apply bindO_ok) | (with_reducible apply mTup_ok) | (with_reducible apply mLst_ok) | (with_reducible apply mLst_okC) | (with_reducible apply mUn_ok) | (with_reducible apply mMet_ok) | (with_reducible apply mMetC_ok) | (with_reducible apply mGTup_ok) | (with_reducible apply mGCons_ok) | (with_reducible apply mGNil_ok) | (with_reducible apply mPar_ok) | (with_reducible apply mPar3_ok) | (with_reducible apply mSet_ok) | (with_reducible apply mSeqI_ok) | (with_reducible apply mRange1_ok) | (with_reducible apply mZip_ok) | (with_reducible apply mFrz_ok) | (with_reducible apply mFor_ok) | (with_reducible apply mCallV_ok) | (with_reducible apply gAddL) | (with_reducible apply gSumL) | (with_reducible apply gMax0) | (with_reducible apply gMax2) | (with_reducible apply gMaxP) | (with_reducible apply gAllL) | (with_reducible apply gTupL) | (with_reducible apply gTupT) | (with_reducible apply gListT) | (with_reducible apply gLenT) | (with_reducible apply gIsiT) | (with_reducible apply gIsNT) | (with_reducible apply gEqL0) | (with_reducible apply gNeL0) | (with_reducible apply gMul_ok) | (with_reducible apply gAdd_ok) | (with_reducible apply gSub_ok) | (with_reducible apply gEqI) | (with_reducible apply gNeI) | (with_reducible apply gLt_ok) | (with_reducible apply gLe_ok) | (with_reducible apply gGt_ok) | (with_reducible apply gGe_ok) | (with_reducible apply gInt_ok) | (with_reducible apply mulB_ok) | (with_reducible apply lim_ok) | ((with_reducible apply ite_t); (first | assumption | (exact decide_eq_true (by omega)) | (exact decide_eq_false (by omega)) | (simp only [Bool.not_eq_true', Bool.not_eq_false', Bool.not_not, decide_eq_false_iff_not, decide_eq_true_eq, Bool.false_eq_true, if_true, if_false, Bool.not_false, Bool.not_true, reduceIte]; omega) | exact rfl)) | ((with_reducible apply ite_f); (first | assumption | (exact decide_eq_true (by omega)) | (exact decide_eq_false (by omega)) | (simp only [Bool.not_eq_true', Bool.not_eq_false', Bool.not_not, decide_eq_false_iff_not, decide_eq_true_eq, Bool.false_eq_true, if_true, if_false, Bool.not_false, Bool.not_true, reduceIte]; omega) | exact rfl)) | (simp only [List.set_cons_succ, List.set_cons_zero, wipeD]; exact rfl) | (simp only [List.length_cons, List.length_nil]; omega) | (exact rfl) | (omega)))
theorem take_ok {mu : Mu} {n : Nat} {many : Int} (h : Draw n mu) (hn : n ≤ 900000000) (hm : 0 < many) (hl : many.natAbs.log2 < 9000) :
    ∃ (r : Int) (mu' : Mu), dTake [.cell 1, .int many] mu = .ok (.int r) mu' ∧ 0 ≤ r ∧ r < many ∧ Draw (n + 1) mu' ∧ Fr mu mu' := by
  obtain ⟨great, cells, rest, turn, h0, h1, hg, hc, hr, ht, htn⟩ := h.ex
  have a : At mu great cells rest turn := ⟨h0, h1⟩
  -- the second part, from any state
  have part2 : ∀ (mu2 : Mu) (great2 : List Int) (rest2 : Int), At mu2 great2 cells rest2 turn → (∀ g ∈ great2, 0 ≤ g) → 0 ≤ rest2 → Fr mu mu2 → ∃ (r : Int) (mu' : Mu), (mSeq (mIfS (mTest (mOp (gEq false) (mOp gIx (mVar 0) (mC (.str "rest"))) (mC (.int 0))))
  (mSet (mCallF 1 dBlend (mCons (mVar 0) mNil)) (mVar 0) (mC (.str "rest")))
  mSkip)
  (mSeq (mAsg (mOp gMod (mCall gInt (mCons (mOp gIx (mVar 0) (mC (.str "rest"))) mNil)) (mVar 1)) (mGName 2))
  (mSeq (mSet (mOp gFdiv (mOp gIx (mVar 0) (mC (.str "rest"))) (mVar 1)) (mVar 0) (mC (.str "rest")))
  (mRet (mVar 2))))) [some (.cell 1), some (.int many), none] mu2 = .rt (.int r) mu' ∧ 0 ≤ r ∧ r < many ∧ Draw (n + 1) mu' ∧ Fr mu mu' := by
    intro mu2 great2 rest2 a2 hg2 hr2 fr
    by_cases e : rest2 = 0
    · obtain ⟨r, r0, eb⟩ := blend_ok a2 hc (Nat.le_trans (bits30 (by omega) (by omega)) (by omega)) ht
      have a3 := a2.next rest2 (turn + 1)
      have hs := a3.setRest r
      have a4 := a3.next r (turn + 1)
      have k := take_end a4 hm hl
      refine ⟨r % many, _, ?_, Int.emod_nonneg _ (by omega), Int.emod_lt_of_pos _ hm, ⟨great2, cells, r / many, turn + 1, (a4.next _ _).h0, (a4.next _ _).h1, hg2, hc, Int.ediv_nonneg r0 (by omega), by omega, by omega⟩, ((fr.trans (Fr.set (by decide))).trans (Fr.set (by decide))).trans (Fr.set (by decide))⟩
      refine mSeq_eq (r1 := .nx [some (.cell 1), some (.int many), none] _) ?_ (seqNx k)
      (repeat' (first | (with_reducible assumption) | (with_reducible exact a2.ixRest) | (with_reducible exact eb) | (with_reducible exact hs) | (with_reducible apply mVar_ok) | (with_reducible apply mC_ok) | (with_reducible apply mOp_ok) | (with_reducible apply mTest_ok) | (with_reducible apply mCons_ok) | (with_reducible apply mNil_ok) | (with_reducible apply mCall_ok) | (with_reducible apply mCallF_ok) | (with_reducible apply mSeq_eq) | (with_reducible apply seqNx) | (with_reducible apply seqRt) | (with_reducible apply mSkip_ok) | (with_reducible apply mRet_ok) | (with_reducible apply mRetN_ok) | (with_reducible apply mExpr_ok) | (with_reducible apply mAsg_ok) | (with_reducible apply mGName_ok) | (with_reducible apply mIfS_ok) | (with_reducible apply mTAnd_ok) | (with_reducible apply mTOr_ok) | (with_reducible apply mTNot_ok) | (with_reducible apply mAnd_ok) | (with_reducible apply mOr_ok) | (with_reducible apply mNot_ok) | (with_reducible apply mIf_ok) | (with_reducible apply mChain_ok) | (with_reducible apply bindO_ok) | (with_reducible apply mTup_ok) | (with_reducible apply mLst_ok) | (with_reducible apply mLst_okC) | (with_reducible apply mUn_ok) | (with_reducible apply mMet_ok) | (with_reducible apply mMetC_ok) | (with_reducible apply mGTup_ok) | (with_reducible apply mGCons_ok) | (with_reducible apply mGNil_ok) | (with_reducible apply mPar_ok) | (with_reducible apply mPar3_ok) | (with_reducible apply mSet_ok) | (with_reducible apply mSeqI_ok) | (with_reducible apply mRange1_ok) | (with_reducible apply mZip_ok) | (with_reducible apply mFrz_ok) | (with_reducible apply mFor_ok) | (with_reducible apply mCallV_ok) | (with_reducible apply gAddL) | (with_reducible apply gSumL) | (with_reducible apply gMax0) | (with_reducible apply gMax2) | (with_reducible apply gMaxP) | (with_reducible apply gAllL) | (with_reducible apply gTupL) | (with_reducible apply gTupT) | (with_reducible apply gListT) | (with_reducible apply gLenT) | (with_reducible apply gIsiT) | (with_reducible apply gIsNT) | (with_reducible apply gEqL0) | (with_reducible apply gNeL0) | (with_reducible apply gMul_ok) | (with_reducible apply gAdd_ok) | (with_reducible apply gSub_ok) | (with_reducible apply gEqI) | (with_reducible apply gNeI) | (with_reducible apply gLt_ok) | (with_reducible apply gLe_ok) | (with_reducible apply gGt_ok) | (with_reducible apply gGe_ok) | (with_reducible apply gInt_ok) | (with_reducible apply mulB_ok) | (with_reducible apply lim_ok) | ((with_reducible apply ite_t); (first | assumption | (exact decide_eq_true (by omega)) | (exact decide_eq_false (by omega)) | (simp only [Bool.not_eq_true', Bool.not_eq_false', Bool.not_not, decide_eq_false_iff_not, decide_eq_true_eq, Bool.false_eq_true, if_true, if_false, Bool.not_false, Bool.not_true, reduceIte]; omega) | exact rfl)) | ((with_reducible apply ite_f); (first | assumption | (exact decide_eq_true (by omega)) | (exact decide_eq_false (by omega)) | (simp only [Bool.not_eq_true', Bool.not_eq_false', Bool.not_not, decide_eq_false_iff_not, decide_eq_true_eq, Bool.false_eq_true, if_true, if_false, Bool.not_false, Bool.not_true, reduceIte]; omega) | exact rfl)) | (simp only [List.set_cons_succ, List.set_cons_zero, wipeD]; exact rfl) | (simp only [List.length_cons, List.length_nil]; omega) | (exact rfl) | (omega)))
    · have k := take_end a2 hm hl
      refine ⟨rest2 % many, _, ?_, Int.emod_nonneg _ (by omega), Int.emod_lt_of_pos _ hm, ⟨great2, cells, rest2 / many, turn, (a2.next _ _).h0, (a2.next _ _).h1, hg2, hc, Int.ediv_nonneg hr2 (by omega), by omega, by omega⟩, fr.trans (Fr.set (by decide))⟩
      refine mSeq_eq (r1 := .nx [some (.cell 1), some (.int many), none] _) ?_ (seqNx k)
      (repeat' (first | (with_reducible assumption) | (with_reducible exact a2.ixRest) | (with_reducible apply mVar_ok) | (with_reducible apply mC_ok) | (with_reducible apply mOp_ok) | (with_reducible apply mTest_ok) | (with_reducible apply mCons_ok) | (with_reducible apply mNil_ok) | (with_reducible apply mCall_ok) | (with_reducible apply mCallF_ok) | (with_reducible apply mSeq_eq) | (with_reducible apply seqNx) | (with_reducible apply seqRt) | (with_reducible apply mSkip_ok) | (with_reducible apply mRet_ok) | (with_reducible apply mRetN_ok) | (with_reducible apply mExpr_ok) | (with_reducible apply mAsg_ok) | (with_reducible apply mGName_ok) | (with_reducible apply mIfS_ok) | (with_reducible apply mTAnd_ok) | (with_reducible apply mTOr_ok) | (with_reducible apply mTNot_ok) | (with_reducible apply mAnd_ok) | (with_reducible apply mOr_ok) | (with_reducible apply mNot_ok) | (with_reducible apply mIf_ok) | (with_reducible apply mChain_ok) | (with_reducible apply bindO_ok) | (with_reducible apply mTup_ok) | (with_reducible apply mLst_ok) | (with_reducible apply mLst_okC) | (with_reducible apply mUn_ok) | (with_reducible apply mMet_ok) | (with_reducible apply mMetC_ok) | (with_reducible apply mGTup_ok) | (with_reducible apply mGCons_ok) | (with_reducible apply mGNil_ok) | (with_reducible apply mPar_ok) | (with_reducible apply mPar3_ok) | (with_reducible apply mSet_ok) | (with_reducible apply mSeqI_ok) | (with_reducible apply mRange1_ok) | (with_reducible apply mZip_ok) | (with_reducible apply mFrz_ok) | (with_reducible apply mFor_ok) | (with_reducible apply mCallV_ok) | (with_reducible apply gAddL) | (with_reducible apply gSumL) | (with_reducible apply gMax0) | (with_reducible apply gMax2) | (with_reducible apply gMaxP) | (with_reducible apply gAllL) | (with_reducible apply gTupL) | (with_reducible apply gTupT) | (with_reducible apply gListT) | (with_reducible apply gLenT) | (with_reducible apply gIsiT) | (with_reducible apply gIsNT) | (with_reducible apply gEqL0) | (with_reducible apply gNeL0) | (with_reducible apply gMul_ok) | (with_reducible apply gAdd_ok) | (with_reducible apply gSub_ok) | (with_reducible apply gEqI) | (with_reducible apply gNeI) | (with_reducible apply gLt_ok) | (with_reducible apply gLe_ok) | (with_reducible apply gGt_ok) | (with_reducible apply gGe_ok) | (with_reducible apply gInt_ok) | (with_reducible apply mulB_ok) | (with_reducible apply lim_ok) | ((with_reducible apply ite_t); (first | assumption | (exact decide_eq_true (by omega)) | (exact decide_eq_false (by omega)) | (simp only [Bool.not_eq_true', Bool.not_eq_false', Bool.not_not, decide_eq_false_iff_not, decide_eq_true_eq, Bool.false_eq_true, if_true, if_false, Bool.not_false, Bool.not_true, reduceIte]; omega) | exact rfl)) | ((with_reducible apply ite_f); (first | assumption | (exact decide_eq_true (by omega)) | (exact decide_eq_false (by omega)) | (simp only [Bool.not_eq_true', Bool.not_eq_false', Bool.not_not, decide_eq_false_iff_not, decide_eq_true_eq, Bool.false_eq_true, if_true, if_false, Bool.not_false, Bool.not_true, reduceIte]; omega) | exact rfl)) | (simp only [List.set_cons_succ, List.set_cons_zero, wipeD]; exact rfl) | (simp only [List.length_cons, List.length_nil]; omega) | (exact rfl) | (omega)))
  have fin : ∀ (mu2 : Mu) (great2 : List Int) (rest2 : Int), At mu2 great2 cells rest2 turn → (∀ g ∈ great2, 0 ≤ g) → 0 ≤ rest2 → Fr mu mu2 → (mIfS (mTAnd (mTest (mOp (gEq false) (mOp gIx (mVar 0) (mC (.str "rest"))) (mC (.int 0)))) (mTest (mOp (gEq true) (mOp gIx (mVar 0) (mC (.str "great"))) (mLst false mNil))))
  (mSet (mMet isLst gPopAt (mOp gIx (mVar 0) (mC (.str "great"))) (mCons (mC (.int 0)) mNil)) (mVar 0) (mC (.str "rest")))
  mSkip) [some (.cell 1), some (.int many), none] mu = .nx [some (.cell 1), some (.int many), none] mu2 → ∃ (r : Int) (mu' : Mu), dTake [.cell 1, .int many] mu = .ok (.int r) mu' ∧ 0 ≤ r ∧ r < many ∧ Draw (n + 1) mu' ∧ Fr mu mu' := by
    intro mu2 great2 rest2 a2 hg2 hr2 fr hx
    obtain ⟨r, mu', e, k⟩ := part2 mu2 great2 rest2 a2 hg2 hr2 fr
    refine ⟨r, mu', denF_rt (env0 := [some (.cell 1), some (.int many), none]) rfl ?_, k⟩
    unfold m_take
    exact mSeq_eq hx (seqNx e)
  have ne := great_ne a
  by_cases e : rest = 0
  · cases hgr : great with
    | nil =>
      refine fin mu great rest a hg hr Fr.rfl ?_
      rw [hgr] at ne
      have ne : gEq true mu (.cell 0) (.lst []) = some (.bl false, mu) := ne
      (repeat' (first | (with_reducible assumption) | (with_reducible exact a.ixRest) | (with_reducible exact a.ixGreat) | (with_reducible exact ne) | (with_reducible apply mVar_ok) | (with_reducible apply mC_ok) | (with_reducible apply mOp_ok) | (with_reducible apply mTest_ok) | (with_reducible apply mCons_ok) | (with_reducible apply mNil_ok) | (with_reducible apply mCall_ok) | (with_reducible apply mCallF_ok) | (with_reducible apply mSeq_eq) | (with_reducible apply seqNx) | (with_reducible apply seqRt) | (with_reducible apply mSkip_ok) | (with_reducible apply mRet_ok) | (with_reducible apply mRetN_ok) | (with_reducible apply mExpr_ok) | (with_reducible apply mAsg_ok) | (with_reducible apply mGName_ok) | (with_reducible apply mIfS_ok) | (with_reducible apply mTAnd_ok) | (with_reducible apply mTOr_ok) | (with_reducible apply mTNot_ok) | (with_reducible apply mAnd_ok) | (with_reducible apply mOr_ok) | (with_reducible apply mNot_ok) | (with_reducible apply mIf_ok) | (with_reducible apply mChain_ok) | (with_reducible apply bindO_ok) | (with_reducible apply mTup_ok) | (with_reducible apply mLst_ok) | (with_reducible apply mLst_okC) | (with_reducible apply mUn_ok) | (with_reducible apply mMet_ok) | (with_reducible apply mMetC_ok) | (with_reducible apply mGTup_ok) | (with_reducible apply mGCons_ok) | (with_reducible apply mGNil_ok) | (with_reducible apply mPar_ok) | (with_reducible apply mPar3_ok) | (with_reducible apply mSet_ok) | (with_reducible apply mSeqI_ok) | (with_reducible apply mRange1_ok) | (with_reducible apply mZip_ok) | (with_reducible apply mFrz_ok) | (with_reducible apply mFor_ok) | (with_reducible apply mCallV_ok) | (with_reducible apply gAddL) | (with_reducible apply gSumL) | (with_reducible apply gMax0) | (with_reducible apply gMax2) | (with_reducible apply gMaxP) | (with_reducible apply gAllL) | (with_reducible apply gTupL) | (with_reducible apply gTupT) | (with_reducible apply gListT) | (with_reducible apply gLenT) | (with_reducible apply gIsiT) | (with_reducible apply gIsNT) | (with_reducible apply gEqL0) | (with_reducible apply gNeL0) | (with_reducible apply gMul_ok) | (with_reducible apply gAdd_ok) | (with_reducible apply gSub_ok) | (with_reducible apply gEqI) | (with_reducible apply gNeI) | (with_reducible apply gLt_ok) | (with_reducible apply gLe_ok) | (with_reducible apply gGt_ok) | (with_reducible apply gGe_ok) | (with_reducible apply gInt_ok) | (with_reducible apply mulB_ok) | (with_reducible apply lim_ok) | ((with_reducible apply ite_t); (first | assumption | (exact decide_eq_true (by omega)) | (exact decide_eq_false (by omega)) | (simp only [Bool.not_eq_true', Bool.not_eq_false', Bool.not_not, decide_eq_false_iff_not, decide_eq_true_eq, Bool.false_eq_true, if_true, if_false, Bool.not_false, Bool.not_true, reduceIte]; omega) | exact rfl)) | ((with_reducible apply ite_f); (first | assumption | (exact decide_eq_true (by omega)) | (exact decide_eq_false (by omega)) | (simp only [Bool.not_eq_true', Bool.not_eq_false', Bool.not_not, decide_eq_false_iff_not, decide_eq_true_eq, Bool.false_eq_true, if_true, if_false, Bool.not_false, Bool.not_true, reduceIte]; omega) | exact rfl)) | (simp only [List.set_cons_succ, List.set_cons_zero, wipeD]; exact rfl) | (simp only [List.length_cons, List.length_nil]; omega) | (exact rfl) | (omega)))
    | cons g gs =>
      have a1 := a.pop gs
      have a2 := a1.next g turn
      have hs := a1.setRest g
      refine fin _ gs g a2 (fun x hx => hg x (by rw [hgr]; exact List.mem_cons_of_mem _ hx)) (hg g (by rw [hgr]; exact List.mem_cons_self)) ((Fr.set (by decide)).trans (Fr.set (by decide))) ?_
      rw [hgr] at ne
      have ne : gEq true mu (.cell 0) (.lst []) = some (.bl true, mu) := ne
      have hp := pop_ok a hgr
      have hi := isLst0 a
      (repeat' (first | (with_reducible assumption) | (with_reducible exact a.ixRest) | (with_reducible exact a.ixGreat) | (with_reducible exact ne) | (with_reducible exact hp) | (with_reducible exact hs) | (with_reducible apply mVar_ok) | (with_reducible apply mC_ok) | (with_reducible apply mOp_ok) | (with_reducible apply mTest_ok) | (with_reducible apply mCons_ok) | (with_reducible apply mNil_ok) | (with_reducible apply mCall_ok) | (with_reducible apply mCallF_ok) | (with_reducible apply mSeq_eq) | (with_reducible apply seqNx) | (with_reducible apply seqRt) | (with_reducible apply mSkip_ok) | (with_reducible apply mRet_ok) | (with_reducible apply mRetN_ok) | (with_reducible apply mExpr_ok) | (with_reducible apply mAsg_ok) | (with_reducible apply mGName_ok) | (with_reducible apply mIfS_ok) | (with_reducible apply mTAnd_ok) | (with_reducible apply mTOr_ok) | (with_reducible apply mTNot_ok) | (with_reducible apply mAnd_ok) | (with_reducible apply mOr_ok) | (with_reducible apply mNot_ok) | (with_reducible apply mIf_ok) | (with_reducible apply mChain_ok) | (with_reducible apply bindO_ok) | (with_reducible apply mTup_ok) | (with_reducible apply mLst_ok) | (with_reducible apply mLst_okC) | (with_reducible apply mUn_ok) | (with_reducible apply mMet_ok) | (with_reducible apply mMetC_ok) | (with_reducible apply mGTup_ok) | (with_reducible apply mGCons_ok) | (with_reducible apply mGNil_ok) | (with_reducible apply mPar_ok) | (with_reducible apply mPar3_ok) | (with_reducible apply mSet_ok) | (with_reducible apply mSeqI_ok) | (with_reducible apply mRange1_ok) | (with_reducible apply mZip_ok) | (with_reducible apply mFrz_ok) | (with_reducible apply mFor_ok) | (with_reducible apply mCallV_ok) | (with_reducible apply gAddL) | (with_reducible apply gSumL) | (with_reducible apply gMax0) | (with_reducible apply gMax2) | (with_reducible apply gMaxP) | (with_reducible apply gAllL) | (with_reducible apply gTupL) | (with_reducible apply gTupT) | (with_reducible apply gListT) | (with_reducible apply gLenT) | (with_reducible apply gIsiT) | (with_reducible apply gIsNT) | (with_reducible apply gEqL0) | (with_reducible apply gNeL0) | (with_reducible apply gMul_ok) | (with_reducible apply gAdd_ok) | (with_reducible apply gSub_ok) | (with_reducible apply gEqI) | (with_reducible apply gNeI) | (with_reducible apply gLt_ok) | (with_reducible apply gLe_ok) | (with_reducible apply gGt_ok) | (with_reducible apply gGe_ok) | (with_reducible apply gInt_ok) | (with_reducible apply mulB_ok) | (with_reducible apply lim_ok) | ((with_reducible apply ite_t); (first | assumption | (exact decide_eq_true (by omega)) | (exact decide_eq_false (by omega)) | (simp only [Bool.not_eq_true', Bool.not_eq_false', Bool.not_not, decide_eq_false_iff_not, decide_eq_true_eq, Bool.false_eq_true, if_true, if_false, Bool.not_false, Bool.not_true, reduceIte]; omega) | exact rfl)) | ((with_reducible apply ite_f); (first | assumption | (exact decide_eq_true (by omega)) | (exact decide_eq_false (by omega)) | (simp only [Bool.not_eq_true', Bool.not_eq_false', Bool.not_not, decide_eq_false_iff_not, decide_eq_true_eq, Bool.false_eq_true, if_true, if_false, Bool.not_false, Bool.not_true, reduceIte]; omega) | exact rfl)) | (simp only [List.set_cons_succ, List.set_cons_zero, wipeD]; exact rfl) | (simp only [List.length_cons, List.length_nil]; omega) | (exact rfl) | (omega)))
  · refine fin mu great rest a hg hr Fr.rfl ?_
    (repeat' (first | (with_reducible assumption) | (with_reducible exact a.ixRest) | (with_reducible apply mVar_ok) | (with_reducible apply mC_ok) | (with_reducible apply mOp_ok) | (with_reducible apply mTest_ok) | (with_reducible apply mCons_ok) | (with_reducible apply mNil_ok) | (with_reducible apply mCall_ok) | (with_reducible apply mCallF_ok) | (with_reducible apply mSeq_eq) | (with_reducible apply seqNx) | (with_reducible apply seqRt) | (with_reducible apply mSkip_ok) | (with_reducible apply mRet_ok) | (with_reducible apply mRetN_ok) | (with_reducible apply mExpr_ok) | (with_reducible apply mAsg_ok) | (with_reducible apply mGName_ok) | (with_reducible apply mIfS_ok) | (with_reducible apply mTAnd_ok) | (with_reducible apply mTOr_ok) | (with_reducible apply mTNot_ok) | (with_reducible apply mAnd_ok) | (with_reducible apply mOr_ok) | (with_reducible apply mNot_ok) | (with_reducible apply mIf_ok) | (with_reducible apply mChain_ok) | (with_reducible apply bindO_ok) | (with_reducible apply mTup_ok) | (with_reducible apply mLst_ok) | (with_reducible apply mLst_okC) | (with_reducible apply mUn_ok) | (with_reducible apply mMet_ok) | (with_reducible apply mMetC_ok) | (with_reducible apply mGTup_ok) | (with_reducible apply mGCons_ok) | (with_reducible apply mGNil_ok) | (with_reducible apply mPar_ok) | (with_reducible apply mPar3_ok) | (with_reducible apply mSet_ok) | (with_reducible apply mSeqI_ok) | (with_reducible apply mRange1_ok) | (with_reducible apply mZip_ok) | (with_reducible apply mFrz_ok) | (with_reducible apply mFor_ok) | (with_reducible apply mCallV_ok) | (with_reducible apply gAddL) | (with_reducible apply gSumL) | (with_reducible apply gMax0) | (with_reducible apply gMax2) | (with_reducible apply gMaxP) | (with_reducible apply gAllL) | (with_reducible apply gTupL) | (with_reducible apply gTupT) | (with_reducible apply gListT) | (with_reducible apply gLenT) | (with_reducible apply gIsiT) | (with_reducible apply gIsNT) | (with_reducible apply gEqL0) | (with_reducible apply gNeL0) | (with_reducible apply gMul_ok) | (with_reducible apply gAdd_ok) | (with_reducible apply gSub_ok) | (with_reducible apply gEqI) | (with_reducible apply gNeI) | (with_reducible apply gLt_ok) | (with_reducible apply gLe_ok) | (with_reducible apply gGt_ok) | (with_reducible apply gGe_ok) | (with_reducible apply gInt_ok) | (with_reducible apply mulB_ok) | (with_reducible apply lim_ok) | ((with_reducible apply ite_t); (first | assumption | (exact decide_eq_true (by omega)) | (exact decide_eq_false (by omega)) | (simp only [Bool.not_eq_true', Bool.not_eq_false', Bool.not_not, decide_eq_false_iff_not, decide_eq_true_eq, Bool.false_eq_true, if_true, if_false, Bool.not_false, Bool.not_true, reduceIte]; omega) | exact rfl)) | ((with_reducible apply ite_f); (first | assumption | (exact decide_eq_true (by omega)) | (exact decide_eq_false (by omega)) | (simp only [Bool.not_eq_true', Bool.not_eq_false', Bool.not_not, decide_eq_false_iff_not, decide_eq_true_eq, Bool.false_eq_true, if_true, if_false, Bool.not_false, Bool.not_true, reduceIte]; omega) | exact rfl)) | (simp only [List.set_cons_succ, List.set_cons_zero, wipeD]; exact rfl) | (simp only [List.length_cons, List.length_nil]; omega) | (exact rfl) | (omega)))

theorem atI_ok {l : List D} {i : Int} (h0 : 0 ≤ i) (h1 : i < l.length) : ∃ d, d ∈ l ∧ l[i.toNat]? = some d ∧ atI l i = some d := by
  have hi : i.toNat < l.length := by omega
  refine ⟨l[i.toNat], List.getElem_mem hi, List.getElem?_eq_getElem hi, ?_⟩
  have := atI_nat (xs := l) (j := i.toNat) (v := l[i.toNat]) (List.getElem?_eq_getElem hi)
  rwa [Int.toNat_of_nonneg h0] at this
theorem log_len {n : Nat} (h : n ≤ 1000000) : ((n : Int)).natAbs.log2 < 9000 := by
  rw [Int.natAbs_natCast]
  by_cases e : n = 0
  · subst e; decide
  · exact Nat.lt_of_lt_of_le (m := 31) ((Nat.log2_lt e).mpr (by omega)) (by omega)
theorem pick_ok {mu : Mu} {n : Nat} {ds : List D} (h : Draw n mu) (hn : n ≤ 900000000) (h0 : 0 < ds.length) (hl : ds.length ≤ 1000000) :
    ∃ (d : D) (mu' : Mu), d ∈ ds ∧ dPick [.cell 1, .lst ds] mu = .ok d mu' ∧ Draw (n + 1) mu' ∧ Fr mu mu' := by
  obtain ⟨r, mu', e, r0, r1, h', fr⟩ := take_ok (many := ds.length) h hn (by omega) (log_len hl)
  obtain ⟨d, hd, _, ha⟩ := atI_ok r0 r1
  refine ⟨d, mu', hd, denF_rt (env0 := [some (.cell 1), some (.lst ds)]) rfl ?_, h', fr⟩
  have hi : gIx mu' (.lst ds) (.int r) = some (d, mu') := by
    show (atI ds r).map _ = _
    rw [ha]; rfl
  have hlen : gLen mu [.lst ds] = some (.int ds.length, mu) := rfl
  unfold m_pick
  (repeat' (first | (with_reducible assumption) | (with_reducible exact e) | (with_reducible exact hi) | (with_reducible exact hlen) | (with_reducible apply mVar_ok) | (with_reducible apply mC_ok) | (with_reducible apply mOp_ok) | (with_reducible apply mTest_ok) | (with_reducible apply mCons_ok) | (with_reducible apply mNil_ok) | (with_reducible apply mCall_ok) | (with_reducible apply mCallF_ok) | (with_reducible apply mSeq_eq) | (with_reducible apply seqNx) | (with_reducible apply seqRt) | (with_reducible apply mSkip_ok) | (with_reducible apply mRet_ok) | (with_reducible apply mRetN_ok) | (with_reducible apply mExpr_ok) | (with_reducible apply mAsg_ok) | (with_reducible apply mGName_ok) | (with_reducible apply mIfS_ok) | (with_reducible apply mTAnd_ok) | (with_reducible apply mTOr_ok) | (with_reducible apply mTNot_ok) | (with_reducible apply mAnd_ok) | (with_reducible apply mOr_ok) | (with_reducible apply mNot_ok) | (with_reducible apply mIf_ok) | (with_reducible apply mChain_ok) | (with_reducible apply bindO_ok) | (with_reducible apply mTup_ok) | (with_reducible apply mLst_ok) | (with_reducible apply mLst_okC) | (with_reducible apply mUn_ok) | (with_reducible apply mMet_ok) | (with_reducible apply mMetC_ok) | (with_reducible apply mGTup_ok) | (with_reducible apply mGCons_ok) | (with_reducible apply mGNil_ok) | (with_reducible apply mPar_ok) | (with_reducible apply mPar3_ok) | (with_reducible apply mSet_ok) | (with_reducible apply mSeqI_ok) | (with_reducible apply mRange1_ok) | (with_reducible apply mZip_ok) | (with_reducible apply mFrz_ok) | (with_reducible apply mFor_ok) | (with_reducible apply mCallV_ok) | (with_reducible apply gAddL) | (with_reducible apply gSumL) | (with_reducible apply gMax0) | (with_reducible apply gMax2) | (with_reducible apply gMaxP) | (with_reducible apply gAllL) | (with_reducible apply gTupL) | (with_reducible apply gTupT) | (with_reducible apply gListT) | (with_reducible apply gLenT) | (with_reducible apply gIsiT) | (with_reducible apply gIsNT) | (with_reducible apply gEqL0) | (with_reducible apply gNeL0) | (with_reducible apply gMul_ok) | (with_reducible apply gAdd_ok) | (with_reducible apply gSub_ok) | (with_reducible apply gEqI) | (with_reducible apply gNeI) | (with_reducible apply gLt_ok) | (with_reducible apply gLe_ok) | (with_reducible apply gGt_ok) | (with_reducible apply gGe_ok) | (with_reducible apply gInt_ok) | (with_reducible apply mulB_ok) | (with_reducible apply lim_ok) | ((with_reducible apply ite_t); (first | assumption | (exact decide_eq_true (by omega)) | (exact decide_eq_false (by omega)) | (simp only [Bool.not_eq_true', Bool.not_eq_false', Bool.not_not, decide_eq_false_iff_not, decide_eq_true_eq, Bool.false_eq_true, if_true, if_false, Bool.not_false, Bool.not_true, reduceIte]; omega) | exact rfl)) | ((with_reducible apply ite_f); (first | assumption | (exact decide_eq_true (by omega)) | (exact decide_eq_false (by omega)) | (simp only [Bool.not_eq_true', Bool.not_eq_false', Bool.not_not, decide_eq_false_iff_not, decide_eq_true_eq, Bool.false_eq_true, if_true, if_false, Bool.not_false, Bool.not_true, reduceIte]; omega) | exact rfl)) | (simp only [List.set_cons_succ, List.set_cons_zero, wipeD]; exact rfl) | (simp only [List.length_cons, List.length_nil]; omega) | (exact rfl) | (omega)))
theorem pick_tup {mu : Mu} {n : Nat} {ds : List D} (h : Draw n mu) (hn : n ≤ 900000000) (h0 : 0 < ds.length) (hl : ds.length ≤ 1000000) :
    ∃ (d : D) (mu' : Mu), d ∈ ds ∧ dPick [.cell 1, .tup ds] mu = .ok d mu' ∧ Draw (n + 1) mu' ∧ Fr mu mu' := by
  obtain ⟨r, mu', e, r0, r1, h', fr⟩ := take_ok (many := ds.length) h hn (by omega) (log_len hl)
  obtain ⟨d, hd, _, ha⟩ := atI_ok r0 r1
  refine ⟨d, mu', hd, denF_rt (env0 := [some (.cell 1), some (.tup ds)]) rfl ?_, h', fr⟩
  have hi : gIx mu' (.tup ds) (.int r) = some (d, mu') := by
    show (atI ds r).map _ = _
    rw [ha]; rfl
  have hlen : gLen mu [.tup ds] = some (.int ds.length, mu) := rfl
  unfold m_pick
  (repeat' (first | (with_reducible assumption) | (with_reducible exact e) | (with_reducible exact hi) | (with_reducible exact hlen) | (with_reducible apply mVar_ok) | (with_reducible apply mC_ok) | (with_reducible apply mOp_ok) | (with_reducible apply mTest_ok) | (with_reducible apply mCons_ok) | (with_reducible apply mNil_ok) | (with_reducible apply mCall_ok) | (with_reducible apply mCallF_ok) | (with_reducible apply mSeq_eq) | (with_reducible apply seqNx) | (with_reducible apply seqRt) | (with_reducible apply mSkip_ok) | (with_reducible apply mRet_ok) | (with_reducible apply mRetN_ok) | (with_reducible apply mExpr_ok) | (with_reducible apply mAsg_ok) | (with_reducible apply mGName_ok) | (with_reducible apply mIfS_ok) | (with_reducible apply mTAnd_ok) | (with_reducible apply mTOr_ok) | (with_reducible apply mTNot_ok) | (with_reducible apply mAnd_ok) | (with_reducible apply mOr_ok) | (with_reducible apply mNot_ok) | (with_reducible apply mIf_ok) | (with_reducible apply mChain_ok) | (with_reducible apply bindO_ok) | (with_reducible apply mTup_ok) | (with_reducible apply mLst_ok) | (with_reducible apply mLst_okC) | (with_reducible apply mUn_ok) | (with_reducible apply mMet_ok) | (with_reducible apply mMetC_ok) | (with_reducible apply mGTup_ok) | (with_reducible apply mGCons_ok) | (with_reducible apply mGNil_ok) | (with_reducible apply mPar_ok) | (with_reducible apply mPar3_ok) | (with_reducible apply mSet_ok) | (with_reducible apply mSeqI_ok) | (with_reducible apply mRange1_ok) | (with_reducible apply mZip_ok) | (with_reducible apply mFrz_ok) | (with_reducible apply mFor_ok) | (with_reducible apply mCallV_ok) | (with_reducible apply gAddL) | (with_reducible apply gSumL) | (with_reducible apply gMax0) | (with_reducible apply gMax2) | (with_reducible apply gMaxP) | (with_reducible apply gAllL) | (with_reducible apply gTupL) | (with_reducible apply gTupT) | (with_reducible apply gListT) | (with_reducible apply gLenT) | (with_reducible apply gIsiT) | (with_reducible apply gIsNT) | (with_reducible apply gEqL0) | (with_reducible apply gNeL0) | (with_reducible apply gMul_ok) | (with_reducible apply gAdd_ok) | (with_reducible apply gSub_ok) | (with_reducible apply gEqI) | (with_reducible apply gNeI) | (with_reducible apply gLt_ok) | (with_reducible apply gLe_ok) | (with_reducible apply gGt_ok) | (with_reducible apply gGe_ok) | (with_reducible apply gInt_ok) | (with_reducible apply mulB_ok) | (with_reducible apply lim_ok) | ((with_reducible apply ite_t); (first | assumption | (exact decide_eq_true (by omega)) | (exact decide_eq_false (by omega)) | (simp only [Bool.not_eq_true', Bool.not_eq_false', Bool.not_not, decide_eq_false_iff_not, decide_eq_true_eq, Bool.false_eq_true, if_true, if_false, Bool.not_false, Bool.not_true, reduceIte]; omega) | exact rfl)) | ((with_reducible apply ite_f); (first | assumption | (exact decide_eq_true (by omega)) | (exact decide_eq_false (by omega)) | (simp only [Bool.not_eq_true', Bool.not_eq_false', Bool.not_not, decide_eq_false_iff_not, decide_eq_true_eq, Bool.false_eq_true, if_true, if_false, Bool.not_false, Bool.not_true, reduceIte]; omega) | exact rfl)) | (simp only [List.set_cons_succ, List.set_cons_zero, wipeD]; exact rfl) | (simp only [List.length_cons, List.length_nil]; omega) | (exact rfl) | (omega)))
theorem abs_ok {mu : Mu} {i : Int} : g1I (fun i => if i < 0 then -i else i) mu [.int i] = some (.int (if i < 0 then -i else i), mu) := rfl
theorem begin_ok {ns : List Int} (hl : ns.length ≤ 63) : ∃ mu, dBegin [scriptD ns] [] = .ok (.cell 1) mu ∧ Draw 0 mu ∧ mu.length = 2 := by
  let f : Int → Int := fun i => if i < 0 then -i else i
  have f0 : ∀ i, 0 ≤ f i := fun i => by show 0 ≤ (if i < 0 then -i else i); split <;> omega
  have hp : ∀ mu : Mu, gPow mu (.int 10) (.int 18) = some (.int (10 ^ 18), mu) := fun mu => gPow_ok (j := 18) (by have := bits31 (x := 10) (by omega) (by omega); omega)
  have e1 : q_begin1 [some (scriptD ns), none, none] [] = .ok (.cell 0) [.lst ((((ns.filter fun i => decide (10 ^ 18 ≤ f i)).map fun i => f i - 10 ^ 18)).map D.int)] := by
    unfold q_begin1
    rw [mLc_mapC (enc := D.int) (p := fun i => decide (10 ^ 18 ≤ f i)) (f := fun i => .int (f i - 10 ^ 18)) ns ?_ ?_ (by omega)]
    · rw [List.map_map]; rfl
    · have : scriptD ns = .rl (ns.map D.int) := rfl
      rw [this]
      (repeat' (first | (with_reducible assumption) | (with_reducible apply mVar_ok) | (with_reducible apply mC_ok) | (with_reducible apply mOp_ok) | (with_reducible apply mTest_ok) | (with_reducible apply mCons_ok) | (with_reducible apply mNil_ok) | (with_reducible apply mCall_ok) | (with_reducible apply mCallF_ok) | (with_reducible apply mSeq_eq) | (with_reducible apply seqNx) | (with_reducible apply seqRt) | (with_reducible apply mSkip_ok) | (with_reducible apply mRet_ok) | (with_reducible apply mRetN_ok) | (with_reducible apply mExpr_ok) | (with_reducible apply mAsg_ok) | (with_reducible apply mGName_ok) | (with_reducible apply mIfS_ok) | (with_reducible apply mTAnd_ok) | (with_reducible apply mTOr_ok) | (with_reducible apply mTNot_ok) | (with_reducible apply mAnd_ok) | (with_reducible apply mOr_ok) | (with_reducible apply mNot_ok) | (with_reducible apply mIf_ok) | (with_reducible apply mChain_ok) | (with_reducible apply bindO_ok) | (with_reducible apply mTup_ok) | (with_reducible apply mLst_ok) | (with_reducible apply mLst_okC) | (with_reducible apply mUn_ok) | (with_reducible apply mMet_ok) | (with_reducible apply mMetC_ok) | (with_reducible apply mGTup_ok) | (with_reducible apply mGCons_ok) | (with_reducible apply mGNil_ok) | (with_reducible apply mPar_ok) | (with_reducible apply mPar3_ok) | (with_reducible apply mSet_ok) | (with_reducible apply mSeqI_ok) | (with_reducible apply mRange1_ok) | (with_reducible apply mZip_ok) | (with_reducible apply mFrz_ok) | (with_reducible apply mFor_ok) | (with_reducible apply mCallV_ok) | (with_reducible apply gAddL) | (with_reducible apply gSumL) | (with_reducible apply gMax0) | (with_reducible apply gMax2) | (with_reducible apply gMaxP) | (with_reducible apply gAllL) | (with_reducible apply gTupL) | (with_reducible apply gTupT) | (with_reducible apply gListT) | (with_reducible apply gLenT) | (with_reducible apply gIsiT) | (with_reducible apply gIsNT) | (with_reducible apply gEqL0) | (with_reducible apply gNeL0) | (with_reducible apply gMul_ok) | (with_reducible apply gAdd_ok) | (with_reducible apply gSub_ok) | (with_reducible apply gEqI) | (with_reducible apply gNeI) | (with_reducible apply gLt_ok) | (with_reducible apply gLe_ok) | (with_reducible apply gGt_ok) | (with_reducible apply gGe_ok) | (with_reducible apply gInt_ok) | (with_reducible apply mulB_ok) | (with_reducible apply lim_ok) | ((with_reducible apply ite_t); (first | assumption | (exact decide_eq_true (by omega)) | (exact decide_eq_false (by omega)) | (simp only [Bool.not_eq_true', Bool.not_eq_false', Bool.not_not, decide_eq_false_iff_not, decide_eq_true_eq, Bool.false_eq_true, if_true, if_false, Bool.not_false, Bool.not_true, reduceIte]; omega) | exact rfl)) | ((with_reducible apply ite_f); (first | assumption | (exact decide_eq_true (by omega)) | (exact decide_eq_false (by omega)) | (simp only [Bool.not_eq_true', Bool.not_eq_false', Bool.not_not, decide_eq_false_iff_not, decide_eq_true_eq, Bool.false_eq_true, if_true, if_false, Bool.not_false, Bool.not_true, reduceIte]; omega) | exact rfl)) | (simp only [List.set_cons_succ, List.set_cons_zero, wipeD]; exact rfl) | (simp only [List.length_cons, List.length_nil]; omega) | (exact rfl) | (omega)))
    · intro i hi
      refine ⟨[some (scriptD ns), none, some (.int i)], rfl, ?_, fun _ => ?_⟩
      · (repeat' (first | (with_reducible assumption) | (with_reducible exact abs_ok) | (with_reducible exact hp _) | (with_reducible apply mVar_ok) | (with_reducible apply mC_ok) | (with_reducible apply mOp_ok) | (with_reducible apply mTest_ok) | (with_reducible apply mCons_ok) | (with_reducible apply mNil_ok) | (with_reducible apply mCall_ok) | (with_reducible apply mCallF_ok) | (with_reducible apply mSeq_eq) | (with_reducible apply seqNx) | (with_reducible apply seqRt) | (with_reducible apply mSkip_ok) | (with_reducible apply mRet_ok) | (with_reducible apply mRetN_ok) | (with_reducible apply mExpr_ok) | (with_reducible apply mAsg_ok) | (with_reducible apply mGName_ok) | (with_reducible apply mIfS_ok) | (with_reducible apply mTAnd_ok) | (with_reducible apply mTOr_ok) | (with_reducible apply mTNot_ok) | (with_reducible apply mAnd_ok) | (with_reducible apply mOr_ok) | (with_reducible apply mNot_ok) | (with_reducible apply mIf_ok) | (with_reducible apply mChain_ok) | (with_reducible apply bindO_ok) | (with_reducible apply mTup_ok) | (with_reducible apply mLst_ok) | (with_reducible apply mLst_okC) | (with_reducible apply mUn_ok) | (with_reducible apply mMet_ok) | (with_reducible apply mMetC_ok) | (with_reducible apply mGTup_ok) | (with_reducible apply mGCons_ok) | (with_reducible apply mGNil_ok) | (with_reducible apply mPar_ok) | (with_reducible apply mPar3_ok) | (with_reducible apply mSet_ok) | (with_reducible apply mSeqI_ok) | (with_reducible apply mRange1_ok) | (with_reducible apply mZip_ok) | (with_reducible apply mFrz_ok) | (with_reducible apply mFor_ok) | (with_reducible apply mCallV_ok) | (with_reducible apply gAddL) | (with_reducible apply gSumL) | (with_reducible apply gMax0) | (with_reducible apply gMax2) | (with_reducible apply gMaxP) | (with_reducible apply gAllL) | (with_reducible apply gTupL) | (with_reducible apply gTupT) | (with_reducible apply gListT) | (with_reducible apply gLenT) | (with_reducible apply gIsiT) | (with_reducible apply gIsNT) | (with_reducible apply gEqL0) | (with_reducible apply gNeL0) | (with_reducible apply gMul_ok) | (with_reducible apply gAdd_ok) | (with_reducible apply gSub_ok) | (with_reducible apply gEqI) | (with_reducible apply gNeI) | (with_reducible apply gLt_ok) | (with_reducible apply gLe_ok) | (with_reducible apply gGt_ok) | (with_reducible apply gGe_ok) | (with_reducible apply gInt_ok) | (with_reducible apply mulB_ok) | (with_reducible apply lim_ok) | ((with_reducible apply ite_t); (first | assumption | (exact decide_eq_true (by omega)) | (exact decide_eq_false (by omega)) | (simp only [Bool.not_eq_true', Bool.not_eq_false', Bool.not_not, decide_eq_false_iff_not, decide_eq_true_eq, Bool.false_eq_true, if_true, if_false, Bool.not_false, Bool.not_true, reduceIte]; omega) | exact rfl)) | ((with_reducible apply ite_f); (first | assumption | (exact decide_eq_true (by omega)) | (exact decide_eq_false (by omega)) | (simp only [Bool.not_eq_true', Bool.not_eq_false', Bool.not_not, decide_eq_false_iff_not, decide_eq_true_eq, Bool.false_eq_true, if_true, if_false, Bool.not_false, Bool.not_true, reduceIte]; omega) | exact rfl)) | (simp only [List.set_cons_succ, List.set_cons_zero, wipeD]; exact rfl) | (simp only [List.length_cons, List.length_nil]; omega) | (exact rfl) | (omega)))
      · (repeat' (first | (with_reducible assumption) | (with_reducible exact abs_ok) | (with_reducible exact hp _) | (with_reducible apply mVar_ok) | (with_reducible apply mC_ok) | (with_reducible apply mOp_ok) | (with_reducible apply mTest_ok) | (with_reducible apply mCons_ok) | (with_reducible apply mNil_ok) | (with_reducible apply mCall_ok) | (with_reducible apply mCallF_ok) | (with_reducible apply mSeq_eq) | (with_reducible apply seqNx) | (with_reducible apply seqRt) | (with_reducible apply mSkip_ok) | (with_reducible apply mRet_ok) | (with_reducible apply mRetN_ok) | (with_reducible apply mExpr_ok) | (with_reducible apply mAsg_ok) | (with_reducible apply mGName_ok) | (with_reducible apply mIfS_ok) | (with_reducible apply mTAnd_ok) | (with_reducible apply mTOr_ok) | (with_reducible apply mTNot_ok) | (with_reducible apply mAnd_ok) | (with_reducible apply mOr_ok) | (with_reducible apply mNot_ok) | (with_reducible apply mIf_ok) | (with_reducible apply mChain_ok) | (with_reducible apply bindO_ok) | (with_reducible apply mTup_ok) | (with_reducible apply mLst_ok) | (with_reducible apply mLst_okC) | (with_reducible apply mUn_ok) | (with_reducible apply mMet_ok) | (with_reducible apply mMetC_ok) | (with_reducible apply mGTup_ok) | (with_reducible apply mGCons_ok) | (with_reducible apply mGNil_ok) | (with_reducible apply mPar_ok) | (with_reducible apply mPar3_ok) | (with_reducible apply mSet_ok) | (with_reducible apply mSeqI_ok) | (with_reducible apply mRange1_ok) | (with_reducible apply mZip_ok) | (with_reducible apply mFrz_ok) | (with_reducible apply mFor_ok) | (with_reducible apply mCallV_ok) | (with_reducible apply gAddL) | (with_reducible apply gSumL) | (with_reducible apply gMax0) | (with_reducible apply gMax2) | (with_reducible apply gMaxP) | (with_reducible apply gAllL) | (with_reducible apply gTupL) | (with_reducible apply gTupT) | (with_reducible apply gListT) | (with_reducible apply gLenT) | (with_reducible apply gIsiT) | (with_reducible apply gIsNT) | (with_reducible apply gEqL0) | (with_reducible apply gNeL0) | (with_reducible apply gMul_ok) | (with_reducible apply gAdd_ok) | (with_reducible apply gSub_ok) | (with_reducible apply gEqI) | (with_reducible apply gNeI) | (with_reducible apply gLt_ok) | (with_reducible apply gLe_ok) | (with_reducible apply gGt_ok) | (with_reducible apply gGe_ok) | (with_reducible apply gInt_ok) | (with_reducible apply mulB_ok) | (with_reducible apply lim_ok) | ((with_reducible apply ite_t); (first | assumption | (exact decide_eq_true (by omega)) | (exact decide_eq_false (by omega)) | (simp only [Bool.not_eq_true', Bool.not_eq_false', Bool.not_not, decide_eq_false_iff_not, decide_eq_true_eq, Bool.false_eq_true, if_true, if_false, Bool.not_false, Bool.not_true, reduceIte]; omega) | exact rfl)) | ((with_reducible apply ite_f); (first | assumption | (exact decide_eq_true (by omega)) | (exact decide_eq_false (by omega)) | (simp only [Bool.not_eq_true', Bool.not_eq_false', Bool.not_not, decide_eq_false_iff_not, decide_eq_true_eq, Bool.false_eq_true, if_true, if_false, Bool.not_false, Bool.not_true, reduceIte]; omega) | exact rfl)) | (simp only [List.set_cons_succ, List.set_cons_zero, wipeD]; exact rfl) | (simp only [List.length_cons, List.length_nil]; omega) | (exact rfl) | (omega)))
  have e2 : ∀ mu : Mu, ∀ x, q_begin2 [some (scriptD ns), x, none] mu = .ok (.lst ((ns.map f).map D.int)) mu := fun mu x => by
    unfold q_begin2
    rw [mLc_map (enc := D.int) (f := fun i => .int (f i)) ns ?_ ?_ (by omega)]
    · rw [List.map_map]; rfl
    · have : scriptD ns = .rl (ns.map D.int) := rfl
      rw [this]
      (repeat' (first | (with_reducible assumption) | (with_reducible apply mVar_ok) | (with_reducible apply mC_ok) | (with_reducible apply mOp_ok) | (with_reducible apply mTest_ok) | (with_reducible apply mCons_ok) | (with_reducible apply mNil_ok) | (with_reducible apply mCall_ok) | (with_reducible apply mCallF_ok) | (with_reducible apply mSeq_eq) | (with_reducible apply seqNx) | (with_reducible apply seqRt) | (with_reducible apply mSkip_ok) | (with_reducible apply mRet_ok) | (with_reducible apply mRetN_ok) | (with_reducible apply mExpr_ok) | (with_reducible apply mAsg_ok) | (with_reducible apply mGName_ok) | (with_reducible apply mIfS_ok) | (with_reducible apply mTAnd_ok) | (with_reducible apply mTOr_ok) | (with_reducible apply mTNot_ok) | (with_reducible apply mAnd_ok) | (with_reducible apply mOr_ok) | (with_reducible apply mNot_ok) | (with_reducible apply mIf_ok) | (with_reducible apply mChain_ok) | (with_reducible apply bindO_ok) | (with_reducible apply mTup_ok) | (with_reducible apply mLst_ok) | (with_reducible apply mLst_okC) | (with_reducible apply mUn_ok) | (with_reducible apply mMet_ok) | (with_reducible apply mMetC_ok) | (with_reducible apply mGTup_ok) | (with_reducible apply mGCons_ok) | (with_reducible apply mGNil_ok) | (with_reducible apply mPar_ok) | (with_reducible apply mPar3_ok) | (with_reducible apply mSet_ok) | (with_reducible apply mSeqI_ok) | (with_reducible apply mRange1_ok) | (with_reducible apply mZip_ok) | (with_reducible apply mFrz_ok) | (with_reducible apply mFor_ok) | (with_reducible apply mCallV_ok) | (with_reducible apply gAddL) | (with_reducible apply gSumL) | (with_reducible apply gMax0) | (with_reducible apply gMax2) | (with_reducible apply gMaxP) | (with_reducible apply gAllL) | (with_reducible apply gTupL) | (with_reducible apply gTupT) | (with_reducible apply gListT) | (with_reducible apply gLenT) | (with_reducible apply gIsiT) | (with_reducible apply gIsNT) | (with_reducible apply gEqL0) | (with_reducible apply gNeL0) | (with_reducible apply gMul_ok) | (with_reducible apply gAdd_ok) | (with_reducible apply gSub_ok) | (with_reducible apply gEqI) | (with_reducible apply gNeI) | (with_reducible apply gLt_ok) | (with_reducible apply gLe_ok) | (with_reducible apply gGt_ok) | (with_reducible apply gGe_ok) | (with_reducible apply gInt_ok) | (with_reducible apply mulB_ok) | (with_reducible apply lim_ok) | ((with_reducible apply ite_t); (first | assumption | (exact decide_eq_true (by omega)) | (exact decide_eq_false (by omega)) | (simp only [Bool.not_eq_true', Bool.not_eq_false', Bool.not_not, decide_eq_false_iff_not, decide_eq_true_eq, Bool.false_eq_true, if_true, if_false, Bool.not_false, Bool.not_true, reduceIte]; omega) | exact rfl)) | ((with_reducible apply ite_f); (first | assumption | (exact decide_eq_true (by omega)) | (exact decide_eq_false (by omega)) | (simp only [Bool.not_eq_true', Bool.not_eq_false', Bool.not_not, decide_eq_false_iff_not, decide_eq_true_eq, Bool.false_eq_true, if_true, if_false, Bool.not_false, Bool.not_true, reduceIte]; omega) | exact rfl)) | (simp only [List.set_cons_succ, List.set_cons_zero, wipeD]; exact rfl) | (simp only [List.length_cons, List.length_nil]; omega) | (exact rfl) | (omega)))
    · intro i hi
      refine ⟨[some (scriptD ns), x, some (.int i)], rfl, rfl, ?_⟩
      (repeat' (first | (with_reducible assumption) | (with_reducible exact abs_ok) | (with_reducible apply mVar_ok) | (with_reducible apply mC_ok) | (with_reducible apply mOp_ok) | (with_reducible apply mTest_ok) | (with_reducible apply mCons_ok) | (with_reducible apply mNil_ok) | (with_reducible apply mCall_ok) | (with_reducible apply mCallF_ok) | (with_reducible apply mSeq_eq) | (with_reducible apply seqNx) | (with_reducible apply seqRt) | (with_reducible apply mSkip_ok) | (with_reducible apply mRet_ok) | (with_reducible apply mRetN_ok) | (with_reducible apply mExpr_ok) | (with_reducible apply mAsg_ok) | (with_reducible apply mGName_ok) | (with_reducible apply mIfS_ok) | (with_reducible apply mTAnd_ok) | (with_reducible apply mTOr_ok) | (with_reducible apply mTNot_ok) | (with_reducible apply mAnd_ok) | (with_reducible apply mOr_ok) | (with_reducible apply mNot_ok) | (with_reducible apply mIf_ok) | (with_reducible apply mChain_ok) | (with_reducible apply bindO_ok) | (with_reducible apply mTup_ok) | (with_reducible apply mLst_ok) | (with_reducible apply mLst_okC) | (with_reducible apply mUn_ok) | (with_reducible apply mMet_ok) | (with_reducible apply mMetC_ok) | (with_reducible apply mGTup_ok) | (with_reducible apply mGCons_ok) | (with_reducible apply mGNil_ok) | (with_reducible apply mPar_ok) | (with_reducible apply mPar3_ok) | (with_reducible apply mSet_ok) | (with_reducible apply mSeqI_ok) | (with_reducible apply mRange1_ok) | (with_reducible apply mZip_ok) | (with_reducible apply mFrz_ok) | (with_reducible apply mFor_ok) | (with_reducible apply mCallV_ok) | (with_reducible apply gAddL) | (with_reducible apply gSumL) | (with_reducible apply gMax0) | (with_reducible apply gMax2) | (with_reducible apply gMaxP) | (with_reducible apply gAllL) | (with_reducible apply gTupL) | (with_reducible apply gTupT) | (with_reducible apply gListT) | (with_reducible apply gLenT) | (with_reducible apply gIsiT) | (with_reducible apply gIsNT) | (with_reducible apply gEqL0) | (with_reducible apply gNeL0) | (with_reducible apply gMul_ok) | (with_reducible apply gAdd_ok) | (with_reducible apply gSub_ok) | (with_reducible apply gEqI) | (with_reducible apply gNeI) | (with_reducible apply gLt_ok) | (with_reducible apply gLe_ok) | (with_reducible apply gGt_ok) | (with_reducible apply gGe_ok) | (with_reducible apply gInt_ok) | (with_reducible apply mulB_ok) | (with_reducible apply lim_ok) | ((with_reducible apply ite_t); (first | assumption | (exact decide_eq_true (by omega)) | (exact decide_eq_false (by omega)) | (simp only [Bool.not_eq_true', Bool.not_eq_false', Bool.not_not, decide_eq_false_iff_not, decide_eq_true_eq, Bool.false_eq_true, if_true, if_false, Bool.not_false, Bool.not_true, reduceIte]; omega) | exact rfl)) | ((with_reducible apply ite_f); (first | assumption | (exact decide_eq_true (by omega)) | (exact decide_eq_false (by omega)) | (simp only [Bool.not_eq_true', Bool.not_eq_false', Bool.not_not, decide_eq_false_iff_not, decide_eq_true_eq, Bool.false_eq_true, if_true, if_false, Bool.not_false, Bool.not_true, reduceIte]; omega) | exact rfl)) | (simp only [List.set_cons_succ, List.set_cons_zero, wipeD]; exact rfl) | (simp only [List.length_cons, List.length_nil]; omega) | (exact rfl) | (omega)))
  let great := ((ns.filter fun i => decide (10 ^ 18 ≤ f i)).map fun i => f i - 10 ^ 18)
  refine ⟨[.lst (great.map D.int), .dk (drawD 0 0 0 (ns.map f))], denF_rt (env0 := [some (scriptD ns), none, none]) rfl ?_, ⟨great, ns.map f, 0, 0, rfl, rfl, fun g hg => ?_, fun c hc => ?_, by omega, by omega, by omega⟩, rfl⟩
  · unfold m_begin
    refine mSeq_eq (r1 := .nx [some (scriptD ns), some (.cell 0), none] _) (mAsg_ok e1 rfl) (seqNx (mRet_ok ?_))
    unfold mDisp
    simp only [mPairs, e2, bind_ok, mC]
    rfl
  · simp only [great, List.mem_map, List.mem_filter, decide_eq_true_eq] at hg
    obtain ⟨i, ⟨_, h⟩, rfl⟩ := hg
    omega
  · simp only [List.mem_map] at hc
    obtain ⟨i, _, rfl⟩ := hc
    exact f0 i
end DL

/-! law_k22_whole_amounts_keep_list_facts: what its defs mean, and the derivations. Printed by gen.py. -/
namespace K22
open PySem L2 DL
def top (i : Nat) : Stmt := PySem.Challenge.pw_anyitems_k22_whole_amounts_keep_list_fac.main.body.getD i (.Pass ⟨0, 0, 0, 0⟩)
structure Ad where
  is_from_zero : Addr
  is_size : Addr
  ok : is_from_zero ≠ is_size
def c_WORDS : D := (.tup [(.str "every"), (.str "rows"), (.str "item"), (.str "most"), (.str "table")])
def c_ONE_BOX : D := (.tup [(.tup [(.tup [(.tup [(.str "rows"), (.int 1)])]), (.tup [(.tup [(.str "every"), (.int 1)])])]), (.tup [(.tup [(.tup [(.str "every"), (.int 1)])]), (.tup [(.tup [(.str "rows"), (.int 1)])])]), (.tup [(.tup [(.tup [(.str "item"), (.int 1)])]), (.tup [(.tup [(.str "most"), (.int 1)])])]), (.tup [(.tup [(.tup [(.str "most"), (.int 1)])]), (.tup [(.tup [(.str "item"), (.int 1)])])]), (.tup [(.tup [(.tup [(.str "table"), (.int 1)])]), (.tup [(.tup [(.str "most"), (.int 1)])])]), (.tup [(.tup [(.tup [(.str "most"), (.int 1)])]), (.tup [(.tup [(.str "table"), (.int 1)])])]), (.tup [(.tup [(.tup [(.str "most"), (.int 1)])]), (.tup [(.tup [(.str "every"), (.int 1)])])])])
def c_KIND_ONE : D := (.tup [(.tup [(.tup [(.tup [(.str "item"), (.int 1)])]), (.tup [(.tup [(.str "table"), (.int 1)])])]), (.tup [(.tup [(.tup [(.str "table"), (.int 1)])]), (.tup [(.tup [(.str "item"), (.int 1)])])]), (.tup [(.tup [(.tup [(.str "most"), (.int 1)])]), (.tup [(.tup [(.str "table"), (.int 1)])])]), (.tup [(.tup [(.tup [(.str "table"), (.int 1)])]), (.tup [(.tup [(.str "most"), (.int 2)])])]), (.tup [(.tup [(.tup [(.str "most"), (.int 1)])]), (.tup [(.tup [(.str "rows"), (.int 1)])])]), (.tup [(.tup [(.tup [(.str "rows"), (.int 1)]), (.tup [(.str "table"), (.int 1)])]), (.tup [(.tup [(.str "every"), (.int 1)]), (.tup [(.str "most"), (.int 1)])])]), (.tup [(.tup [(.tup [(.str "every"), (.int 1)]), (.tup [(.str "most"), (.int 2)])]), (.tup [(.tup [(.str "rows"), (.int 2)]), (.tup [(.str "table"), (.int 1)])])])])
def c_KIND_TWO : D := (.tup [(.tup [(.tup [(.tup [(.str "most"), (.int 1)])]), (.tup [(.tup [(.str "item"), (.int 1)])])]), (.tup [(.tup [(.tup [(.str "item"), (.int 1)])]), (.tup [(.tup [(.str "table"), (.int 1)])])]), (.tup [(.tup [(.tup [(.str "table"), (.int 1)])]), (.tup [(.tup [(.str "most"), (.int 2)])])]), (.tup [(.tup [(.tup [(.str "table"), (.int 1)])]), (.tup [(.tup [(.str "rows"), (.int 1)])])]), (.tup [(.tup [(.tup [(.str "item"), (.int 1)]), (.tup [(.str "rows"), (.int 1)])]), (.tup [(.tup [(.str "every"), (.int 1)]), (.tup [(.str "most"), (.int 1)])])]), (.tup [(.tup [(.tup [(.str "every"), (.int 1)]), (.tup [(.str "most"), (.int 2)])]), (.tup [(.tup [(.str "item"), (.int 1)]), (.tup [(.str "rows"), (.int 2)])])]), (.tup [(.tup [(.tup [(.str "every"), (.int 1)]), (.tup [(.str "table"), (.int 2)])]), (.tup [(.tup [(.str "item"), (.int 2)]), (.tup [(.str "rows"), (.int 2)])])])])
abbrev s_is_number : Stmt := top 4
abbrev N_is_number : List Str := ["thing"]
def m_is_number (A : Ad) : DenS :=
  (mRet (mAnd (mCall gIsi (mCons (mVar 0) (mCons (mC (.ty "int")) mNil))) (mNot (mCall gIsi (mCons (mVar 0) (mCons (mC (.ty "bool")) mNil))))))
def d_is_number (A : Ad) : List D → Mu → Res D := denF N_is_number (m_is_number A)
abbrev s_is_from_zero : Stmt := top 14
abbrev N_is_from_zero : List Str := ["thing"]
def m_is_from_zero (A : Ad) : DenS :=
  (mRet (mAnd (mCallF 1 (d_is_number A) (mCons (mVar 0) mNil)) (mOp gGe (mVar 0) (mC (.int 0)))))
def d_is_from_zero (A : Ad) : List D → Mu → Res D := denF N_is_from_zero (m_is_from_zero A)
abbrev s_is_size : Stmt := top 6
abbrev N_is_size : List Str := ["thing", "part"]
def q_is_size_1 (A : Ad) : DenE := mLc false (mSeqI (mVar 0)) (mGName 1) mYes (mAnd (mCallF 1 (d_is_number A) (mCons (mVar 1) mNil)) (mOp gGe (mVar 1) (mC (.int 0)))) [1]
def m_is_size (A : Ad) : DenS :=
  (mSeq (mIfS (mTOr (mTNot (mTest (mCall gIsi (mCons (mVar 0) (mCons (mC (.ty "tuple")) mNil))))) (mTest (mOp (gEq true) (mCall gLen (mCons (mVar 0) mNil)) (mC (.int 2)))))
  (mRet (mC (.bl false)))
  mSkip)
  (mRet (mCall (gBL fun l => l.all id) (mCons (q_is_size_1 A) mNil))))
def d_is_size (A : Ad) : List D → Mu → Res D := denF N_is_size (m_is_size A)
def ft (A : Ad) : FTab := [(A.is_from_zero, 1, d_is_from_zero A), (A.is_size, 1, d_is_size A)]
abbrev s__law_begin : Stmt := top 28
abbrev N__law_begin : List Str := ["_law_script", "_law_great", "_law_cell"]
def q__law_begin_1 (A : Ad) : DenE := mLc true (mSeqI (mVar 0)) (mGName 2) (mTest (mOp gGe (mCall (g1I fun i => if i < 0 then -i else i) (mCons (mVar 2) mNil)) (mOp gPow (mC (.int 10)) (mC (.int 18))))) (mOp gSub (mCall (g1I fun i => if i < 0 then -i else i) (mCons (mVar 2) mNil)) (mOp gPow (mC (.int 10)) (mC (.int 18)))) [2]
def q__law_begin_2 (A : Ad) : DenE := mLc false (mSeqI (mVar 0)) (mGName 2) mYes (mCall (g1I fun i => if i < 0 then -i else i) (mCons (mVar 2) mNil)) [2]
def m__law_begin (A : Ad) : DenS :=
  (mSeq (mAsg (q__law_begin_1 A) (mGName 1))
  (mRet (mDisp [((mC (.str "great")), (mVar 1)), ((mC (.str "rest")), (mC (.int 0))), ((mC (.str "cells")), (q__law_begin_2 A)), ((mC (.str "turn")), (mC (.int 0)))])))
def d__law_begin (A : Ad) : List D → Mu → Res D := denF N__law_begin (m__law_begin A)
abbrev s__law_blend : Stmt := top 29
abbrev N__law_blend : List Str := ["_law_draw", "_law_turn", "_law_found", "_law_prime", "_law_blend_here", "_law_cell"]
def b__law_blend_1 (A : Ad) : DenS :=
  (mAsg (mOp gMod (mCall gInt (mCons (mOp (gAdd false) (mOp (gMul false) (mVar 4) (mC (.int 48271))) (mVar 5)) mNil)) (mVar 3)) (mGName 4))
def b__law_blend_2 (A : Ad) : DenS :=
  (mSeq (mAsg (mOp gMod (mCall gInt (mCons (mOp (gAdd false) (mOp (gMul false) (mVar 1) (mC (.int 69621))) (mOp gFdiv (mVar 3) (mC (.int 7)))) mNil)) (mVar 3)) (mGName 4))
  (mSeq (mFor (mSeqI (mOp gIx (mVar 0) (mC (.str "cells")))) (mGName 5)
  (b__law_blend_1 A))
  (mAsg (mOp (gAdd false) (mOp (gMul false) (mVar 2) (mC (.int 2147483647))) (mOp gMod (mCall gInt (mCons (mOp gPow (mVar 4) (mC (.int 5))) mNil)) (mVar 3))) (mGName 2))))
def m__law_blend (A : Ad) : DenS :=
  (mSeq (mAsg (mOp (gAdd false) (mOp gIx (mVar 0) (mC (.str "turn"))) (mC (.int 1))) (mGName 1))
  (mSeq (mSet (mVar 1) (mVar 0) (mC (.str "turn")))
  (mSeq (mAsg (mC (.int 0)) (mGName 2))
  (mSeq (mFor (mSeqI (mLst false (mCons (mC (.int 2147483629)) (mCons (mC (.int 2147483587)) (mCons (mC (.int 2147483579)) (mCons (mC (.int 2147483563)) mNil)))))) (mGName 3)
  (b__law_blend_2 A))
  (mRet (mVar 2))))))
def d__law_blend (A : Ad) : List D → Mu → Res D := denF N__law_blend (m__law_blend A)
abbrev s__law_take : Stmt := top 30
abbrev N__law_take : List Str := ["_law_draw", "_law_many", "_law_found"]
def m__law_take (A : Ad) : DenS :=
  (mSeq (mIfS (mTAnd (mTest (mOp (gEq false) (mOp gIx (mVar 0) (mC (.str "rest"))) (mC (.int 0)))) (mTest (mOp (gEq true) (mOp gIx (mVar 0) (mC (.str "great"))) (mLst false mNil))))
  (mSet (mMet isLst gPopAt (mOp gIx (mVar 0) (mC (.str "great"))) (mCons (mC (.int 0)) mNil)) (mVar 0) (mC (.str "rest")))
  mSkip)
  (mSeq (mIfS (mTest (mOp (gEq false) (mOp gIx (mVar 0) (mC (.str "rest"))) (mC (.int 0))))
  (mSet (mCallF 1 (d__law_blend A) (mCons (mVar 0) mNil)) (mVar 0) (mC (.str "rest")))
  mSkip)
  (mSeq (mAsg (mOp gMod (mCall gInt (mCons (mOp gIx (mVar 0) (mC (.str "rest"))) mNil)) (mVar 1)) (mGName 2))
  (mSeq (mSet (mOp gFdiv (mOp gIx (mVar 0) (mC (.str "rest"))) (mVar 1)) (mVar 0) (mC (.str "rest")))
  (mRet (mVar 2))))))
def d__law_take (A : Ad) : List D → Mu → Res D := denF N__law_take (m__law_take A)
abbrev s__law_pick : Stmt := top 31
abbrev N__law_pick : List Str := ["_law_draw", "_law_some"]
def m__law_pick (A : Ad) : DenS :=
  (mRet (mOp gIx (mVar 1) (mCallF 2 (d__law_take A) (mCons (mVar 0) (mCons (mCall gLen (mCons (mVar 1) mNil)) mNil)))))
def d__law_pick (A : Ad) : List D → Mu → Res D := denF N__law_pick (m__law_pick A)
abbrev s__law_some_runs : Stmt := top 32
abbrev N__law_some_runs : List Str := ["_law_draw", "_law_is_wide", "_law_found", "_law_top", "_law_k", "_law_part"]
def b__law_some_runs_1 (A : Ad) : DenS :=
  (mSeq (mAsg (mIf (mTest (mVar 1)) (mTup (mCons (mCallF 2 (d__law_take A) (mCons (mVar 0) (mCons (mVar 3) mNil))) (mCons (mCallF 2 (d__law_take A) (mCons (mVar 0) (mCons (mVar 3) mNil))) mNil))) (mCallF 2 (d__law_take A) (mCons (mVar 0) (mCons (mVar 3) mNil)))) (mGName 5))
  (mExpr (mMet isLst gAppend (mVar 2) (mCons (mTup (mCons (mOp (gAdd false) (mC (.int 1)) (mCallF 2 (d__law_take A) (mCons (mVar 0) (mCons (mCallF 2 (d__law_pick A) (mCons (mVar 0) (mCons (mLst false (mCons (mC (.int 1)) (mCons (mC (.int 1)) (mCons (mC (.int 3)) (mCons (mOp gPow (mC (.int 10)) (mC (.int 20))) mNil))))) mNil))) mNil)))) (mCons (mVar 5) mNil))) mNil))))
def m__law_some_runs (A : Ad) : DenS :=
  (mSeq (mPar 2 3 (mCons (mLst true mNil) (mCons (mCallF 2 (d__law_pick A) (mCons (mVar 0) (mCons (mLst false (mCons (mC (.int 2)) (mCons (mC (.int 3)) (mCons (mC (.int 5)) (mCons (mC (.int 10)) (mCons (mOp gPow (mC (.int 10)) (mC (.int 25))) (mCons (mC (.int 2)) (mCons (mC (.int 3)) (mCons (mC (.int 5)) (mCons (mC (.int 10)) (mCons (mCallF 2 (d__law_pick A) (mCons (mVar 0) (mCons (mLst false (mCons (mC (.int 10)) (mCons (mOp gPow (mOp gPow (mC (.int 10)) (mC (.int 60))) (mC (.int 5))) mNil))) mNil))) mNil))))))))))) mNil))) mNil)))
  (mSeq (mFor (mRange1 (mCons (mCallF 2 (d__law_pick A) (mCons (mVar 0) (mCons (mLst false (mCons (mC (.int 0)) (mCons (mC (.int 1)) (mCons (mC (.int 2)) (mCons (mC (.int 3)) (mCons (mC (.int 4)) (mCons (mC (.int 5)) (mCons (mC (.int 1)) (mCons (mC (.int 2)) (mCons (mC (.int 3)) (mCons (mC (.int 4)) (mCons (mC (.int 5)) (mCons (mC (.int 30)) mNil))))))))))))) mNil))) mNil)) (mGName 4)
  (b__law_some_runs_1 A))
  (mFrz 2 (mRet (mVar 2)))))
def d__law_some_runs (A : Ad) : List D → Mu → Res D := denF N__law_some_runs (m__law_some_runs A)
abbrev s_need_told : Stmt := top 21
abbrev N_need_told : List Str := ["many", "told", "one"]
def q_need_told_1 (A : Ad) : DenE := mLc false (mSeqI (mVar 1)) (mGName 2) mYes (mCallF 1 (d_is_from_zero A) (mCons (mVar 2) mNil)) [2]
def m_need_told (A : Ad) : DenS :=
  (mSeq (mIfS (mTOr (mTNot (mTest (mCallF 1 (d_is_number A) (mCons (mVar 0) mNil)))) (mTNot (mTest (mChain gLe gLe (mC (.int 1)) (mVar 0) (mC (.int 2))))))
  mStuck
  mSkip)
  (mIfS (mTOr (mTNot (mTest (mCall gIsi (mCons (mVar 1) (mCons (mC (.ty "tuple")) mNil))))) (mTOr (mTest (mOp (gEq true) (mCall gLen (mCons (mVar 1) mNil)) (mC (.int 5)))) (mTNot (mTest (mCall (gBL fun l => l.all id) (mCons (q_need_told_1 A) mNil))))))
  mStuck
  mSkip))
def d_need_told (A : Ad) : List D → Mu → Res D := denF N_need_told (m_need_told A)
abbrev s_kind_words : Stmt := top 12
abbrev N_kind_words : List Str := ["many"]
def m_kind_words (A : Ad) : DenS :=
  (mRet (mIf (mTest (mOp (gEq false) (mVar 0) (mC (.int 1)))) (mTup (mCons (mC (.str "one")) mNil)) (mTup (mCons (mC (.str "one")) (mCons (mC (.str "two")) mNil)))))
def d_kind_words (A : Ad) : List D → Mu → Res D := denF N_kind_words (m_kind_words A)
abbrev s_worth_of : Stmt := top 19
abbrev N_worth_of : List Str := ["terms", "told", "word", "number"]
def q_worth_of_1 (A : Ad) : DenE := mLc false (mSeqI (mVar 0)) (mGTup 2 (mGCons (mGName 2) (mGCons (mGName 3) mGNil))) mYes (mOp (gMul false) (mVar 3) (mOp gIx (mVar 1) (mMetC c_WORDS gIndex (mCons (mVar 2) mNil)))) [2, 3]
def m_worth_of (A : Ad) : DenS :=
  (mRet (mCall (gIL fun ns => some (.int ns.sum)) (mCons (q_worth_of_1 A) mNil)))
def d_worth_of (A : Ad) : List D → Mu → Res D := denF N_worth_of (m_worth_of A)
abbrev s_list_facts : Stmt := top 13
abbrev N_list_facts : List Str := ["many", "kind"]
def m_list_facts (A : Ad) : DenS :=
  (mSeq (mIfS (mTest (mOp (gEq false) (mVar 0) (mC (.int 1))))
  (mRet (mC c_ONE_BOX))
  mSkip)
  (mRet (mIf (mTest (mOp (gEq false) (mVar 1) (mC (.str "one")))) (mC c_KIND_ONE) (mC c_KIND_TWO))))
def d_list_facts (A : Ad) : List D → Mu → Res D := denF N_list_facts (m_list_facts A)
abbrev s_keeps : Stmt := top 20
abbrev N_keeps : List Str := ["many", "kind", "told", "less", "more"]
def q_keeps_1 (A : Ad) : DenE := mLc false (mSeqI (mCallF 2 (d_list_facts A) (mCons (mVar 0) (mCons (mVar 1) mNil)))) (mGTup 2 (mGCons (mGName 3) (mGCons (mGName 4) mGNil))) mYes (mOp gLe (mCallF 2 (d_worth_of A) (mCons (mVar 3) (mCons (mVar 2) mNil))) (mCallF 2 (d_worth_of A) (mCons (mVar 4) (mCons (mVar 2) mNil)))) [3, 4]
def m_keeps (A : Ad) : DenS :=
  (mRet (mCall (gBL fun l => l.all id) (mCons (q_keeps_1 A) mNil)))
def d_keeps (A : Ad) : List D → Mu → Res D := denF N_keeps (m_keeps A)
abbrev s_kinds : Stmt := top 22
abbrev N_kinds : List Str := ["many", "told", "kind"]
def q_kinds_1 (A : Ad) : DenE := mLc false (mSeqI (mCallF 1 (d_kind_words A) (mCons (mVar 0) mNil))) (mGName 2) (mTest (mCallF 3 (d_keeps A) (mCons (mVar 0) (mCons (mVar 2) (mCons (mVar 1) mNil))))) (mVar 2) [2]
def m_kinds (A : Ad) : DenS :=
  (mSeq (mExpr (mCallF 2 (d_need_told A) (mCons (mVar 0) (mCons (mVar 1) mNil))))
  (mRet (q_kinds_1 A)))
def d_kinds (A : Ad) : List D → Mu → Res D := denF N_kinds (m_kinds A)
abbrev s_is_list : Stmt := top 5
abbrev N_is_list : List Str := ["thing"]
def m_is_list (A : Ad) : DenS :=
  (mRet (mCall gIsi (mCons (mVar 0) (mCons (mTup (mCons (mC (.ty "list")) (mCons (mC (.ty "tuple")) mNil))) mNil))))
def d_is_list (A : Ad) : List D → Mu → Res D := denF N_is_list (m_is_list A)
abbrev s_are_runs : Stmt := top 15
abbrev N_are_runs : List Str := ["thing", "is_part", "run"]
def b_are_runs_1 (A : Ad) : DenS :=
  (mIfS (mTOr (mTNot (mTest (mCall gIsi (mCons (mVar 2) (mCons (mC (.ty "tuple")) mNil))))) (mTOr (mTest (mOp (gEq true) (mCall gLen (mCons (mVar 2) mNil)) (mC (.int 2)))) (mTOr (mTNot (mTest (mCallF 1 (d_is_number A) (mCons (mOp gIx (mVar 2) (mC (.int 0))) mNil)))) (mTOr (mTest (mOp gLt (mOp gIx (mVar 2) (mC (.int 0))) (mC (.int 1)))) (mTNot (mTest (mCallV 1 (ft A) (mCons (mOp gIx (mVar 2) (mC (.int 1))) mNil))))))))
  (mRet (mC (.bl false)))
  mSkip)
def m_are_runs (A : Ad) : DenS :=
  (mSeq (mIfS (mTNot (mTest (mCallF 1 (d_is_list A) (mCons (mVar 0) mNil))))
  (mRet (mC (.bl false)))
  mSkip)
  (mSeq (mFor (mSeqI (mVar 0)) (mGName 2)
  (b_are_runs_1 A))
  (mRet (mC (.bl true)))))
def d_are_runs (A : Ad) : List D → Mu → Res D := denF N_are_runs (m_are_runs A)
abbrev s_amounts_of_numbers : Stmt := top 16
abbrev N_amounts_of_numbers : List Str := ["runs", "every", "most", "count", "number"]
def q_amounts_of_numbers_1 (A : Ad) : DenE := mLc false (mSeqI (mVar 0)) (mGTup 2 (mGCons (mGName 3) (mGCons (mGName 4) mGNil))) mYes (mVar 4) [3, 4]
def q_amounts_of_numbers_2 (A : Ad) : DenE := mLc false (mSeqI (mVar 0)) (mGTup 2 (mGCons (mGName 3) (mGCons (mGName 4) mGNil))) mYes (mOp (gMul false) (mVar 3) (mVar 4)) [3, 4]
def m_amounts_of_numbers (A : Ad) : DenS :=
  (mSeq (mPar 1 2 (mCons (mCall (gIL fun ns => some (.int ns.sum)) (mCons (q_amounts_of_numbers_2 A) mNil)) (mCons (mCall gMax (mCons (mOp (gAdd false) (mLst false (mCons (mC (.int 0)) mNil)) (q_amounts_of_numbers_1 A)) mNil)) mNil)))
  (mRet (mTup (mCons (mVar 1) (mCons (mVar 1) (mCons (mVar 2) (mCons (mVar 2) (mCons (mVar 2) mNil))))))))
def d_amounts_of_numbers (A : Ad) : List D → Mu → Res D := denF N_amounts_of_numbers (m_amounts_of_numbers A)
abbrev s_amounts_of_pairs : Stmt := top 17
abbrev N_amounts_of_pairs : List Str := ["runs", "every", "count", "pair", "rows", "item", "first", "second"]
def q_amounts_of_pairs_1 (A : Ad) : DenE := mLc false (mSeqI (mVar 0)) (mGTup 2 (mGCons (mGName 2) (mGCons (mGName 3) mGNil))) mYes (mOp (gMul false) (mVar 2) (mOp (gAdd false) (mOp gIx (mVar 3) (mC (.int 0))) (mOp gIx (mVar 3) (mC (.int 1))))) [2, 3]
def q_amounts_of_pairs_2 (A : Ad) : DenE := mLc false (mSeqI (mVar 0)) (mGTup 2 (mGCons (mGName 2) (mGCons (mGName 3) mGNil))) mYes (mOp (gMul false) (mVar 2) (mCall gMax (mCons (mCall (gList false) (mCons (mVar 3) mNil)) mNil))) [2, 3]
def q_amounts_of_pairs_3 (A : Ad) : DenE := mLc false (mSeqI (mVar 0)) (mGTup 2 (mGCons (mGName 2) (mGCons (mGName 3) mGNil))) mYes (mOp (gAdd false) (mOp gIx (mVar 3) (mC (.int 0))) (mOp gIx (mVar 3) (mC (.int 1)))) [2, 3]
def q_amounts_of_pairs_4 (A : Ad) : DenE := mLc false (mSeqI (mVar 0)) (mGTup 2 (mGCons (mGName 2) (mGCons (mGName 3) mGNil))) mYes (mOp gIx (mVar 3) (mC (.int 1))) [2, 3]
def q_amounts_of_pairs_5 (A : Ad) : DenE := mLc false (mSeqI (mVar 0)) (mGTup 2 (mGCons (mGName 2) (mGCons (mGName 3) mGNil))) mYes (mOp gIx (mVar 3) (mC (.int 0))) [2, 3]
def m_amounts_of_pairs (A : Ad) : DenS :=
  (mSeq (mAsg (mCall (gIL fun ns => some (.int ns.sum)) (mCons (q_amounts_of_pairs_1 A) mNil)) (mGName 1))
  (mSeq (mAsg (mCall (gIL fun ns => some (.int ns.sum)) (mCons (q_amounts_of_pairs_2 A) mNil)) (mGName 4))
  (mSeq (mAsg (mCall gMax (mCons (mOp (gAdd false) (mLst false (mCons (mC (.int 0)) mNil)) (q_amounts_of_pairs_3 A)) mNil)) (mGName 5))
  (mSeq (mPar 6 7 (mCons (mCall gMax (mCons (mOp (gAdd false) (mLst false (mCons (mC (.int 0)) mNil)) (q_amounts_of_pairs_5 A)) mNil)) (mCons (mCall gMax (mCons (mOp (gAdd false) (mLst false (mCons (mC (.int 0)) mNil)) (q_amounts_of_pairs_4 A)) mNil)) mNil)))
  (mRet (mTup (mCons (mVar 1) (mCons (mVar 4) (mCons (mVar 5) (mCons (mCall gMax (mCons (mLst false (mCons (mVar 6) (mCons (mVar 7) mNil))) mNil)) (mCons (mOp (gAdd false) (mVar 6) (mVar 7)) mNil)))))))))))
def d_amounts_of_pairs (A : Ad) : List D → Mu → Res D := denF N_amounts_of_pairs (m_amounts_of_pairs A)
abbrev s_amounts : Stmt := top 18
abbrev N_amounts : List Str := ["runs"]
def m_amounts (A : Ad) : DenS :=
  (mSeq (mIfS (mTest (mCallF 2 (d_are_runs A) (mCons (mVar 0) (mCons (mC (.ref A.is_from_zero)) mNil))))
  (mRet (mCallF 1 (d_amounts_of_numbers A) (mCons (mVar 0) mNil)))
  mSkip)
  (mSeq (mIfS (mTest (mCallF 2 (d_are_runs A) (mCons (mVar 0) (mCons (mC (.ref A.is_size)) mNil))))
  (mRet (mCallF 1 (d_amounts_of_pairs A) (mCons (mVar 0) mNil)))
  mSkip)
  mStuck))
def d_amounts (A : Ad) : List D → Mu → Res D := denF N_amounts (m_amounts A)
abbrev s__law_with_both : Stmt := top 33
abbrev N__law_with_both : List Str := ["_law_runs", "_law_firsts", "_law_seconds", "_law_count", "_law_part"]
def q__law_with_both_1 (A : Ad) : DenE := mLc false (mSeqI (mVar 0)) (mGTup 2 (mGCons (mGName 3) (mGCons (mGName 4) mGNil))) mYes (mOp gIx (mVar 4) (mC (.int 1))) [3, 4]
def q__law_with_both_2 (A : Ad) : DenE := mLc false (mSeqI (mVar 0)) (mGTup 2 (mGCons (mGName 3) (mGCons (mGName 4) mGNil))) mYes (mOp gIx (mVar 4) (mC (.int 0))) [3, 4]
def m__law_with_both (A : Ad) : DenS :=
  (mSeq (mPar 1 2 (mCons (q__law_with_both_2 A) (mCons (q__law_with_both_1 A) mNil)))
  (mRet (mOp (gAdd false) (mVar 0) (mLst false (mCons (mTup (mCons (mC (.int 1)) (mCons (mTup (mCons (mCall gMax (mCons (mOp (gAdd false) (mLst false (mCons (mC (.int 0)) mNil)) (mVar 1)) mNil)) (mCons (mCall gMax (mCons (mOp (gAdd false) (mLst false (mCons (mC (.int 0)) mNil)) (mVar 2)) mNil)) mNil))) mNil))) mNil)))))
def d__law_with_both (A : Ad) : List D → Mu → Res D := denF N__law_with_both (m__law_with_both A)
abbrev s_pairs_for_one : Stmt := top 24
abbrev N_pairs_for_one : List Str := ["told", "every", "rows", "item", "most", "table", "left", "lines"]
def m_pairs_for_one (A : Ad) : DenS :=
  (mSeq (mAsg (mVar 0) (mGTup 5 (mGCons (mGName 1) (mGCons (mGName 2) (mGCons (mGName 3) (mGCons (mGName 4) (mGCons (mGName 5) mGNil)))))))
  (mSeq (mPar 6 7 (mCons (mOp gSub (mVar 1) (mVar 5)) (mCons (mOp gSub (mVar 2) (mVar 4)) mNil)))
  (mRet (mLst false (mCons (mTup (mCons (mC (.int 1)) (mCons (mTup (mCons (mVar 4) (mCons (mOp gSub (mVar 5) (mVar 4)) mNil))) mNil))) (mCons (mTup (mCons (mOp gSub (mOp (gMul false) (mC (.int 2)) (mVar 7)) (mVar 6)) (mCons (mTup (mCons (mC (.int 1)) (mCons (mC (.int 0)) mNil))) mNil))) (mCons (mTup (mCons (mOp gSub (mVar 6) (mVar 7)) (mCons (mTup (mCons (mC (.int 1)) (mCons (mC (.int 1)) mNil))) mNil))) mNil)))))))
def d_pairs_for_one (A : Ad) : List D → Mu → Res D := denF N_pairs_for_one (m_pairs_for_one A)
abbrev s_pairs_for_two : Stmt := top 25
abbrev N_pairs_for_two : List Str := ["told", "every", "rows", "item", "most", "table", "second", "first", "left", "lines"]
def m_pairs_for_two (A : Ad) : DenS :=
  (mSeq (mAsg (mVar 0) (mGTup 5 (mGCons (mGName 1) (mGCons (mGName 2) (mGCons (mGName 3) (mGCons (mGName 4) (mGCons (mGName 5) mGNil)))))))
  (mSeq (mAsg (mOp gSub (mVar 5) (mVar 4)) (mGName 6))
  (mSeq (mAsg (mCall gMax (mCons (mLst false (mCons (mC (.int 0)) (mCons (mOp (gAdd false) (mOp gSub (mOp gSub (mOp gSub (mVar 1) (mVar 3)) (mVar 6)) (mOp (gMul false) (mC (.int 2)) (mVar 2))) (mOp (gMul false) (mC (.int 2)) (mVar 5))) mNil))) mNil)) (mGName 7))
  (mSeq (mPar 8 9 (mCons (mOp gSub (mOp gSub (mOp gSub (mVar 1) (mVar 3)) (mVar 6)) (mVar 7)) (mCons (mOp gSub (mVar 2) (mVar 5)) mNil)))
  (mRet (mLst false (mCons (mTup (mCons (mC (.int 1)) (mCons (mTup (mCons (mVar 4) (mCons (mOp gSub (mVar 3) (mVar 4)) mNil))) mNil))) (mCons (mTup (mCons (mC (.int 1)) (mCons (mTup (mCons (mVar 7) (mCons (mVar 6) mNil))) mNil))) (mCons (mTup (mCons (mOp gSub (mOp (gMul false) (mC (.int 2)) (mVar 9)) (mVar 8)) (mCons (mTup (mCons (mC (.int 1)) (mCons (mC (.int 0)) mNil))) mNil))) (mCons (mTup (mCons (mOp gSub (mVar 8) (mVar 9)) (mCons (mTup (mCons (mC (.int 1)) (mCons (mC (.int 1)) mNil))) mNil))) mNil))))))))))
def d_pairs_for_two (A : Ad) : List D → Mu → Res D := denF N_pairs_for_two (m_pairs_for_two A)
abbrev s_numbers_for : Stmt := top 23
abbrev N_numbers_for : List Str := ["told", "every", "most"]
def m_numbers_for (A : Ad) : DenS :=
  (mSeq (mPar 1 2 (mCons (mOp gIx (mVar 0) (mC (.int 0))) (mCons (mOp gIx (mVar 0) (mC (.int 3))) mNil)))
  (mRet (mLst false (mCons (mTup (mCons (mC (.int 1)) (mCons (mVar 2) mNil))) (mCons (mTup (mCons (mOp gSub (mVar 1) (mVar 2)) (mCons (mC (.int 1)) mNil))) mNil)))))
def d_numbers_for (A : Ad) : List D → Mu → Res D := denF N_numbers_for (m_numbers_for A)
abbrev s_items_for : Stmt := top 26
abbrev N_items_for : List Str := ["many", "told", "found", "every", "rows", "item", "most", "table", "run", "times", "great", "one", "runs"]
def q_items_for_1 (A : Ad) : DenE := mLc false (mSeqI (mCallF 1 (d_numbers_for A) (mCons (mVar 1) mNil))) (mGName 8) (mTest (mOp gGt (mOp gIx (mVar 8) (mC (.int 0))) (mC (.int 0)))) (mVar 8) [8]
def q_items_for_2 (A : Ad) : DenE := mLc false (mSeqI (mVar 1)) (mGName 11) mYes (mOp (gMul false) (mVar 9) (mVar 11)) [11]
def q_items_for_3 (A : Ad) : DenE := mLc false (mSeqI (mVar 12)) (mGName 8) (mTest (mOp gGt (mOp gIx (mVar 8) (mC (.int 0))) (mC (.int 0)))) (mVar 8) [8]
def m_items_for (A : Ad) : DenS :=
  (mSeq (mAsg (mCallF 2 (d_kinds A) (mCons (mVar 0) (mCons (mVar 1) mNil))) (mGName 2))
  (mSeq (mAsg (mVar 1) (mGTup 5 (mGCons (mGName 3) (mGCons (mGName 4) (mGCons (mGName 5) (mGCons (mGName 6) (mGCons (mGName 7) mGNil)))))))
  (mSeq (mIfS (mTOr (mTest (mOp (gEq false) (mVar 2) (mLst false mNil))) (mTOr (mTAnd (mTest (mOp (gEq false) (mVar 6) (mC (.int 0)))) (mTest (mOp gGt (mVar 3) (mC (.int 0))))) (mTAnd (mTest (mOp (gEq false) (mVar 0) (mC (.int 2)))) (mTAnd (mTest (mOp (gEq false) (mVar 7) (mVar 6))) (mTest (mOp (gEq true) (mVar 4) (mVar 3)))))))
  (mRet (mC .non))
  mSkip)
  (mSeq (mIfS (mTest (mOp (gEq false) (mVar 6) (mC (.int 0))))
  (mRet (mTup (mCons (mC (.int 1)) (mCons (mLst false mNil) mNil))))
  mSkip)
  (mSeq (mIfS (mTest (mOp (gEq false) (mVar 0) (mC (.int 1))))
  (mRet (mTup (mCons (mC (.int 1)) (mCons (q_items_for_1 A) mNil))))
  mSkip)
  (mSeq (mAsg (mIf (mTest (mOp (gEq false) (mVar 5) (mC (.int 1)))) (mC (.int 2)) (mC (.int 1))) (mGName 9))
  (mSeq (mAsg (mCall gTuple (mCons (q_items_for_2 A) mNil)) (mGName 10))
  (mSeq (mAsg (mIf (mTest (mOp (gEq false) (mOp gIx (mVar 2) (mC (.int 0))) (mC (.str "one")))) (mCallF 1 (d_pairs_for_one A) (mCons (mVar 10) mNil)) (mCallF 1 (d_pairs_for_two A) (mCons (mVar 10) mNil))) (mGName 12))
  (mRet (mTup (mCons (mVar 9) (mCons (q_items_for_3 A) mNil))))))))))))
def d_items_for (A : Ad) : List D → Mu → Res D := denF N_items_for (m_items_for A)
abbrev s__law_is_added : Stmt := top 34
abbrev N__law_is_added : List Str := ["_law_one", "_law_other", "_law_many", "_law_both", "_law_first", "_law_second", "_law_shared", "_law_kind"]
def q__law_is_added_1 (A : Ad) : DenE := mLc false (mZip (mCons (mVar 0) (mCons (mVar 1) mNil))) (mGTup 2 (mGCons (mGName 4) (mGCons (mGName 5) mGNil))) mYes (mOp (gAdd false) (mVar 4) (mVar 5)) [4, 5]
def q__law_is_added_2 (A : Ad) : DenE := mLc false (mSeqI (mCallF 2 (d_kinds A) (mCons (mVar 2) (mCons (mVar 0) mNil)))) (mGName 7) (mTest (mOp (gIn false) (mVar 7) (mCallF 2 (d_kinds A) (mCons (mVar 2) (mCons (mVar 1) mNil))))) (mVar 7) [7]
def q__law_is_added_3 (A : Ad) : DenE := mLc false (mSeqI (mVar 6)) (mGName 7) (mTest (mOp (gIn true) (mVar 7) (mCallF 2 (d_kinds A) (mCons (mVar 2) (mCons (mVar 3) mNil))))) (mVar 7) [7]
def m__law_is_added (A : Ad) : DenS :=
  (mSeq (mAsg (mCall gTuple (mCons (q__law_is_added_1 A) mNil)) (mGName 3))
  (mSeq (mAsg (q__law_is_added_2 A) (mGName 6))
  (mRet (mOp (gEq false) (q__law_is_added_3 A) (mLst false mNil)))))
def d__law_is_added (A : Ad) : List D → Mu → Res D := denF N__law_is_added (m__law_is_added A)
abbrev s_law : Stmt := top 35
abbrev N_law : List Str := ["_law_script", "_law_draw", "_law_turn", "_law_plain", "_law_fives", "_law_times", "_law_one", "_law_runs", "_law_more", "_law_number"]
def q_law_1 (A : Ad) : DenE := mLc false (mSeqI (mVar 4)) (mGName 6) (mTAnd (mTest (mOp (gEq true) (mVar 6) (mOp (gMul false) (mTup (mCons (mC (.int 0)) mNil)) (mC (.int 5))))) (mTest (mOp (gEq false) (mCallF 2 (d_kinds A) (mCons (mC (.int 2)) (mCons (mVar 6) mNil))) (mLst false mNil)))) (mVar 6) [6]
def q_law_2 (A : Ad) : DenE := mLc false (mSeqI (mVar 6)) (mGName 9) mYes (mOp (gMul false) (mVar 5) (mVar 9)) [9]
def b_law_3 (A : Ad) : DenS :=
  (mSeq (mIfS (mTest (mOp (gEq true) (mCallF 2 (d_kinds A) (mCons (mC (.int 2)) (mCons (mCall gTuple (mCons (q_law_2 A) mNil)) mNil))) (mCallF 2 (d_kinds A) (mCons (mC (.int 2)) (mCons (mVar 6) mNil)))))
  (mRet (mC (.bl false)))
  mSkip)
  (mIfS (mTOr (mTest (mOp (gIsN false) (mCallF 2 (d_items_for A) (mCons (mC (.int 2)) (mCons (mVar 6) mNil))) (mC .non))) (mTNot (mTest (mCallF 3 (d__law_is_added A) (mCons (mVar 6) (mCons (mCallF 2 (d__law_pick A) (mCons (mVar 1) (mCons (mVar 4) mNil))) (mCons (mC (.int 2)) mNil)))))))
  (mRet (mC (.bl false)))
  mSkip))
def b_law_4 (A : Ad) : DenS :=
  (mSeq (mAsg (mCallF 2 (d__law_some_runs A) (mCons (mVar 1) (mCons (mC (.bl false)) mNil))) (mGName 3))
  (mSeq (mIfS (mTest (mOp (gEq true) (mCallF 2 (d_kinds A) (mCons (mC (.int 1)) (mCons (mCallF 1 (d_amounts A) (mCons (mVar 3) mNil)) mNil))) (mLst false (mCons (mC (.str "one")) mNil))))
  (mRet (mC (.bl false)))
  mSkip)
  (mSeq (mPar 7 8 (mCons (mCallF 2 (d__law_some_runs A) (mCons (mVar 1) (mCons (mC (.bl true)) mNil))) (mCons (mCallF 2 (d__law_some_runs A) (mCons (mVar 1) (mCons (mC (.bl true)) mNil))) mNil)))
  (mSeq (mAsg (mLst false (mCons (mCallF 1 (d_amounts A) (mCons (mVar 7) mNil)) (mCons (mCallF 1 (d_amounts A) (mCons (mVar 8) mNil)) (mCons (mCallF 1 (d_amounts A) (mCons (mOp (gAdd false) (mVar 7) (mVar 8)) mNil)) (mCons (mCallF 1 (d_amounts A) (mCons (mCallF 1 (d__law_with_both A) (mCons (mVar 7) mNil)) mNil)) mNil))))) (mGName 4))
  (mSeq (mIfS (mTOr (mTest (mOp (gEq true) (q_law_1 A) (mLst false mNil))) (mTest (mOp (gIn true) (mC (.str "one")) (mCallF 2 (d_kinds A) (mCons (mC (.int 2)) (mCons (mOp gIx (mVar 4) (mC (.int 3))) mNil))))))
  (mRet (mC (.bl false)))
  mSkip)
  (mSeq (mAsg (mCallF 2 (d__law_pick A) (mCons (mVar 1) (mCons (mLst false (mCons (mC (.int 2)) (mCons (mC (.int 7)) (mCons (mOp gPow (mC (.int 10)) (mC (.int 20))) mNil)))) mNil))) (mGName 5))
  (mSeq (mFor (mSeqI (mVar 4)) (mGName 6)
  (b_law_3 A))
  (mIfS (mTOr (mTest (mOp (gIsN false) (mCallF 2 (d_items_for A) (mCons (mC (.int 1)) (mCons (mCallF 1 (d_amounts A) (mCons (mVar 3) mNil)) mNil))) (mC .non))) (mTNot (mTest (mCallF 3 (d__law_is_added A) (mCons (mCallF 1 (d_amounts A) (mCons (mVar 3) mNil)) (mCons (mCallF 1 (d_amounts A) (mCons (mLst false (mCons (mTup (mCons (mC (.int 2)) (mCons (mC (.int 3)) mNil))) mNil)) mNil)) (mCons (mC (.int 1)) mNil)))))))
  (mRet (mC (.bl false)))
  mSkip))))))))
def m_law (A : Ad) : DenS :=
  (mSeq (mAsg (mCallF 1 (d__law_begin A) (mCons (mVar 0) mNil)) (mGName 1))
  (mSeq (mFor (mRange1 (mCons (mCall gMax (mCons (mC (.int 4)) (mCons (mCall gMin (mCons (mC (.int 16)) (mCons (mCall gLen (mCons (mVar 0) mNil)) mNil))) mNil))) mNil)) (mGName 2)
  (b_law_4 A))
  (mRet (mC (.bl true)))))
def d_law (A : Ad) : List D → Mu → Res D := denF N_law (m_law A)
structure Tx (K : PySem.W.Frag) (mg : Str → Option Value) where
  f_is_number : FnF K mg "is_number" s_is_number ["thing"]
  f_is_from_zero : FnF K mg "is_from_zero" s_is_from_zero ["thing"]
  f_is_size : FnF K mg "is_size" s_is_size ["thing"]
  f__law_begin : FnF K mg "_law_begin" s__law_begin ["_law_script"]
  f__law_blend : FnF K mg "_law_blend" s__law_blend ["_law_draw"]
  f__law_take : FnF K mg "_law_take" s__law_take ["_law_draw", "_law_many"]
  f__law_pick : FnF K mg "_law_pick" s__law_pick ["_law_draw", "_law_some"]
  f__law_some_runs : FnF K mg "_law_some_runs" s__law_some_runs ["_law_draw", "_law_is_wide"]
  f_need_told : FnF K mg "need_told" s_need_told ["many", "told"]
  f_kind_words : FnF K mg "kind_words" s_kind_words ["many"]
  f_worth_of : FnF K mg "worth_of" s_worth_of ["terms", "told"]
  f_list_facts : FnF K mg "list_facts" s_list_facts ["many", "kind"]
  f_keeps : FnF K mg "keeps" s_keeps ["many", "kind", "told"]
  f_kinds : FnF K mg "kinds" s_kinds ["many", "told"]
  f_is_list : FnF K mg "is_list" s_is_list ["thing"]
  f_are_runs : FnF K mg "are_runs" s_are_runs ["thing", "is_part"]
  f_amounts_of_numbers : FnF K mg "amounts_of_numbers" s_amounts_of_numbers ["runs"]
  f_amounts_of_pairs : FnF K mg "amounts_of_pairs" s_amounts_of_pairs ["runs"]
  f_amounts : FnF K mg "amounts" s_amounts ["runs"]
  f__law_with_both : FnF K mg "_law_with_both" s__law_with_both ["_law_runs"]
  f_pairs_for_one : FnF K mg "pairs_for_one" s_pairs_for_one ["told"]
  f_pairs_for_two : FnF K mg "pairs_for_two" s_pairs_for_two ["told"]
  f_numbers_for : FnF K mg "numbers_for" s_numbers_for ["told"]
  f_items_for : FnF K mg "items_for" s_items_for ["many", "told"]
  f__law_is_added : FnF K mg "_law_is_added" s__law_is_added ["_law_one", "_law_other", "_law_many"]
  f_law : FnF K mg "law" s_law ["_law_script"]
  g_isinstance : mg "isinstance" = none
  g_int : mg "int" = none
  g_bool : mg "bool" = none
  g_tuple : mg "tuple" = none
  g_len : mg "len" = none
  g_all : mg "all" = none
  g_abs : mg "abs" = none
  g_range : mg "range" = none
  g_sum : mg "sum" = none
  g_list : mg "list" = none
  g_max : mg "max" = none
  g_zip : mg "zip" = none
  g_min : mg "min" = none
  c_WORDS : CnF K mg "WORDS" c_WORDS
  c_ONE_BOX : CnF K mg "ONE_BOX" c_ONE_BOX
  c_KIND_ONE : CnF K mg "KIND_ONE" c_KIND_ONE
  c_KIND_TWO : CnF K mg "KIND_TWO" c_KIND_TWO
  t_WORDS : ∀ H, tyV K "tuple" c_WORDS.v H
def Tx.ad {K : PySem.W.Frag} {mg : Str → Option Value} (T : Tx K mg) : Ad := { is_from_zero := T.f_is_from_zero.a, is_size := T.f_is_size.a, ok := FnF.ne T.f_is_from_zero T.f_is_size (by decide) }
section
variable {P : Program} {w : World} {K : PySem.W.Frag} {mg : Str → Option Value} {base : Heap}
theorem sc_is_number : FnScope N_is_number ["thing"] (defScope s_is_number) := ⟨rfl, rfl, rfl, by decide +kernel, rfl, by decide +kernel, by decide +kernel⟩
theorem ok_is_number (T : Tx K mg) : FnOk P w K mg base (L2.CX P w) 1 T.f_is_number.a T.f_is_number.fd ["thing"] (spD K 1 (d_is_number T.ad)) := fn_D T.f_is_number.F sc_is_number fun X E cdv A outer s H hr e => by
  have tk : Takes X (fun c d _ H' => E c d H') := by subst e; exact takes_of rfl rfl rfl rfl
  have hu := hu_of hr
  subst e
  exact (dss_one (ds_ret (de_and (de_callB call_isiA cg_isi rfl T.g_isinstance bt_isinstance (da_cons (de_var (pv 0)) (da_cons (de_ty rfl T.g_int bt_int) da_nil))) (de_one (de_not (de_callB call_isiA cg_isi rfl T.g_isinstance bt_isinstance (da_cons (de_var (pv 0)) (da_cons (de_ty rfl T.g_bool bt_bool) da_nil))))))))
theorem sc_is_from_zero : FnScope N_is_from_zero ["thing"] (defScope s_is_from_zero) := ⟨rfl, rfl, rfl, by decide +kernel, rfl, by decide +kernel, by decide +kernel⟩
theorem ok_is_from_zero (T : Tx K mg) : FnOk P w K mg base (L2.CX P w) 2 T.f_is_from_zero.a T.f_is_from_zero.fd ["thing"] (spD K 1 (d_is_from_zero T.ad)) := fn_D T.f_is_from_zero.F sc_is_from_zero fun X E cdv A outer s H hr e => by
  have tk : Takes X (fun c d _ H' => E c d H') := by subst e; exact takes_of rfl rfl rfl rfl
  have hu := hu_of hr
  subst e
  exact (dss_one (ds_ret (de_and (de_callN rfl rfl (ok_is_number T) tk (hr.mono (by decide)) T.f_is_number.g T.f_is_number.F.kp T.f_is_number.b (da_cons (de_var (pv 0)) da_nil)) (de_one (de_cmp op_ge og_ge (de_var (pv 0)) de_int (nomark _))))))
theorem sc_is_size : FnScope N_is_size ["thing"] (defScope s_is_size) := ⟨rfl, rfl, rfl, by decide +kernel, rfl, by decide +kernel, by decide +kernel⟩
theorem ok_is_size (T : Tx K mg) : FnOk P w K mg base (L2.CX P w) 2 T.f_is_size.a T.f_is_size.fd ["thing"] (spD K 1 (d_is_size T.ad)) := fn_D T.f_is_size.F sc_is_size fun X E cdv A outer s H hr e => by
  have tk : Takes X (fun c d _ H' => E c d H') := by subst e; exact takes_of rfl rfl rfl rfl
  have hu := hu_of hr
  subst e
  exact (dss_cons (ds_if (dt_w (dw_or (dt_not (dt_val (de_callB call_isiA cg_isi rfl T.g_isinstance bt_isinstance (da_cons (de_var (pv 0)) (da_cons (de_ty rfl T.g_tuple bt_tuple) da_nil))))) (dw_or1 (dt_cmp (op_neD hr.units) og_ne (de_callB call_lenA cg_len rfl T.g_len bt_len (da_cons (de_var (pv 0)) da_nil)) de_int (nomark _)))))
    (dss_one (ds_ret de_bl))
    dss_nil)
    (dss_one (ds_ret (de_callB (cr_all rfl) cg_all rfl T.g_all bt_all (da_cons (de_lc (ts := [1]) (own := [("part", 1)]) false (by decide) rfl sc_is_size.nd (di_seq (de_var (pv 0))) (blkOk_by (N := N_is_size) (sc := (defScope s_is_size)) (by decide +kernel)) (fun _ _ _ _ _ => (dg_name (i := 1) sc_is_size.nd rfl (Or.inl rfl))) (fun _ _ _ _ _ => dts_nil) (fun _ _ _ _ _ => (de_and (de_callN rfl rfl (ok_is_number T) takes0 (hr.mono (by decide)) T.f_is_number.g T.f_is_number.F.kp T.f_is_number.b (da_cons (de_var (pv 1)) da_nil)) (de_one (de_cmp op_ge og_ge (de_var (pv 1)) de_int (nomark _)))))) da_nil)))))
theorem ft_held (T : Tx K mg) : ∀ q, q ∈ ft T.ad → Held P w K mg base 2 q.1 (fun vs H Q _ => spD K q.2.1 q.2.2 vs H Q fun _ _ _ => False) := by
  intro q hq
  simp only [ft, List.mem_cons, List.not_mem_nil, or_false] at hq
  rcases hq with rfl | rfl
  · exact held_of (ok_is_from_zero T) T.f_is_from_zero.F.kp T.f_is_from_zero.b
  · exact held_of (ok_is_size T) T.f_is_size.F.kp T.f_is_size.b
theorem sc__law_begin : FnScope N__law_begin ["_law_script"] (defScope s__law_begin) := ⟨rfl, rfl, rfl, by decide +kernel, rfl, by decide +kernel, by decide +kernel⟩
theorem ok__law_begin (T : Tx K mg) : FnOk P w K mg base (L2.CX P w) 1 T.f__law_begin.a T.f__law_begin.fd ["_law_script"] (spD K 1 (d__law_begin T.ad)) := fn_D T.f__law_begin.F sc__law_begin fun X E cdv A outer s H hr e => by
  have tk : Takes X (fun c d _ H' => E c d H') := by subst e; exact takes_of rfl rfl rfl rfl
  have hu := hu_of hr
  subst e
  exact (dss_cons (ds_setLc (i := 1) (ts := [2]) (own := [("_law_cell", 2)]) true (by decide) rfl sc__law_begin.nd rfl rfl (sw_true rfl rfl rfl (by decide +kernel)) (di_seq (de_var (pv 0))) (blkOk_by (N := N__law_begin) (sc := (defScope s__law_begin)) (by decide +kernel)) (fun _ _ _ _ _ => (dg_name (i := 2) sc__law_begin.nd rfl (Or.inl rfl))) (fun _ _ _ _ _ => (dts_one (dt_cmp op_ge og_ge (de_callB call_abs cg_abs rfl T.g_abs bt_abs (da_cons (de_var (pv 2)) da_nil)) (de_op op_powW og_pow de_int de_int) (nomark _)))) (fun _ _ _ _ _ => (de_op op_sub og_sub (de_callB call_abs cg_abs rfl T.g_abs bt_abs (da_cons (de_var (pv 2)) da_nil)) (de_op op_powW og_pow de_int de_int))))
    (dss_one (ds_ret (de_disp (prs := [((mC (.str "great")), (mVar 1)), ((mC (.str "rest")), (mC (.int 0))), ((mC (.str "cells")), (q__law_begin_2 T.ad)), ((mC (.str "turn")), (mC (.int 0)))]) (pps_cons de_str (de_var (pv 1)) (pps_cons de_str de_int (pps_cons de_str (de_lc (ts := [2]) (own := [("_law_cell", 2)]) false (by decide) rfl sc__law_begin.nd (di_seq (de_var (pv 0))) (blkOk_by (N := N__law_begin) (sc := (defScope s__law_begin)) (by decide +kernel)) (fun _ _ _ _ _ => (dg_name (i := 2) sc__law_begin.nd rfl (Or.inl rfl))) (fun _ _ _ _ _ => dts_nil) (fun _ _ _ _ _ => (de_callB call_abs cg_abs rfl T.g_abs bt_abs (da_cons (de_var (pv 2)) da_nil)))) (pps_cons de_str de_int pps_nil)))) rfl rfl (by decide) (by decide)))))
theorem sc__law_blend : FnScope N__law_blend ["_law_draw"] (defScope s__law_blend) := ⟨rfl, rfl, rfl, by decide +kernel, rfl, by decide +kernel, by decide +kernel⟩
theorem ok__law_blend (T : Tx K mg) : FnOk P w K mg base (L2.CX P w) 1 T.f__law_blend.a T.f__law_blend.fd ["_law_draw"] (spD K 1 (d__law_blend T.ad)) := fn_D T.f__law_blend.F sc__law_blend fun X E cdv A outer s H hr e => by
  have tk : Takes X (fun c d _ H' => E c d H') := by subst e; exact takes_of rfl rfl rfl rfl
  have hu := hu_of hr
  subst e
  exact (dss_cons (ds_set (i := 1) sc__law_blend.nd rfl (Or.inl rfl) (de_op op_addA (og_add false) (de_ix (ix_all hu) og_ix (de_var (pv 0)) de_str fun _ _ => rfl) de_int))
    (dss_cons (ds_sub hu (de_var (pv 0)) de_str (de_var (pv 1)))
    (dss_cons (ds_set (i := 2) sc__law_blend.nd rfl (Or.inl rfl) de_int)
    (dss_cons (ds_for GOk.name (passes_of rfl) rfl (di_seq (de_lst false (da_cons de_int (da_cons de_int (da_cons de_int (da_cons de_int da_nil)))))) (dg_name (i := 3) sc__law_blend.nd rfl (Or.inl rfl))
    (dss_cons (ds_set (i := 4) sc__law_blend.nd rfl (Or.inl rfl) (de_op op_mod og_mod (de_callTy call_int1 cg_int rfl T.g_int bt_int (da_cons (de_op op_addA (og_add false) (de_op op_mulA (og_mul false) (de_var (pv 1)) de_int) (de_op op_fdivW og_fdiv (de_var (pv 3)) de_int)) da_nil)) (de_var (pv 3))))
    (dss_cons (ds_for GOk.name (passes_of rfl) rfl (di_seq (de_ix (ix_all hu) og_ix (de_var (pv 0)) de_str fun _ _ => rfl)) (dg_name (i := 5) sc__law_blend.nd rfl (Or.inl rfl))
    (dss_one (ds_set (i := 4) sc__law_blend.nd rfl (Or.inl rfl) (de_op op_mod og_mod (de_callTy call_int1 cg_int rfl T.g_int bt_int (da_cons (de_op op_addA (og_add false) (de_op op_mulA (og_mul false) (de_var (pv 4)) de_int) (de_var (pv 5))) da_nil)) (de_var (pv 3))))))
    (dss_one (ds_set (i := 2) sc__law_blend.nd rfl (Or.inl rfl) (de_op op_addA (og_add false) (de_op op_mulA (og_mul false) (de_var (pv 2)) de_int) (de_op op_mod og_mod (de_callTy call_int1 cg_int rfl T.g_int bt_int (da_cons (de_op op_powW og_pow (de_var (pv 4)) de_int) da_nil)) (de_var (pv 3)))))))))
    (dss_one (ds_ret (de_var (pv 2))))))))
theorem sc__law_take : FnScope N__law_take ["_law_draw", "_law_many"] (defScope s__law_take) := ⟨rfl, rfl, rfl, by decide +kernel, rfl, by decide +kernel, by decide +kernel⟩
theorem ok__law_take (T : Tx K mg) : FnOk P w K mg base (L2.CX P w) 2 T.f__law_take.a T.f__law_take.fd ["_law_draw", "_law_many"] (spD K 2 (d__law_take T.ad)) := fn_D T.f__law_take.F sc__law_take fun X E cdv A outer s H hr e => by
  have tk : Takes X (fun c d _ H' => E c d H') := by subst e; exact takes_of rfl rfl rfl rfl
  have hu := hu_of hr
  subst e
  exact (dss_cons (ds_if (dt_w (dw_and (dt_cmp (op_eqD hr.units) og_eq (de_ix (ix_all hu) og_ix (de_var (pv 0)) de_str fun _ _ => rfl) de_int (nomark _)) (dw_and1 (dt_cmp (op_neD hr.units) og_ne (de_ix (ix_all hu) og_ix (de_var (pv 0)) de_str fun _ _ => rfl) (de_lst false da_nil) (nomark _)))))
    (dss_one (ds_sub hu (de_var (pv 0)) de_str (de_bm PySem.F.plainAttrs_list PySem.F.slot_list_pop PySem.F.type_list_pop mt_popAt ty_lst mg_popAt (de_ix (ix_all hu) og_ix (de_var (pv 0)) de_str fun _ _ => rfl) (da_cons de_int da_nil))))
    dss_nil)
    (dss_cons (ds_if (dt_cmp (op_eqD hr.units) og_eq (de_ix (ix_all hu) og_ix (de_var (pv 0)) de_str fun _ _ => rfl) de_int (nomark _))
    (dss_one (ds_sub hu (de_var (pv 0)) de_str (de_callN rfl rfl (ok__law_blend T) tk (hr.mono (by decide)) T.f__law_blend.g T.f__law_blend.F.kp T.f__law_blend.b (da_cons (de_var (pv 0)) da_nil))))
    dss_nil)
    (dss_cons (ds_set (i := 2) sc__law_take.nd rfl (Or.inl rfl) (de_op op_mod og_mod (de_callTy call_int1 cg_int rfl T.g_int bt_int (da_cons (de_ix (ix_all hu) og_ix (de_var (pv 0)) de_str fun _ _ => rfl) da_nil)) (de_var (pv 1))))
    (dss_cons (ds_sub hu (de_var (pv 0)) de_str (de_op op_fdivW og_fdiv (de_ix (ix_all hu) og_ix (de_var (pv 0)) de_str fun _ _ => rfl) (de_var (pv 1))))
    (dss_one (ds_ret (de_var (pv 2))))))))
theorem sc__law_pick : FnScope N__law_pick ["_law_draw", "_law_some"] (defScope s__law_pick) := ⟨rfl, rfl, rfl, by decide +kernel, rfl, by decide +kernel, by decide +kernel⟩
theorem ok__law_pick (T : Tx K mg) : FnOk P w K mg base (L2.CX P w) 3 T.f__law_pick.a T.f__law_pick.fd ["_law_draw", "_law_some"] (spD K 2 (d__law_pick T.ad)) := fn_D T.f__law_pick.F sc__law_pick fun X E cdv A outer s H hr e => by
  have tk : Takes X (fun c d _ H' => E c d H') := by subst e; exact takes_of rfl rfl rfl rfl
  have hu := hu_of hr
  subst e
  exact (dss_one (ds_ret (de_ix (ix_all hu) og_ix (de_var (pv 1)) (de_callN rfl rfl (ok__law_take T) tk (hr.mono (by decide)) T.f__law_take.g T.f__law_take.F.kp T.f__law_take.b (da_cons (de_var (pv 0)) (da_cons (de_callB call_lenA cg_len rfl T.g_len bt_len (da_cons (de_var (pv 1)) da_nil)) da_nil))) fun _ _ => rfl)))
theorem sc__law_some_runs : FnScope N__law_some_runs ["_law_draw", "_law_is_wide"] (defScope s__law_some_runs) := ⟨rfl, rfl, rfl, by decide +kernel, rfl, by decide +kernel, by decide +kernel⟩
theorem ok__law_some_runs (T : Tx K mg) : FnOk P w K mg base (L2.CX P w) 4 T.f__law_some_runs.a T.f__law_some_runs.fd ["_law_draw", "_law_is_wide"] (spD K 2 (d__law_some_runs T.ad)) := fn_D T.f__law_some_runs.F sc__law_some_runs fun X E cdv A outer s H hr e => by
  have tk : Takes X (fun c d _ H' => E c d H') := by subst e; exact takes_of rfl rfl rfl rfl
  have hu := hu_of hr
  subst e
  exact (dss_cons (ds_par (i := 2) (j := 3) rfl sc__law_some_runs.nd rfl rfl (by decide) rfl rfl (da_cons (de_lst true da_nil) (da_cons (de_callN rfl rfl (ok__law_pick T) tk (hr.mono (by decide)) T.f__law_pick.g T.f__law_pick.F.kp T.f__law_pick.b (da_cons (de_var (pv 0)) (da_cons (de_lst false (da_cons de_int (da_cons de_int (da_cons de_int (da_cons de_int (da_cons (de_op op_powW og_pow de_int de_int) (da_cons de_int (da_cons de_int (da_cons de_int (da_cons de_int (da_cons (de_callN rfl rfl (ok__law_pick T) tk (hr.mono (by decide)) T.f__law_pick.g T.f__law_pick.F.kp T.f__law_pick.b (da_cons (de_var (pv 0)) (da_cons (de_lst false (da_cons de_int (da_cons (de_op op_powW og_pow (de_op op_powW og_pow de_int de_int) de_int) da_nil))) da_nil))) da_nil))))))))))) da_nil))) da_nil)) rfl)
    (dss_cons (ds_for GOk.name (passes_of rfl) rfl (di_range1 rfl T.g_range (da_cons (de_callN rfl rfl (ok__law_pick T) tk (hr.mono (by decide)) T.f__law_pick.g T.f__law_pick.F.kp T.f__law_pick.b (da_cons (de_var (pv 0)) (da_cons (de_lst false (da_cons de_int (da_cons de_int (da_cons de_int (da_cons de_int (da_cons de_int (da_cons de_int (da_cons de_int (da_cons de_int (da_cons de_int (da_cons de_int (da_cons de_int (da_cons de_int da_nil))))))))))))) da_nil))) da_nil)) (dg_name (i := 4) sc__law_some_runs.nd rfl (Or.inl rfl))
    (dss_cons (ds_set (i := 5) sc__law_some_runs.nd rfl (Or.inl rfl) (de_ifx (dt_val (de_var (pv 1))) (de_tup (da_cons (de_callN rfl rfl (ok__law_take T) tk (hr.mono (by decide)) T.f__law_take.g T.f__law_take.F.kp T.f__law_take.b (da_cons (de_var (pv 0)) (da_cons (de_var (pv 3)) da_nil))) (da_cons (de_callN rfl rfl (ok__law_take T) tk (hr.mono (by decide)) T.f__law_take.g T.f__law_take.F.kp T.f__law_take.b (da_cons (de_var (pv 0)) (da_cons (de_var (pv 3)) da_nil))) da_nil))) (de_callN rfl rfl (ok__law_take T) tk (hr.mono (by decide)) T.f__law_take.g T.f__law_take.F.kp T.f__law_take.b (da_cons (de_var (pv 0)) (da_cons (de_var (pv 3)) da_nil)))))
    (dss_one (ds_expr (de_bm PySem.F.plainAttrs_list PySem.F.slot_list_append PySem.F.type_list_append mt_append ty_lst mg_append (de_var (pv 2)) (da_cons (de_tup (da_cons (de_op op_addA (og_add false) de_int (de_callN rfl rfl (ok__law_take T) tk (hr.mono (by decide)) T.f__law_take.g T.f__law_take.F.kp T.f__law_take.b (da_cons (de_var (pv 0)) (da_cons (de_callN rfl rfl (ok__law_pick T) tk (hr.mono (by decide)) T.f__law_pick.g T.f__law_pick.F.kp T.f__law_pick.b (da_cons (de_var (pv 0)) (da_cons (de_lst false (da_cons de_int (da_cons de_int (da_cons de_int (da_cons (de_op op_powW og_pow de_int de_int) da_nil))))) da_nil))) da_nil)))) (da_cons (de_var (pv 5)) da_nil))) da_nil))))))
    (dss_frz 2 (dss_one (ds_ret (de_var (pv 2)))))))
theorem sc_need_told : FnScope N_need_told ["many", "told"] (defScope s_need_told) := ⟨rfl, rfl, rfl, by decide +kernel, rfl, by decide +kernel, by decide +kernel⟩
theorem ok_need_told (T : Tx K mg) : FnOk P w K mg base (L2.CX P w) 3 T.f_need_told.a T.f_need_told.fd ["many", "told"] (spD K 2 (d_need_told T.ad)) := fn_D T.f_need_told.F sc_need_told fun X E cdv A outer s H hr e => by
  have tk : Takes X (fun c d _ H' => E c d H') := by subst e; exact takes_of rfl rfl rfl rfl
  have hu := hu_of hr
  subst e
  exact (dss_cons (ds_if (dt_w (dw_or (dt_not (dt_val (de_callN rfl rfl (ok_is_number T) tk (hr.mono (by decide)) T.f_is_number.g T.f_is_number.F.kp T.f_is_number.b (da_cons (de_var (pv 0)) da_nil)))) (dw_or1 (dt_not (dt_chain op_le og_le op_le og_le de_int (de_var (pv 0)) de_int)))))
    (dss_one ds_stuck)
    dss_nil)
    (dss_one (ds_if (dt_w (dw_or (dt_not (dt_val (de_callB call_isiA cg_isi rfl T.g_isinstance bt_isinstance (da_cons (de_var (pv 1)) (da_cons (de_ty rfl T.g_tuple bt_tuple) da_nil))))) (dw_or (dt_cmp (op_neD hr.units) og_ne (de_callB call_lenA cg_len rfl T.g_len bt_len (da_cons (de_var (pv 1)) da_nil)) de_int (nomark _)) (dw_or1 (dt_not (dt_val (de_callB (cr_all rfl) cg_all rfl T.g_all bt_all (da_cons (de_lc (ts := [2]) (own := [("one", 2)]) false (by decide) rfl sc_need_told.nd (di_seq (de_var (pv 1))) (blkOk_by (N := N_need_told) (sc := (defScope s_need_told)) (by decide +kernel)) (fun _ _ _ _ _ => (dg_name (i := 2) sc_need_told.nd rfl (Or.inl rfl))) (fun _ _ _ _ _ => dts_nil) (fun _ _ _ _ _ => (de_callN rfl rfl (ok_is_from_zero T) takes0 (hr.mono (by decide)) T.f_is_from_zero.g T.f_is_from_zero.F.kp T.f_is_from_zero.b (da_cons (de_var (pv 2)) da_nil)))) da_nil))))))))
    (dss_one ds_stuck)
    dss_nil)))
theorem sc_kind_words : FnScope N_kind_words ["many"] (defScope s_kind_words) := ⟨rfl, rfl, rfl, by decide +kernel, rfl, by decide +kernel, by decide +kernel⟩
theorem ok_kind_words (T : Tx K mg) : FnOk P w K mg base (L2.CX P w) 1 T.f_kind_words.a T.f_kind_words.fd ["many"] (spD K 1 (d_kind_words T.ad)) := fn_D T.f_kind_words.F sc_kind_words fun X E cdv A outer s H hr e => by
  have tk : Takes X (fun c d _ H' => E c d H') := by subst e; exact takes_of rfl rfl rfl rfl
  have hu := hu_of hr
  subst e
  exact (dss_one (ds_ret (de_ifx (dt_cmp (op_eqD hr.units) og_eq (de_var (pv 0)) de_int (nomark _)) (de_tup (da_cons de_str da_nil)) (de_tup (da_cons de_str (da_cons de_str da_nil))))))
theorem sc_worth_of : FnScope N_worth_of ["terms", "told"] (defScope s_worth_of) := ⟨rfl, rfl, rfl, by decide +kernel, rfl, by decide +kernel, by decide +kernel⟩
theorem ok_worth_of (T : Tx K mg) : FnOk P w K mg base (L2.CX P w) 1 T.f_worth_of.a T.f_worth_of.fd ["terms", "told"] (spD K 2 (d_worth_of T.ad)) := fn_D T.f_worth_of.F sc_worth_of fun X E cdv A outer s H hr e => by
  have tk : Takes X (fun c d _ H' => E c d H') := by subst e; exact takes_of rfl rfl rfl rfl
  have hu := hu_of hr
  subst e
  exact (dss_one (ds_ret (de_callB (cr_sum rfl) cg_sum rfl T.g_sum bt_sum (da_cons (de_lc (ts := [2, 3]) (own := [("word", 2), ("number", 3)]) false (by decide) rfl sc_worth_of.nd (di_seq (de_var (pv 0))) (blkOk_by (N := N_worth_of) (sc := (defScope s_worth_of)) (by decide +kernel)) (fun _ _ _ _ _ => (dg_tup rfl (dgs_cons (dg_name (i := 2) sc_worth_of.nd rfl (Or.inl rfl)) (dgs_cons (dg_name (i := 3) sc_worth_of.nd rfl (Or.inl rfl)) dgs_nil)))) (fun _ _ _ _ _ => dts_nil) (fun _ _ _ _ _ => (de_op op_mulA (og_mul false) (de_var (pv 3)) (de_ix (ix_all hu) og_ix (de_var (pv 1)) (de_bmC PySem.F.plainAttrs_tuple PySem.F.slot_tuple_index PySem.F.type_tuple_index mt_tup_index T.t_WORDS T.c_WORDS.rep mg_tup_index (pe_glob rfl T.c_WORDS.g T.c_WORDS.rv) (da_cons (de_var (pv 2)) da_nil)) fun _ _ => rfl)))) da_nil))))
theorem sc_list_facts : FnScope N_list_facts ["many", "kind"] (defScope s_list_facts) := ⟨rfl, rfl, rfl, by decide +kernel, rfl, by decide +kernel, by decide +kernel⟩
theorem ok_list_facts (T : Tx K mg) : FnOk P w K mg base (L2.CX P w) 1 T.f_list_facts.a T.f_list_facts.fd ["many", "kind"] (spD K 2 (d_list_facts T.ad)) := fn_D T.f_list_facts.F sc_list_facts fun X E cdv A outer s H hr e => by
  have tk : Takes X (fun c d _ H' => E c d H') := by subst e; exact takes_of rfl rfl rfl rfl
  have hu := hu_of hr
  subst e
  exact (dss_cons (ds_if (dt_cmp (op_eqD hr.units) og_eq (de_var (pv 0)) de_int (nomark _))
    (dss_one (ds_ret (de_c (pe_glob rfl T.c_ONE_BOX.g T.c_ONE_BOX.rv) T.c_ONE_BOX.rep)))
    dss_nil)
    (dss_one (ds_ret (de_ifx (dt_cmp (op_eqD hr.units) og_eq (de_var (pv 1)) de_str (nomark _)) (de_c (pe_glob rfl T.c_KIND_ONE.g T.c_KIND_ONE.rv) T.c_KIND_ONE.rep) (de_c (pe_glob rfl T.c_KIND_TWO.g T.c_KIND_TWO.rv) T.c_KIND_TWO.rep)))))
theorem sc_keeps : FnScope N_keeps ["many", "kind", "told"] (defScope s_keeps) := ⟨rfl, rfl, rfl, by decide +kernel, rfl, by decide +kernel, by decide +kernel⟩
theorem ok_keeps (T : Tx K mg) : FnOk P w K mg base (L2.CX P w) 2 T.f_keeps.a T.f_keeps.fd ["many", "kind", "told"] (spD K 3 (d_keeps T.ad)) := fn_D T.f_keeps.F sc_keeps fun X E cdv A outer s H hr e => by
  have tk : Takes X (fun c d _ H' => E c d H') := by subst e; exact takes_of rfl rfl rfl rfl
  have hu := hu_of hr
  subst e
  exact (dss_one (ds_ret (de_callB (cr_all rfl) cg_all rfl T.g_all bt_all (da_cons (de_lc (ts := [3, 4]) (own := [("less", 3), ("more", 4)]) false (by decide) rfl sc_keeps.nd (di_seq (de_callN rfl rfl (ok_list_facts T) tk (hr.mono (by decide)) T.f_list_facts.g T.f_list_facts.F.kp T.f_list_facts.b (da_cons (de_var (pv 0)) (da_cons (de_var (pv 1)) da_nil)))) (blkOk_by (N := N_keeps) (sc := (defScope s_keeps)) (by decide +kernel)) (fun _ _ _ _ _ => (dg_tup rfl (dgs_cons (dg_name (i := 3) sc_keeps.nd rfl (Or.inl rfl)) (dgs_cons (dg_name (i := 4) sc_keeps.nd rfl (Or.inl rfl)) dgs_nil)))) (fun _ _ _ _ _ => dts_nil) (fun _ _ _ _ _ => (de_cmp op_le og_le (de_callN rfl rfl (ok_worth_of T) takes0 (hr.mono (by decide)) T.f_worth_of.g T.f_worth_of.F.kp T.f_worth_of.b (da_cons (de_var (pv 3)) (da_cons (de_var (pv 2)) da_nil))) (de_callN rfl rfl (ok_worth_of T) takes0 (hr.mono (by decide)) T.f_worth_of.g T.f_worth_of.F.kp T.f_worth_of.b (da_cons (de_var (pv 4)) (da_cons (de_var (pv 2)) da_nil))) (nomark _)))) da_nil))))
theorem sc_kinds : FnScope N_kinds ["many", "told"] (defScope s_kinds) := ⟨rfl, rfl, rfl, by decide +kernel, rfl, by decide +kernel, by decide +kernel⟩
theorem ok_kinds (T : Tx K mg) : FnOk P w K mg base (L2.CX P w) 4 T.f_kinds.a T.f_kinds.fd ["many", "told"] (spD K 2 (d_kinds T.ad)) := fn_D T.f_kinds.F sc_kinds fun X E cdv A outer s H hr e => by
  have tk : Takes X (fun c d _ H' => E c d H') := by subst e; exact takes_of rfl rfl rfl rfl
  have hu := hu_of hr
  subst e
  exact (dss_cons (ds_expr (de_callN rfl rfl (ok_need_told T) tk (hr.mono (by decide)) T.f_need_told.g T.f_need_told.F.kp T.f_need_told.b (da_cons (de_var (pv 0)) (da_cons (de_var (pv 1)) da_nil))))
    (dss_one (ds_ret (de_lc (ts := [2]) (own := [("kind", 2)]) false (by decide) rfl sc_kinds.nd (di_seq (de_callN rfl rfl (ok_kind_words T) tk (hr.mono (by decide)) T.f_kind_words.g T.f_kind_words.F.kp T.f_kind_words.b (da_cons (de_var (pv 0)) da_nil))) (blkOk_by (N := N_kinds) (sc := (defScope s_kinds)) (by decide +kernel)) (fun _ _ _ _ _ => (dg_name (i := 2) sc_kinds.nd rfl (Or.inl rfl))) (fun _ _ _ _ _ => (dts_one (dt_val (de_callN rfl rfl (ok_keeps T) takes0 (hr.mono (by decide)) T.f_keeps.g T.f_keeps.F.kp T.f_keeps.b (da_cons (de_var (pv 0)) (da_cons (de_var (pv 2)) (da_cons (de_var (pv 1)) da_nil))))))) (fun _ _ _ _ _ => (de_var (pv 2)))))))
theorem sc_is_list : FnScope N_is_list ["thing"] (defScope s_is_list) := ⟨rfl, rfl, rfl, by decide +kernel, rfl, by decide +kernel, by decide +kernel⟩
theorem ok_is_list (T : Tx K mg) : FnOk P w K mg base (L2.CX P w) 1 T.f_is_list.a T.f_is_list.fd ["thing"] (spD K 1 (d_is_list T.ad)) := fn_D T.f_is_list.F sc_is_list fun X E cdv A outer s H hr e => by
  have tk : Takes X (fun c d _ H' => E c d H') := by subst e; exact takes_of rfl rfl rfl rfl
  have hu := hu_of hr
  subst e
  exact (dss_one (ds_ret (de_callB call_isiA cg_isi rfl T.g_isinstance bt_isinstance (da_cons (de_var (pv 0)) (da_cons (de_tup (da_cons (de_ty rfl T.g_list bt_list) (da_cons (de_ty rfl T.g_tuple bt_tuple) da_nil))) da_nil)))))
theorem sc_are_runs : FnScope N_are_runs ["thing", "is_part"] (defScope s_are_runs) := ⟨rfl, rfl, rfl, by decide +kernel, rfl, by decide +kernel, by decide +kernel⟩
theorem ok_are_runs (T : Tx K mg) : FnOk P w K mg base (L2.CX P w) 3 T.f_are_runs.a T.f_are_runs.fd ["thing", "is_part"] (spD K 2 (d_are_runs T.ad)) := fn_D T.f_are_runs.F sc_are_runs fun X E cdv A outer s H hr e => by
  have tk : Takes X (fun c d _ H' => E c d H') := by subst e; exact takes_of rfl rfl rfl rfl
  have hu := hu_of hr
  subst e
  exact (dss_cons (ds_if (dt_not (dt_val (de_callN rfl rfl (ok_is_list T) tk (hr.mono (by decide)) T.f_is_list.g T.f_is_list.F.kp T.f_is_list.b (da_cons (de_var (pv 0)) da_nil))))
    (dss_one (ds_ret de_bl))
    dss_nil)
    (dss_cons (ds_for GOk.name (passes_of rfl) rfl (di_seq (de_var (pv 0))) (dg_name (i := 2) sc_are_runs.nd rfl (Or.inl rfl))
    (dss_one (ds_if (dt_w (dw_or (dt_not (dt_val (de_callB call_isiA cg_isi rfl T.g_isinstance bt_isinstance (da_cons (de_var (pv 2)) (da_cons (de_ty rfl T.g_tuple bt_tuple) da_nil))))) (dw_or (dt_cmp (op_neD hr.units) og_ne (de_callB call_lenA cg_len rfl T.g_len bt_len (da_cons (de_var (pv 2)) da_nil)) de_int (nomark _)) (dw_or (dt_not (dt_val (de_callN rfl rfl (ok_is_number T) tk (hr.mono (by decide)) T.f_is_number.g T.f_is_number.F.kp T.f_is_number.b (da_cons (de_ix (ix_all hu) og_ix (de_var (pv 2)) de_int fun _ _ => rfl) da_nil)))) (dw_or (dt_cmp op_lt og_lt (de_ix (ix_all hu) og_ix (de_var (pv 2)) de_int fun _ _ => rfl) de_int (nomark _)) (dw_or1 (dt_not (dt_val (de_callV (ft_held T) (hr.mono (by decide)) rfl (by first | exact Or.inl rfl | exact Or.inr (Or.inl rfl) | exact Or.inr (Or.inr rfl)) (da_cons (de_ix (ix_all hu) og_ix (de_var (pv 2)) de_int fun _ _ => rfl) da_nil) rfl)))))))))
    (dss_one (ds_ret de_bl))
    dss_nil)))
    (dss_one (ds_ret de_bl))))
theorem sc_amounts_of_numbers : FnScope N_amounts_of_numbers ["runs"] (defScope s_amounts_of_numbers) := ⟨rfl, rfl, rfl, by decide +kernel, rfl, by decide +kernel, by decide +kernel⟩
theorem ok_amounts_of_numbers (T : Tx K mg) : FnOk P w K mg base (L2.CX P w) 1 T.f_amounts_of_numbers.a T.f_amounts_of_numbers.fd ["runs"] (spD K 1 (d_amounts_of_numbers T.ad)) := fn_D T.f_amounts_of_numbers.F sc_amounts_of_numbers fun X E cdv A outer s H hr e => by
  have tk : Takes X (fun c d _ H' => E c d H') := by subst e; exact takes_of rfl rfl rfl rfl
  have hu := hu_of hr
  subst e
  exact (dss_cons (ds_par (i := 1) (j := 2) rfl sc_amounts_of_numbers.nd rfl rfl (by decide) rfl rfl (da_cons (de_callB (cr_sum rfl) cg_sum rfl T.g_sum bt_sum (da_cons (de_lc (ts := [3, 4]) (own := [("count", 3), ("number", 4)]) false (by decide) rfl sc_amounts_of_numbers.nd (di_seq (de_var (pv 0))) (blkOk_by (N := N_amounts_of_numbers) (sc := (defScope s_amounts_of_numbers)) (by decide +kernel)) (fun _ _ _ _ _ => (dg_tup rfl (dgs_cons (dg_name (i := 3) sc_amounts_of_numbers.nd rfl (Or.inl rfl)) (dgs_cons (dg_name (i := 4) sc_amounts_of_numbers.nd rfl (Or.inl rfl)) dgs_nil)))) (fun _ _ _ _ _ => dts_nil) (fun _ _ _ _ _ => (de_op op_mulA (og_mul false) (de_var (pv 3)) (de_var (pv 4))))) da_nil)) (da_cons (de_callB (call_maxA rfl) cg_max rfl T.g_max bt_max (da_cons (de_op op_addA (og_add false) (de_lst false (da_cons de_int da_nil)) (de_lc (ts := [3, 4]) (own := [("count", 3), ("number", 4)]) false (by decide) rfl sc_amounts_of_numbers.nd (di_seq (de_var (pv 0))) (blkOk_by (N := N_amounts_of_numbers) (sc := (defScope s_amounts_of_numbers)) (by decide +kernel)) (fun _ _ _ _ _ => (dg_tup rfl (dgs_cons (dg_name (i := 3) sc_amounts_of_numbers.nd rfl (Or.inl rfl)) (dgs_cons (dg_name (i := 4) sc_amounts_of_numbers.nd rfl (Or.inl rfl)) dgs_nil)))) (fun _ _ _ _ _ => dts_nil) (fun _ _ _ _ _ => (de_var (pv 4))))) da_nil)) da_nil)) rfl)
    (dss_one (ds_ret (de_tup (da_cons (de_var (pv 1)) (da_cons (de_var (pv 1)) (da_cons (de_var (pv 2)) (da_cons (de_var (pv 2)) (da_cons (de_var (pv 2)) da_nil)))))))))
theorem sc_amounts_of_pairs : FnScope N_amounts_of_pairs ["runs"] (defScope s_amounts_of_pairs) := ⟨rfl, rfl, rfl, by decide +kernel, rfl, by decide +kernel, by decide +kernel⟩
theorem ok_amounts_of_pairs (T : Tx K mg) : FnOk P w K mg base (L2.CX P w) 1 T.f_amounts_of_pairs.a T.f_amounts_of_pairs.fd ["runs"] (spD K 1 (d_amounts_of_pairs T.ad)) := fn_D T.f_amounts_of_pairs.F sc_amounts_of_pairs fun X E cdv A outer s H hr e => by
  have tk : Takes X (fun c d _ H' => E c d H') := by subst e; exact takes_of rfl rfl rfl rfl
  have hu := hu_of hr
  subst e
  exact (dss_cons (ds_set (i := 1) sc_amounts_of_pairs.nd rfl (Or.inl rfl) (de_callB (cr_sum rfl) cg_sum rfl T.g_sum bt_sum (da_cons (de_lc (ts := [2, 3]) (own := [("count", 2), ("pair", 3)]) false (by decide) rfl sc_amounts_of_pairs.nd (di_seq (de_var (pv 0))) (blkOk_by (N := N_amounts_of_pairs) (sc := (defScope s_amounts_of_pairs)) (by decide +kernel)) (fun _ _ _ _ _ => (dg_tup rfl (dgs_cons (dg_name (i := 2) sc_amounts_of_pairs.nd rfl (Or.inl rfl)) (dgs_cons (dg_name (i := 3) sc_amounts_of_pairs.nd rfl (Or.inl rfl)) dgs_nil)))) (fun _ _ _ _ _ => dts_nil) (fun _ _ _ _ _ => (de_op op_mulA (og_mul false) (de_var (pv 2)) (de_op op_addA (og_add false) (de_ix (ix_all hu) og_ix (de_var (pv 3)) de_int fun _ _ => rfl) (de_ix (ix_all hu) og_ix (de_var (pv 3)) de_int fun _ _ => rfl))))) da_nil)))
    (dss_cons (ds_set (i := 4) sc_amounts_of_pairs.nd rfl (Or.inl rfl) (de_callB (cr_sum rfl) cg_sum rfl T.g_sum bt_sum (da_cons (de_lc (ts := [2, 3]) (own := [("count", 2), ("pair", 3)]) false (by decide) rfl sc_amounts_of_pairs.nd (di_seq (de_var (pv 0))) (blkOk_by (N := N_amounts_of_pairs) (sc := (defScope s_amounts_of_pairs)) (by decide +kernel)) (fun _ _ _ _ _ => (dg_tup rfl (dgs_cons (dg_name (i := 2) sc_amounts_of_pairs.nd rfl (Or.inl rfl)) (dgs_cons (dg_name (i := 3) sc_amounts_of_pairs.nd rfl (Or.inl rfl)) dgs_nil)))) (fun _ _ _ _ _ => dts_nil) (fun _ _ _ _ _ => (de_op op_mulA (og_mul false) (de_var (pv 2)) (de_callB (call_maxA rfl) cg_max rfl T.g_max bt_max (da_cons (de_callTy call_list_of (cg_list false) rfl T.g_list bt_list (da_cons (de_var (pv 3)) da_nil)) da_nil))))) da_nil)))
    (dss_cons (ds_set (i := 5) sc_amounts_of_pairs.nd rfl (Or.inl rfl) (de_callB (call_maxA rfl) cg_max rfl T.g_max bt_max (da_cons (de_op op_addA (og_add false) (de_lst false (da_cons de_int da_nil)) (de_lc (ts := [2, 3]) (own := [("count", 2), ("pair", 3)]) false (by decide) rfl sc_amounts_of_pairs.nd (di_seq (de_var (pv 0))) (blkOk_by (N := N_amounts_of_pairs) (sc := (defScope s_amounts_of_pairs)) (by decide +kernel)) (fun _ _ _ _ _ => (dg_tup rfl (dgs_cons (dg_name (i := 2) sc_amounts_of_pairs.nd rfl (Or.inl rfl)) (dgs_cons (dg_name (i := 3) sc_amounts_of_pairs.nd rfl (Or.inl rfl)) dgs_nil)))) (fun _ _ _ _ _ => dts_nil) (fun _ _ _ _ _ => (de_op op_addA (og_add false) (de_ix (ix_all hu) og_ix (de_var (pv 3)) de_int fun _ _ => rfl) (de_ix (ix_all hu) og_ix (de_var (pv 3)) de_int fun _ _ => rfl))))) da_nil)))
    (dss_cons (ds_par (i := 6) (j := 7) rfl sc_amounts_of_pairs.nd rfl rfl (by decide) rfl rfl (da_cons (de_callB (call_maxA rfl) cg_max rfl T.g_max bt_max (da_cons (de_op op_addA (og_add false) (de_lst false (da_cons de_int da_nil)) (de_lc (ts := [2, 3]) (own := [("count", 2), ("pair", 3)]) false (by decide) rfl sc_amounts_of_pairs.nd (di_seq (de_var (pv 0))) (blkOk_by (N := N_amounts_of_pairs) (sc := (defScope s_amounts_of_pairs)) (by decide +kernel)) (fun _ _ _ _ _ => (dg_tup rfl (dgs_cons (dg_name (i := 2) sc_amounts_of_pairs.nd rfl (Or.inl rfl)) (dgs_cons (dg_name (i := 3) sc_amounts_of_pairs.nd rfl (Or.inl rfl)) dgs_nil)))) (fun _ _ _ _ _ => dts_nil) (fun _ _ _ _ _ => (de_ix (ix_all hu) og_ix (de_var (pv 3)) de_int fun _ _ => rfl)))) da_nil)) (da_cons (de_callB (call_maxA rfl) cg_max rfl T.g_max bt_max (da_cons (de_op op_addA (og_add false) (de_lst false (da_cons de_int da_nil)) (de_lc (ts := [2, 3]) (own := [("count", 2), ("pair", 3)]) false (by decide) rfl sc_amounts_of_pairs.nd (di_seq (de_var (pv 0))) (blkOk_by (N := N_amounts_of_pairs) (sc := (defScope s_amounts_of_pairs)) (by decide +kernel)) (fun _ _ _ _ _ => (dg_tup rfl (dgs_cons (dg_name (i := 2) sc_amounts_of_pairs.nd rfl (Or.inl rfl)) (dgs_cons (dg_name (i := 3) sc_amounts_of_pairs.nd rfl (Or.inl rfl)) dgs_nil)))) (fun _ _ _ _ _ => dts_nil) (fun _ _ _ _ _ => (de_ix (ix_all hu) og_ix (de_var (pv 3)) de_int fun _ _ => rfl)))) da_nil)) da_nil)) rfl)
    (dss_one (ds_ret (de_tup (da_cons (de_var (pv 1)) (da_cons (de_var (pv 4)) (da_cons (de_var (pv 5)) (da_cons (de_callB (call_maxA rfl) cg_max rfl T.g_max bt_max (da_cons (de_lst false (da_cons (de_var (pv 6)) (da_cons (de_var (pv 7)) da_nil))) da_nil)) (da_cons (de_op op_addA (og_add false) (de_var (pv 6)) (de_var (pv 7))) da_nil))))))))))))
theorem sc_amounts : FnScope N_amounts ["runs"] (defScope s_amounts) := ⟨rfl, rfl, rfl, by decide +kernel, rfl, by decide +kernel, by decide +kernel⟩
theorem ok_amounts (T : Tx K mg) : FnOk P w K mg base (L2.CX P w) 4 T.f_amounts.a T.f_amounts.fd ["runs"] (spD K 1 (d_amounts T.ad)) := fn_D T.f_amounts.F sc_amounts fun X E cdv A outer s H hr e => by
  have tk : Takes X (fun c d _ H' => E c d H') := by subst e; exact takes_of rfl rfl rfl rfl
  have hu := hu_of hr
  subst e
  exact (dss_cons (ds_if (dt_val (de_callN rfl rfl (ok_are_runs T) tk (hr.mono (by decide)) T.f_are_runs.g T.f_are_runs.F.kp T.f_are_runs.b (da_cons (de_var (pv 0)) (da_cons (de_def rfl T.f_is_from_zero.g) da_nil))))
    (dss_one (ds_ret (de_callN rfl rfl (ok_amounts_of_numbers T) tk (hr.mono (by decide)) T.f_amounts_of_numbers.g T.f_amounts_of_numbers.F.kp T.f_amounts_of_numbers.b (da_cons (de_var (pv 0)) da_nil))))
    dss_nil)
    (dss_cons (ds_if (dt_val (de_callN rfl rfl (ok_are_runs T) tk (hr.mono (by decide)) T.f_are_runs.g T.f_are_runs.F.kp T.f_are_runs.b (da_cons (de_var (pv 0)) (da_cons (de_def rfl T.f_is_size.g) da_nil))))
    (dss_one (ds_ret (de_callN rfl rfl (ok_amounts_of_pairs T) tk (hr.mono (by decide)) T.f_amounts_of_pairs.g T.f_amounts_of_pairs.F.kp T.f_amounts_of_pairs.b (da_cons (de_var (pv 0)) da_nil))))
    dss_nil)
    (dss_one ds_stuck)))
theorem sc__law_with_both : FnScope N__law_with_both ["_law_runs"] (defScope s__law_with_both) := ⟨rfl, rfl, rfl, by decide +kernel, rfl, by decide +kernel, by decide +kernel⟩
theorem ok__law_with_both (T : Tx K mg) : FnOk P w K mg base (L2.CX P w) 1 T.f__law_with_both.a T.f__law_with_both.fd ["_law_runs"] (spD K 1 (d__law_with_both T.ad)) := fn_D T.f__law_with_both.F sc__law_with_both fun X E cdv A outer s H hr e => by
  have tk : Takes X (fun c d _ H' => E c d H') := by subst e; exact takes_of rfl rfl rfl rfl
  have hu := hu_of hr
  subst e
  exact (dss_cons (ds_par (i := 1) (j := 2) rfl sc__law_with_both.nd rfl rfl (by decide) rfl rfl (da_cons (de_lc (ts := [3, 4]) (own := [("_law_count", 3), ("_law_part", 4)]) false (by decide) rfl sc__law_with_both.nd (di_seq (de_var (pv 0))) (blkOk_by (N := N__law_with_both) (sc := (defScope s__law_with_both)) (by decide +kernel)) (fun _ _ _ _ _ => (dg_tup rfl (dgs_cons (dg_name (i := 3) sc__law_with_both.nd rfl (Or.inl rfl)) (dgs_cons (dg_name (i := 4) sc__law_with_both.nd rfl (Or.inl rfl)) dgs_nil)))) (fun _ _ _ _ _ => dts_nil) (fun _ _ _ _ _ => (de_ix (ix_all hu) og_ix (de_var (pv 4)) de_int fun _ _ => rfl))) (da_cons (de_lc (ts := [3, 4]) (own := [("_law_count", 3), ("_law_part", 4)]) false (by decide) rfl sc__law_with_both.nd (di_seq (de_var (pv 0))) (blkOk_by (N := N__law_with_both) (sc := (defScope s__law_with_both)) (by decide +kernel)) (fun _ _ _ _ _ => (dg_tup rfl (dgs_cons (dg_name (i := 3) sc__law_with_both.nd rfl (Or.inl rfl)) (dgs_cons (dg_name (i := 4) sc__law_with_both.nd rfl (Or.inl rfl)) dgs_nil)))) (fun _ _ _ _ _ => dts_nil) (fun _ _ _ _ _ => (de_ix (ix_all hu) og_ix (de_var (pv 4)) de_int fun _ _ => rfl))) da_nil)) rfl)
    (dss_one (ds_ret (de_op op_addA (og_add false) (de_var (pv 0)) (de_lst false (da_cons (de_tup (da_cons de_int (da_cons (de_tup (da_cons (de_callB (call_maxA rfl) cg_max rfl T.g_max bt_max (da_cons (de_op op_addA (og_add false) (de_lst false (da_cons de_int da_nil)) (de_var (pv 1))) da_nil)) (da_cons (de_callB (call_maxA rfl) cg_max rfl T.g_max bt_max (da_cons (de_op op_addA (og_add false) (de_lst false (da_cons de_int da_nil)) (de_var (pv 2))) da_nil)) da_nil))) da_nil))) da_nil))))))
theorem sc_pairs_for_one : FnScope N_pairs_for_one ["told"] (defScope s_pairs_for_one) := ⟨rfl, rfl, rfl, by decide +kernel, rfl, by decide +kernel, by decide +kernel⟩
theorem ok_pairs_for_one (T : Tx K mg) : FnOk P w K mg base (L2.CX P w) 1 T.f_pairs_for_one.a T.f_pairs_for_one.fd ["told"] (spD K 1 (d_pairs_for_one T.ad)) := fn_D T.f_pairs_for_one.F sc_pairs_for_one fun X E cdv A outer s H hr e => by
  have tk : Takes X (fun c d _ H' => E c d H') := by subst e; exact takes_of rfl rfl rfl rfl
  have hu := hu_of hr
  subst e
  exact (dss_cons (ds_asg (GOk.tup (GsOk.cons GOk.name (GsOk.cons GOk.name (GsOk.cons GOk.name (GsOk.cons GOk.name (GsOk.cons GOk.name GsOk.nil)))))) (de_var (pv 0)) (dg_tup rfl (dgs_cons (dg_name (i := 1) sc_pairs_for_one.nd rfl (Or.inl rfl)) (dgs_cons (dg_name (i := 2) sc_pairs_for_one.nd rfl (Or.inl rfl)) (dgs_cons (dg_name (i := 3) sc_pairs_for_one.nd rfl (Or.inl rfl)) (dgs_cons (dg_name (i := 4) sc_pairs_for_one.nd rfl (Or.inl rfl)) (dgs_cons (dg_name (i := 5) sc_pairs_for_one.nd rfl (Or.inl rfl)) dgs_nil)))))))
    (dss_cons (ds_par (i := 6) (j := 7) rfl sc_pairs_for_one.nd rfl rfl (by decide) rfl rfl (da_cons (de_op op_sub og_sub (de_var (pv 1)) (de_var (pv 5))) (da_cons (de_op op_sub og_sub (de_var (pv 2)) (de_var (pv 4))) da_nil)) rfl)
    (dss_one (ds_ret (de_lst false (da_cons (de_tup (da_cons de_int (da_cons (de_tup (da_cons (de_var (pv 4)) (da_cons (de_op op_sub og_sub (de_var (pv 5)) (de_var (pv 4))) da_nil))) da_nil))) (da_cons (de_tup (da_cons (de_op op_sub og_sub (de_op op_mulA (og_mul false) de_int (de_var (pv 7))) (de_var (pv 6))) (da_cons (de_tup (da_cons de_int (da_cons de_int da_nil))) da_nil))) (da_cons (de_tup (da_cons (de_op op_sub og_sub (de_var (pv 6)) (de_var (pv 7))) (da_cons (de_tup (da_cons de_int (da_cons de_int da_nil))) da_nil))) da_nil))))))))
theorem sc_pairs_for_two : FnScope N_pairs_for_two ["told"] (defScope s_pairs_for_two) := ⟨rfl, rfl, rfl, by decide +kernel, rfl, by decide +kernel, by decide +kernel⟩
theorem ok_pairs_for_two (T : Tx K mg) : FnOk P w K mg base (L2.CX P w) 1 T.f_pairs_for_two.a T.f_pairs_for_two.fd ["told"] (spD K 1 (d_pairs_for_two T.ad)) := fn_D T.f_pairs_for_two.F sc_pairs_for_two fun X E cdv A outer s H hr e => by
  have tk : Takes X (fun c d _ H' => E c d H') := by subst e; exact takes_of rfl rfl rfl rfl
  have hu := hu_of hr
  subst e
  exact (dss_cons (ds_asg (GOk.tup (GsOk.cons GOk.name (GsOk.cons GOk.name (GsOk.cons GOk.name (GsOk.cons GOk.name (GsOk.cons GOk.name GsOk.nil)))))) (de_var (pv 0)) (dg_tup rfl (dgs_cons (dg_name (i := 1) sc_pairs_for_two.nd rfl (Or.inl rfl)) (dgs_cons (dg_name (i := 2) sc_pairs_for_two.nd rfl (Or.inl rfl)) (dgs_cons (dg_name (i := 3) sc_pairs_for_two.nd rfl (Or.inl rfl)) (dgs_cons (dg_name (i := 4) sc_pairs_for_two.nd rfl (Or.inl rfl)) (dgs_cons (dg_name (i := 5) sc_pairs_for_two.nd rfl (Or.inl rfl)) dgs_nil)))))))
    (dss_cons (ds_set (i := 6) sc_pairs_for_two.nd rfl (Or.inl rfl) (de_op op_sub og_sub (de_var (pv 5)) (de_var (pv 4))))
    (dss_cons (ds_set (i := 7) sc_pairs_for_two.nd rfl (Or.inl rfl) (de_callB (call_maxA rfl) cg_max rfl T.g_max bt_max (da_cons (de_lst false (da_cons de_int (da_cons (de_op op_addA (og_add false) (de_op op_sub og_sub (de_op op_sub og_sub (de_op op_sub og_sub (de_var (pv 1)) (de_var (pv 3))) (de_var (pv 6))) (de_op op_mulA (og_mul false) de_int (de_var (pv 2)))) (de_op op_mulA (og_mul false) de_int (de_var (pv 5)))) da_nil))) da_nil)))
    (dss_cons (ds_par (i := 8) (j := 9) rfl sc_pairs_for_two.nd rfl rfl (by decide) rfl rfl (da_cons (de_op op_sub og_sub (de_op op_sub og_sub (de_op op_sub og_sub (de_var (pv 1)) (de_var (pv 3))) (de_var (pv 6))) (de_var (pv 7))) (da_cons (de_op op_sub og_sub (de_var (pv 2)) (de_var (pv 5))) da_nil)) rfl)
    (dss_one (ds_ret (de_lst false (da_cons (de_tup (da_cons de_int (da_cons (de_tup (da_cons (de_var (pv 4)) (da_cons (de_op op_sub og_sub (de_var (pv 3)) (de_var (pv 4))) da_nil))) da_nil))) (da_cons (de_tup (da_cons de_int (da_cons (de_tup (da_cons (de_var (pv 7)) (da_cons (de_var (pv 6)) da_nil))) da_nil))) (da_cons (de_tup (da_cons (de_op op_sub og_sub (de_op op_mulA (og_mul false) de_int (de_var (pv 9))) (de_var (pv 8))) (da_cons (de_tup (da_cons de_int (da_cons de_int da_nil))) da_nil))) (da_cons (de_tup (da_cons (de_op op_sub og_sub (de_var (pv 8)) (de_var (pv 9))) (da_cons (de_tup (da_cons de_int (da_cons de_int da_nil))) da_nil))) da_nil)))))))))))
theorem sc_numbers_for : FnScope N_numbers_for ["told"] (defScope s_numbers_for) := ⟨rfl, rfl, rfl, by decide +kernel, rfl, by decide +kernel, by decide +kernel⟩
theorem ok_numbers_for (T : Tx K mg) : FnOk P w K mg base (L2.CX P w) 1 T.f_numbers_for.a T.f_numbers_for.fd ["told"] (spD K 1 (d_numbers_for T.ad)) := fn_D T.f_numbers_for.F sc_numbers_for fun X E cdv A outer s H hr e => by
  have tk : Takes X (fun c d _ H' => E c d H') := by subst e; exact takes_of rfl rfl rfl rfl
  have hu := hu_of hr
  subst e
  exact (dss_cons (ds_par (i := 1) (j := 2) rfl sc_numbers_for.nd rfl rfl (by decide) rfl rfl (da_cons (de_ix (ix_all hu) og_ix (de_var (pv 0)) de_int fun _ _ => rfl) (da_cons (de_ix (ix_all hu) og_ix (de_var (pv 0)) de_int fun _ _ => rfl) da_nil)) rfl)
    (dss_one (ds_ret (de_lst false (da_cons (de_tup (da_cons de_int (da_cons (de_var (pv 2)) da_nil))) (da_cons (de_tup (da_cons (de_op op_sub og_sub (de_var (pv 1)) (de_var (pv 2))) (da_cons de_int da_nil))) da_nil))))))
theorem sc_items_for : FnScope N_items_for ["many", "told"] (defScope s_items_for) := ⟨rfl, rfl, rfl, by decide +kernel, rfl, by decide +kernel, by decide +kernel⟩
theorem ok_items_for (T : Tx K mg) : FnOk P w K mg base (L2.CX P w) 5 T.f_items_for.a T.f_items_for.fd ["many", "told"] (spD K 2 (d_items_for T.ad)) := fn_D T.f_items_for.F sc_items_for fun X E cdv A outer s H hr e => by
  have tk : Takes X (fun c d _ H' => E c d H') := by subst e; exact takes_of rfl rfl rfl rfl
  have hu := hu_of hr
  subst e
  exact (dss_cons (ds_set (i := 2) sc_items_for.nd rfl (Or.inl rfl) (de_callN rfl rfl (ok_kinds T) tk (hr.mono (by decide)) T.f_kinds.g T.f_kinds.F.kp T.f_kinds.b (da_cons (de_var (pv 0)) (da_cons (de_var (pv 1)) da_nil))))
    (dss_cons (ds_asg (GOk.tup (GsOk.cons GOk.name (GsOk.cons GOk.name (GsOk.cons GOk.name (GsOk.cons GOk.name (GsOk.cons GOk.name GsOk.nil)))))) (de_var (pv 1)) (dg_tup rfl (dgs_cons (dg_name (i := 3) sc_items_for.nd rfl (Or.inl rfl)) (dgs_cons (dg_name (i := 4) sc_items_for.nd rfl (Or.inl rfl)) (dgs_cons (dg_name (i := 5) sc_items_for.nd rfl (Or.inl rfl)) (dgs_cons (dg_name (i := 6) sc_items_for.nd rfl (Or.inl rfl)) (dgs_cons (dg_name (i := 7) sc_items_for.nd rfl (Or.inl rfl)) dgs_nil)))))))
    (dss_cons (ds_if (dt_w (dw_or (dt_cmp (op_eqD hr.units) og_eq (de_var (pv 2)) (de_lst false da_nil) (nomark _)) (dw_or (dt_w (dw_and (dt_cmp (op_eqD hr.units) og_eq (de_var (pv 6)) de_int (nomark _)) (dw_and1 (dt_cmp op_gt og_gt (de_var (pv 3)) de_int (nomark _))))) (dw_or1 (dt_w (dw_and (dt_cmp (op_eqD hr.units) og_eq (de_var (pv 0)) de_int (nomark _)) (dw_and (dt_cmp (op_eqD hr.units) og_eq (de_var (pv 7)) (de_var (pv 6)) (nomark _)) (dw_and1 (dt_cmp (op_neD hr.units) og_ne (de_var (pv 4)) (de_var (pv 3)) (nomark _))))))))))
    (dss_one (ds_ret de_non))
    dss_nil)
    (dss_cons (ds_if (dt_cmp (op_eqD hr.units) og_eq (de_var (pv 6)) de_int (nomark _))
    (dss_one (ds_ret (de_tup (da_cons de_int (da_cons (de_lst false da_nil) da_nil)))))
    dss_nil)
    (dss_cons (ds_if (dt_cmp (op_eqD hr.units) og_eq (de_var (pv 0)) de_int (nomark _))
    (dss_one (ds_ret (de_tup (da_cons de_int (da_cons (de_lc (ts := [8]) (own := [("run", 8)]) false (by decide) rfl sc_items_for.nd (di_seq (de_callN rfl rfl (ok_numbers_for T) tk (hr.mono (by decide)) T.f_numbers_for.g T.f_numbers_for.F.kp T.f_numbers_for.b (da_cons (de_var (pv 1)) da_nil))) (blkOk_by (N := N_items_for) (sc := (defScope s_items_for)) (by decide +kernel)) (fun _ _ _ _ _ => (dg_name (i := 8) sc_items_for.nd rfl (Or.inl rfl))) (fun _ _ _ _ _ => (dts_one (dt_cmp op_gt og_gt (de_ix (ix_all hu) og_ix (de_var (pv 8)) de_int fun _ _ => rfl) de_int (nomark _)))) (fun _ _ _ _ _ => (de_var (pv 8)))) da_nil)))))
    dss_nil)
    (dss_cons (ds_set (i := 9) sc_items_for.nd rfl (Or.inr rfl) (de_ifx (dt_cmp (op_eqD hr.units) og_eq (de_var (pv 5)) de_int (nomark _)) de_int de_int))
    (dss_cons (ds_set (i := 10) sc_items_for.nd rfl (Or.inl rfl) (de_callTy call_tuple_of cg_tuple rfl T.g_tuple bt_tuple (da_cons (de_lc (ts := [11]) (own := [("one", 11)]) false (by decide) rfl sc_items_for.nd (di_seq (de_var (pv 1))) (blkOk_by (N := N_items_for) (sc := (defScope s_items_for)) (by decide +kernel)) (fun _ _ _ _ _ => (dg_name (i := 11) sc_items_for.nd rfl (Or.inl rfl))) (fun _ _ _ _ _ => dts_nil) (fun _ _ _ _ _ => (de_op op_mulA (og_mul false) (de_var (pv 9)) (de_var (pv 11))))) da_nil)))
    (dss_cons (ds_set (i := 12) sc_items_for.nd rfl (Or.inl rfl) (de_ifx (dt_cmp (op_eqD hr.units) og_eq (de_ix (ix_all hu) og_ix (de_var (pv 2)) de_int fun _ _ => rfl) de_str (nomark _)) (de_callN rfl rfl (ok_pairs_for_one T) tk (hr.mono (by decide)) T.f_pairs_for_one.g T.f_pairs_for_one.F.kp T.f_pairs_for_one.b (da_cons (de_var (pv 10)) da_nil)) (de_callN rfl rfl (ok_pairs_for_two T) tk (hr.mono (by decide)) T.f_pairs_for_two.g T.f_pairs_for_two.F.kp T.f_pairs_for_two.b (da_cons (de_var (pv 10)) da_nil))))
    (dss_one (ds_ret (de_tup (da_cons (de_var (pv 9)) (da_cons (de_lc (ts := [8]) (own := [("run", 8)]) false (by decide) rfl sc_items_for.nd (di_seq (de_var (pv 12))) (blkOk_by (N := N_items_for) (sc := (defScope s_items_for)) (by decide +kernel)) (fun _ _ _ _ _ => (dg_name (i := 8) sc_items_for.nd rfl (Or.inl rfl))) (fun _ _ _ _ _ => (dts_one (dt_cmp op_gt og_gt (de_ix (ix_all hu) og_ix (de_var (pv 8)) de_int fun _ _ => rfl) de_int (nomark _)))) (fun _ _ _ _ _ => (de_var (pv 8)))) da_nil)))))))))))))
theorem sc__law_is_added : FnScope N__law_is_added ["_law_one", "_law_other", "_law_many"] (defScope s__law_is_added) := ⟨rfl, rfl, rfl, by decide +kernel, rfl, by decide +kernel, by decide +kernel⟩
theorem ok__law_is_added (T : Tx K mg) : FnOk P w K mg base (L2.CX P w) 5 T.f__law_is_added.a T.f__law_is_added.fd ["_law_one", "_law_other", "_law_many"] (spD K 3 (d__law_is_added T.ad)) := fn_D T.f__law_is_added.F sc__law_is_added fun X E cdv A outer s H hr e => by
  have tk : Takes X (fun c d _ H' => E c d H') := by subst e; exact takes_of rfl rfl rfl rfl
  have hu := hu_of hr
  subst e
  exact (dss_cons (ds_set (i := 3) sc__law_is_added.nd rfl (Or.inr rfl) (de_callTy call_tuple_of cg_tuple rfl T.g_tuple bt_tuple (da_cons (de_lc (ts := [4, 5]) (own := [("_law_first", 4), ("_law_second", 5)]) false (by decide) rfl sc__law_is_added.nd (di_zip rfl T.g_zip (da_cons (de_var (pv 0)) (da_cons (de_var (pv 1)) da_nil))) (blkOk_by (N := N__law_is_added) (sc := (defScope s__law_is_added)) (by decide +kernel)) (fun _ _ _ _ _ => (dg_tup rfl (dgs_cons (dg_name (i := 4) sc__law_is_added.nd rfl (Or.inl rfl)) (dgs_cons (dg_name (i := 5) sc__law_is_added.nd rfl (Or.inl rfl)) dgs_nil)))) (fun _ _ _ _ _ => dts_nil) (fun _ _ _ _ _ => (de_op op_addA (og_add false) (de_var (pv 4)) (de_var (pv 5))))) da_nil)))
    (dss_cons (ds_setLc (i := 6) (ts := [7]) (own := [("_law_kind", 7)]) false (by decide) rfl sc__law_is_added.nd rfl rfl (sw_true rfl rfl rfl (by decide +kernel)) (di_seq (de_callN rfl rfl (ok_kinds T) tk (hr.mono (by decide)) T.f_kinds.g T.f_kinds.F.kp T.f_kinds.b (da_cons (de_var (pv 2)) (da_cons (de_var (pv 0)) da_nil)))) (blkOk_by (N := N__law_is_added) (sc := (defScope s__law_is_added)) (by decide +kernel)) (fun _ _ _ _ _ => (dg_name (i := 7) sc__law_is_added.nd rfl (Or.inl rfl))) (fun _ _ _ _ _ => (dts_one (dt_cmp (op_inD (hu65_of hr)) og_in (de_var (pv 7)) (de_callN rfl rfl (ok_kinds T) takes0 (hr.mono (by decide)) T.f_kinds.g T.f_kinds.F.kp T.f_kinds.b (da_cons (de_var (pv 2)) (da_cons (de_var (pv 1)) da_nil))) rfl))) (fun _ _ _ _ _ => (de_var (pv 7))))
    (dss_one (ds_ret (de_cmp (op_eqD hr.units) og_eq (de_lc (ts := [7]) (own := [("_law_kind", 7)]) false (by decide) rfl sc__law_is_added.nd (di_seq (de_var (pv 6))) (blkOk_by (N := N__law_is_added) (sc := (defScope s__law_is_added)) (by decide +kernel)) (fun _ _ _ _ _ => (dg_name (i := 7) sc__law_is_added.nd rfl (Or.inl rfl))) (fun _ _ _ _ _ => (dts_one (dt_cmp (op_notInD (hu65_of hr)) og_notIn (de_var (pv 7)) (de_callN rfl rfl (ok_kinds T) takes0 (hr.mono (by decide)) T.f_kinds.g T.f_kinds.F.kp T.f_kinds.b (da_cons (de_var (pv 2)) (da_cons (de_var (pv 3)) da_nil))) rfl))) (fun _ _ _ _ _ => (de_var (pv 7)))) (de_lst false da_nil) (nomark _))))))
theorem sc_law : FnScope N_law ["_law_script"] (defScope s_law) := ⟨rfl, rfl, rfl, by decide +kernel, rfl, by decide +kernel, by decide +kernel⟩
theorem ok_law (T : Tx K mg) : FnOk P w K mg base (L2.CX P w) 6 T.f_law.a T.f_law.fd ["_law_script"] (spD K 1 (d_law T.ad)) := fn_D T.f_law.F sc_law fun X E cdv A outer s H hr e => by
  have tk : Takes X (fun c d _ H' => E c d H') := by subst e; exact takes_of rfl rfl rfl rfl
  have hu := hu_of hr
  subst e
  exact (dss_cons (ds_set (i := 1) sc_law.nd rfl (Or.inl rfl) (de_callN rfl rfl (ok__law_begin T) tk (hr.mono (by decide)) T.f__law_begin.g T.f__law_begin.F.kp T.f__law_begin.b (da_cons (de_var (pv 0)) da_nil)))
    (dss_cons (ds_for GOk.name (passes_of rfl) rfl (di_range1 rfl T.g_range (da_cons (de_callB (call_maxA rfl) cg_max rfl T.g_max bt_max (da_cons de_int (da_cons (de_callB (call_minA rfl) cg_min rfl T.g_min bt_min (da_cons de_int (da_cons (de_callB call_lenA cg_len rfl T.g_len bt_len (da_cons (de_var (pv 0)) da_nil)) da_nil))) da_nil))) da_nil)) (dg_name (i := 2) sc_law.nd rfl (Or.inl rfl))
    (dss_cons (ds_set (i := 3) sc_law.nd rfl (Or.inl rfl) (de_callN rfl rfl (ok__law_some_runs T) tk (hr.mono (by decide)) T.f__law_some_runs.g T.f__law_some_runs.F.kp T.f__law_some_runs.b (da_cons (de_var (pv 1)) (da_cons de_bl da_nil))))
    (dss_cons (ds_if (dt_cmp (op_neD hr.units) og_ne (de_callN rfl rfl (ok_kinds T) tk (hr.mono (by decide)) T.f_kinds.g T.f_kinds.F.kp T.f_kinds.b (da_cons de_int (da_cons (de_callN rfl rfl (ok_amounts T) tk (hr.mono (by decide)) T.f_amounts.g T.f_amounts.F.kp T.f_amounts.b (da_cons (de_var (pv 3)) da_nil)) da_nil))) (de_lst false (da_cons de_str da_nil)) (nomark _))
    (dss_one (ds_ret de_bl))
    dss_nil)
    (dss_cons (ds_par (i := 7) (j := 8) rfl sc_law.nd rfl rfl (by decide) rfl rfl (da_cons (de_callN rfl rfl (ok__law_some_runs T) tk (hr.mono (by decide)) T.f__law_some_runs.g T.f__law_some_runs.F.kp T.f__law_some_runs.b (da_cons (de_var (pv 1)) (da_cons de_bl da_nil))) (da_cons (de_callN rfl rfl (ok__law_some_runs T) tk (hr.mono (by decide)) T.f__law_some_runs.g T.f__law_some_runs.F.kp T.f__law_some_runs.b (da_cons (de_var (pv 1)) (da_cons de_bl da_nil))) da_nil)) rfl)
    (dss_cons (ds_set (i := 4) sc_law.nd rfl (Or.inl rfl) (de_lst false (da_cons (de_callN rfl rfl (ok_amounts T) tk (hr.mono (by decide)) T.f_amounts.g T.f_amounts.F.kp T.f_amounts.b (da_cons (de_var (pv 7)) da_nil)) (da_cons (de_callN rfl rfl (ok_amounts T) tk (hr.mono (by decide)) T.f_amounts.g T.f_amounts.F.kp T.f_amounts.b (da_cons (de_var (pv 8)) da_nil)) (da_cons (de_callN rfl rfl (ok_amounts T) tk (hr.mono (by decide)) T.f_amounts.g T.f_amounts.F.kp T.f_amounts.b (da_cons (de_op op_addA (og_add false) (de_var (pv 7)) (de_var (pv 8))) da_nil)) (da_cons (de_callN rfl rfl (ok_amounts T) tk (hr.mono (by decide)) T.f_amounts.g T.f_amounts.F.kp T.f_amounts.b (da_cons (de_callN rfl rfl (ok__law_with_both T) tk (hr.mono (by decide)) T.f__law_with_both.g T.f__law_with_both.F.kp T.f__law_with_both.b (da_cons (de_var (pv 7)) da_nil)) da_nil)) da_nil))))))
    (dss_cons (ds_if (dt_w (dw_or (dt_cmp (op_neD hr.units) og_ne (de_lc (ts := [6]) (own := [("_law_one", 6)]) false (by decide) rfl sc_law.nd (di_seq (de_var (pv 4))) (blkOk_by (N := N_law) (sc := (defScope s_law)) (by decide +kernel)) (fun _ _ _ _ _ => (dg_name (i := 6) sc_law.nd rfl (Or.inl rfl))) (fun _ _ _ _ _ => (dts_one (dt_w (dw_and (dt_cmp (op_neD hr.units) og_ne (de_var (pv 6)) (de_op op_mulA (og_mul false) (de_tup (da_cons de_int da_nil)) de_int) (nomark _)) (dw_and1 (dt_cmp (op_eqD hr.units) og_eq (de_callN rfl rfl (ok_kinds T) takes0 (hr.mono (by decide)) T.f_kinds.g T.f_kinds.F.kp T.f_kinds.b (da_cons de_int (da_cons (de_var (pv 6)) da_nil))) (de_lst false da_nil) (nomark _))))))) (fun _ _ _ _ _ => (de_var (pv 6)))) (de_lst false da_nil) (nomark _)) (dw_or1 (dt_cmp (op_notInD (hu65_of hr)) og_notIn de_str (de_callN rfl rfl (ok_kinds T) tk (hr.mono (by decide)) T.f_kinds.g T.f_kinds.F.kp T.f_kinds.b (da_cons de_int (da_cons (de_ix (ix_all hu) og_ix (de_var (pv 4)) de_int fun _ _ => rfl) da_nil))) rfl))))
    (dss_one (ds_ret de_bl))
    dss_nil)
    (dss_cons (ds_set (i := 5) sc_law.nd rfl (Or.inr rfl) (de_callN rfl rfl (ok__law_pick T) tk (hr.mono (by decide)) T.f__law_pick.g T.f__law_pick.F.kp T.f__law_pick.b (da_cons (de_var (pv 1)) (da_cons (de_lst false (da_cons de_int (da_cons de_int (da_cons (de_op op_powW og_pow de_int de_int) da_nil)))) da_nil))))
    (dss_cons (ds_for GOk.name (passes_of rfl) rfl (di_seq (de_var (pv 4))) (dg_name (i := 6) sc_law.nd rfl (Or.inl rfl))
    (dss_cons (ds_if (dt_cmp (op_neD hr.units) og_ne (de_callN rfl rfl (ok_kinds T) tk (hr.mono (by decide)) T.f_kinds.g T.f_kinds.F.kp T.f_kinds.b (da_cons de_int (da_cons (de_callTy call_tuple_of cg_tuple rfl T.g_tuple bt_tuple (da_cons (de_lc (ts := [9]) (own := [("_law_number", 9)]) false (by decide) rfl sc_law.nd (di_seq (de_var (pv 6))) (blkOk_by (N := N_law) (sc := (defScope s_law)) (by decide +kernel)) (fun _ _ _ _ _ => (dg_name (i := 9) sc_law.nd rfl (Or.inl rfl))) (fun _ _ _ _ _ => dts_nil) (fun _ _ _ _ _ => (de_op op_mulA (og_mul false) (de_var (pv 5)) (de_var (pv 9))))) da_nil)) da_nil))) (de_callN rfl rfl (ok_kinds T) tk (hr.mono (by decide)) T.f_kinds.g T.f_kinds.F.kp T.f_kinds.b (da_cons de_int (da_cons (de_var (pv 6)) da_nil))) (nomark _))
    (dss_one (ds_ret de_bl))
    dss_nil)
    (dss_one (ds_if (dt_w (dw_or (dt_cmp op_isN og_isN (de_callN rfl rfl (ok_items_for T) tk (hr.mono (by decide)) T.f_items_for.g T.f_items_for.F.kp T.f_items_for.b (da_cons de_int (da_cons (de_var (pv 6)) da_nil))) de_non (nomark _)) (dw_or1 (dt_not (dt_val (de_callN rfl rfl (ok__law_is_added T) tk (hr.mono (by decide)) T.f__law_is_added.g T.f__law_is_added.F.kp T.f__law_is_added.b (da_cons (de_var (pv 6)) (da_cons (de_callN rfl rfl (ok__law_pick T) tk (hr.mono (by decide)) T.f__law_pick.g T.f__law_pick.F.kp T.f__law_pick.b (da_cons (de_var (pv 1)) (da_cons (de_var (pv 4)) da_nil))) (da_cons de_int da_nil)))))))))
    (dss_one (ds_ret de_bl))
    dss_nil))))
    (dss_one (ds_if (dt_w (dw_or (dt_cmp op_isN og_isN (de_callN rfl rfl (ok_items_for T) tk (hr.mono (by decide)) T.f_items_for.g T.f_items_for.F.kp T.f_items_for.b (da_cons de_int (da_cons (de_callN rfl rfl (ok_amounts T) tk (hr.mono (by decide)) T.f_amounts.g T.f_amounts.F.kp T.f_amounts.b (da_cons (de_var (pv 3)) da_nil)) da_nil))) de_non (nomark _)) (dw_or1 (dt_not (dt_val (de_callN rfl rfl (ok__law_is_added T) tk (hr.mono (by decide)) T.f__law_is_added.g T.f__law_is_added.F.kp T.f__law_is_added.b (da_cons (de_callN rfl rfl (ok_amounts T) tk (hr.mono (by decide)) T.f_amounts.g T.f_amounts.F.kp T.f_amounts.b (da_cons (de_var (pv 3)) da_nil)) (da_cons (de_callN rfl rfl (ok_amounts T) tk (hr.mono (by decide)) T.f_amounts.g T.f_amounts.F.kp T.f_amounts.b (da_cons (de_lst false (da_cons (de_tup (da_cons de_int (da_cons de_int da_nil))) da_nil)) da_nil)) (da_cons de_int da_nil)))))))))
    (dss_one (ds_ret de_bl))
    dss_nil))))))))))
    (dss_one (ds_ret de_bl))))
end
def mk_T {K : PySem.W.Frag} {mg : Str → Option Value} {h : Heap} (KX : K.In h) (G : h.Ns mainGlobals mg)
    {a_is_number : Addr} {oc_is_number kV_is_number dc_is_number pm_is_number cd_is_number ct_is_number : Value} {od_is_number an_is_number : Option Addr} {sl_is_number : Array (Option Value)} (e_is_number : PySem.W.nsIn K mainGlobals "is_number" = some (some (.ref a_is_number))) (l_is_number : K.lookup a_is_number = some ⟨oc_is_number, od_is_number, .func (PySem.W.fnOf "is_number" "is_number" (defArgs s_is_number) (defBody s_is_number) (defScope s_is_number) .none kV_is_number dc_is_number pm_is_number an_is_number cd_is_number ct_is_number), sl_is_number⟩) (i_is_number : PySem.W.codeIn K cd_is_number "is_number" = true) (k_is_number : PySem.W.keepIn K (.ref a_is_number) = true)
    {a_is_from_zero : Addr} {oc_is_from_zero kV_is_from_zero dc_is_from_zero pm_is_from_zero cd_is_from_zero ct_is_from_zero : Value} {od_is_from_zero an_is_from_zero : Option Addr} {sl_is_from_zero : Array (Option Value)} (e_is_from_zero : PySem.W.nsIn K mainGlobals "is_from_zero" = some (some (.ref a_is_from_zero))) (l_is_from_zero : K.lookup a_is_from_zero = some ⟨oc_is_from_zero, od_is_from_zero, .func (PySem.W.fnOf "is_from_zero" "is_from_zero" (defArgs s_is_from_zero) (defBody s_is_from_zero) (defScope s_is_from_zero) .none kV_is_from_zero dc_is_from_zero pm_is_from_zero an_is_from_zero cd_is_from_zero ct_is_from_zero), sl_is_from_zero⟩) (i_is_from_zero : PySem.W.codeIn K cd_is_from_zero "is_from_zero" = true) (k_is_from_zero : PySem.W.keepIn K (.ref a_is_from_zero) = true)
    {a_is_size : Addr} {oc_is_size kV_is_size dc_is_size pm_is_size cd_is_size ct_is_size : Value} {od_is_size an_is_size : Option Addr} {sl_is_size : Array (Option Value)} (e_is_size : PySem.W.nsIn K mainGlobals "is_size" = some (some (.ref a_is_size))) (l_is_size : K.lookup a_is_size = some ⟨oc_is_size, od_is_size, .func (PySem.W.fnOf "is_size" "is_size" (defArgs s_is_size) (defBody s_is_size) (defScope s_is_size) .none kV_is_size dc_is_size pm_is_size an_is_size cd_is_size ct_is_size), sl_is_size⟩) (i_is_size : PySem.W.codeIn K cd_is_size "is_size" = true) (k_is_size : PySem.W.keepIn K (.ref a_is_size) = true)
    {a__law_begin : Addr} {oc__law_begin kV__law_begin dc__law_begin pm__law_begin cd__law_begin ct__law_begin : Value} {od__law_begin an__law_begin : Option Addr} {sl__law_begin : Array (Option Value)} (e__law_begin : PySem.W.nsIn K mainGlobals "_law_begin" = some (some (.ref a__law_begin))) (l__law_begin : K.lookup a__law_begin = some ⟨oc__law_begin, od__law_begin, .func (PySem.W.fnOf "_law_begin" "_law_begin" (defArgs s__law_begin) (defBody s__law_begin) (defScope s__law_begin) .none kV__law_begin dc__law_begin pm__law_begin an__law_begin cd__law_begin ct__law_begin), sl__law_begin⟩) (i__law_begin : PySem.W.codeIn K cd__law_begin "_law_begin" = true) (k__law_begin : PySem.W.keepIn K (.ref a__law_begin) = true)
    {a__law_blend : Addr} {oc__law_blend kV__law_blend dc__law_blend pm__law_blend cd__law_blend ct__law_blend : Value} {od__law_blend an__law_blend : Option Addr} {sl__law_blend : Array (Option Value)} (e__law_blend : PySem.W.nsIn K mainGlobals "_law_blend" = some (some (.ref a__law_blend))) (l__law_blend : K.lookup a__law_blend = some ⟨oc__law_blend, od__law_blend, .func (PySem.W.fnOf "_law_blend" "_law_blend" (defArgs s__law_blend) (defBody s__law_blend) (defScope s__law_blend) .none kV__law_blend dc__law_blend pm__law_blend an__law_blend cd__law_blend ct__law_blend), sl__law_blend⟩) (i__law_blend : PySem.W.codeIn K cd__law_blend "_law_blend" = true) (k__law_blend : PySem.W.keepIn K (.ref a__law_blend) = true)
    {a__law_take : Addr} {oc__law_take kV__law_take dc__law_take pm__law_take cd__law_take ct__law_take : Value} {od__law_take an__law_take : Option Addr} {sl__law_take : Array (Option Value)} (e__law_take : PySem.W.nsIn K mainGlobals "_law_take" = some (some (.ref a__law_take))) (l__law_take : K.lookup a__law_take = some ⟨oc__law_take, od__law_take, .func (PySem.W.fnOf "_law_take" "_law_take" (defArgs s__law_take) (defBody s__law_take) (defScope s__law_take) .none kV__law_take dc__law_take pm__law_take an__law_take cd__law_take ct__law_take), sl__law_take⟩) (i__law_take : PySem.W.codeIn K cd__law_take "_law_take" = true) (k__law_take : PySem.W.keepIn K (.ref a__law_take) = true)
    {a__law_pick : Addr} {oc__law_pick kV__law_pick dc__law_pick pm__law_pick cd__law_pick ct__law_pick : Value} {od__law_pick an__law_pick : Option Addr} {sl__law_pick : Array (Option Value)} (e__law_pick : PySem.W.nsIn K mainGlobals "_law_pick" = some (some (.ref a__law_pick))) (l__law_pick : K.lookup a__law_pick = some ⟨oc__law_pick, od__law_pick, .func (PySem.W.fnOf "_law_pick" "_law_pick" (defArgs s__law_pick) (defBody s__law_pick) (defScope s__law_pick) .none kV__law_pick dc__law_pick pm__law_pick an__law_pick cd__law_pick ct__law_pick), sl__law_pick⟩) (i__law_pick : PySem.W.codeIn K cd__law_pick "_law_pick" = true) (k__law_pick : PySem.W.keepIn K (.ref a__law_pick) = true)
    {a__law_some_runs : Addr} {oc__law_some_runs kV__law_some_runs dc__law_some_runs pm__law_some_runs cd__law_some_runs ct__law_some_runs : Value} {od__law_some_runs an__law_some_runs : Option Addr} {sl__law_some_runs : Array (Option Value)} (e__law_some_runs : PySem.W.nsIn K mainGlobals "_law_some_runs" = some (some (.ref a__law_some_runs))) (l__law_some_runs : K.lookup a__law_some_runs = some ⟨oc__law_some_runs, od__law_some_runs, .func (PySem.W.fnOf "_law_some_runs" "_law_some_runs" (defArgs s__law_some_runs) (defBody s__law_some_runs) (defScope s__law_some_runs) .none kV__law_some_runs dc__law_some_runs pm__law_some_runs an__law_some_runs cd__law_some_runs ct__law_some_runs), sl__law_some_runs⟩) (i__law_some_runs : PySem.W.codeIn K cd__law_some_runs "_law_some_runs" = true) (k__law_some_runs : PySem.W.keepIn K (.ref a__law_some_runs) = true)
    {a_need_told : Addr} {oc_need_told kV_need_told dc_need_told pm_need_told cd_need_told ct_need_told : Value} {od_need_told an_need_told : Option Addr} {sl_need_told : Array (Option Value)} (e_need_told : PySem.W.nsIn K mainGlobals "need_told" = some (some (.ref a_need_told))) (l_need_told : K.lookup a_need_told = some ⟨oc_need_told, od_need_told, .func (PySem.W.fnOf "need_told" "need_told" (defArgs s_need_told) (defBody s_need_told) (defScope s_need_told) .none kV_need_told dc_need_told pm_need_told an_need_told cd_need_told ct_need_told), sl_need_told⟩) (i_need_told : PySem.W.codeIn K cd_need_told "need_told" = true) (k_need_told : PySem.W.keepIn K (.ref a_need_told) = true)
    {a_kind_words : Addr} {oc_kind_words kV_kind_words dc_kind_words pm_kind_words cd_kind_words ct_kind_words : Value} {od_kind_words an_kind_words : Option Addr} {sl_kind_words : Array (Option Value)} (e_kind_words : PySem.W.nsIn K mainGlobals "kind_words" = some (some (.ref a_kind_words))) (l_kind_words : K.lookup a_kind_words = some ⟨oc_kind_words, od_kind_words, .func (PySem.W.fnOf "kind_words" "kind_words" (defArgs s_kind_words) (defBody s_kind_words) (defScope s_kind_words) .none kV_kind_words dc_kind_words pm_kind_words an_kind_words cd_kind_words ct_kind_words), sl_kind_words⟩) (i_kind_words : PySem.W.codeIn K cd_kind_words "kind_words" = true) (k_kind_words : PySem.W.keepIn K (.ref a_kind_words) = true)
    {a_worth_of : Addr} {oc_worth_of kV_worth_of dc_worth_of pm_worth_of cd_worth_of ct_worth_of : Value} {od_worth_of an_worth_of : Option Addr} {sl_worth_of : Array (Option Value)} (e_worth_of : PySem.W.nsIn K mainGlobals "worth_of" = some (some (.ref a_worth_of))) (l_worth_of : K.lookup a_worth_of = some ⟨oc_worth_of, od_worth_of, .func (PySem.W.fnOf "worth_of" "worth_of" (defArgs s_worth_of) (defBody s_worth_of) (defScope s_worth_of) .none kV_worth_of dc_worth_of pm_worth_of an_worth_of cd_worth_of ct_worth_of), sl_worth_of⟩) (i_worth_of : PySem.W.codeIn K cd_worth_of "worth_of" = true) (k_worth_of : PySem.W.keepIn K (.ref a_worth_of) = true)
    {a_list_facts : Addr} {oc_list_facts kV_list_facts dc_list_facts pm_list_facts cd_list_facts ct_list_facts : Value} {od_list_facts an_list_facts : Option Addr} {sl_list_facts : Array (Option Value)} (e_list_facts : PySem.W.nsIn K mainGlobals "list_facts" = some (some (.ref a_list_facts))) (l_list_facts : K.lookup a_list_facts = some ⟨oc_list_facts, od_list_facts, .func (PySem.W.fnOf "list_facts" "list_facts" (defArgs s_list_facts) (defBody s_list_facts) (defScope s_list_facts) .none kV_list_facts dc_list_facts pm_list_facts an_list_facts cd_list_facts ct_list_facts), sl_list_facts⟩) (i_list_facts : PySem.W.codeIn K cd_list_facts "list_facts" = true) (k_list_facts : PySem.W.keepIn K (.ref a_list_facts) = true)
    {a_keeps : Addr} {oc_keeps kV_keeps dc_keeps pm_keeps cd_keeps ct_keeps : Value} {od_keeps an_keeps : Option Addr} {sl_keeps : Array (Option Value)} (e_keeps : PySem.W.nsIn K mainGlobals "keeps" = some (some (.ref a_keeps))) (l_keeps : K.lookup a_keeps = some ⟨oc_keeps, od_keeps, .func (PySem.W.fnOf "keeps" "keeps" (defArgs s_keeps) (defBody s_keeps) (defScope s_keeps) .none kV_keeps dc_keeps pm_keeps an_keeps cd_keeps ct_keeps), sl_keeps⟩) (i_keeps : PySem.W.codeIn K cd_keeps "keeps" = true) (k_keeps : PySem.W.keepIn K (.ref a_keeps) = true)
    {a_kinds : Addr} {oc_kinds kV_kinds dc_kinds pm_kinds cd_kinds ct_kinds : Value} {od_kinds an_kinds : Option Addr} {sl_kinds : Array (Option Value)} (e_kinds : PySem.W.nsIn K mainGlobals "kinds" = some (some (.ref a_kinds))) (l_kinds : K.lookup a_kinds = some ⟨oc_kinds, od_kinds, .func (PySem.W.fnOf "kinds" "kinds" (defArgs s_kinds) (defBody s_kinds) (defScope s_kinds) .none kV_kinds dc_kinds pm_kinds an_kinds cd_kinds ct_kinds), sl_kinds⟩) (i_kinds : PySem.W.codeIn K cd_kinds "kinds" = true) (k_kinds : PySem.W.keepIn K (.ref a_kinds) = true)
    {a_is_list : Addr} {oc_is_list kV_is_list dc_is_list pm_is_list cd_is_list ct_is_list : Value} {od_is_list an_is_list : Option Addr} {sl_is_list : Array (Option Value)} (e_is_list : PySem.W.nsIn K mainGlobals "is_list" = some (some (.ref a_is_list))) (l_is_list : K.lookup a_is_list = some ⟨oc_is_list, od_is_list, .func (PySem.W.fnOf "is_list" "is_list" (defArgs s_is_list) (defBody s_is_list) (defScope s_is_list) .none kV_is_list dc_is_list pm_is_list an_is_list cd_is_list ct_is_list), sl_is_list⟩) (i_is_list : PySem.W.codeIn K cd_is_list "is_list" = true) (k_is_list : PySem.W.keepIn K (.ref a_is_list) = true)
    {a_are_runs : Addr} {oc_are_runs kV_are_runs dc_are_runs pm_are_runs cd_are_runs ct_are_runs : Value} {od_are_runs an_are_runs : Option Addr} {sl_are_runs : Array (Option Value)} (e_are_runs : PySem.W.nsIn K mainGlobals "are_runs" = some (some (.ref a_are_runs))) (l_are_runs : K.lookup a_are_runs = some ⟨oc_are_runs, od_are_runs, .func (PySem.W.fnOf "are_runs" "are_runs" (defArgs s_are_runs) (defBody s_are_runs) (defScope s_are_runs) .none kV_are_runs dc_are_runs pm_are_runs an_are_runs cd_are_runs ct_are_runs), sl_are_runs⟩) (i_are_runs : PySem.W.codeIn K cd_are_runs "are_runs" = true) (k_are_runs : PySem.W.keepIn K (.ref a_are_runs) = true)
    {a_amounts_of_numbers : Addr} {oc_amounts_of_numbers kV_amounts_of_numbers dc_amounts_of_numbers pm_amounts_of_numbers cd_amounts_of_numbers ct_amounts_of_numbers : Value} {od_amounts_of_numbers an_amounts_of_numbers : Option Addr} {sl_amounts_of_numbers : Array (Option Value)} (e_amounts_of_numbers : PySem.W.nsIn K mainGlobals "amounts_of_numbers" = some (some (.ref a_amounts_of_numbers))) (l_amounts_of_numbers : K.lookup a_amounts_of_numbers = some ⟨oc_amounts_of_numbers, od_amounts_of_numbers, .func (PySem.W.fnOf "amounts_of_numbers" "amounts_of_numbers" (defArgs s_amounts_of_numbers) (defBody s_amounts_of_numbers) (defScope s_amounts_of_numbers) .none kV_amounts_of_numbers dc_amounts_of_numbers pm_amounts_of_numbers an_amounts_of_numbers cd_amounts_of_numbers ct_amounts_of_numbers), sl_amounts_of_numbers⟩) (i_amounts_of_numbers : PySem.W.codeIn K cd_amounts_of_numbers "amounts_of_numbers" = true) (k_amounts_of_numbers : PySem.W.keepIn K (.ref a_amounts_of_numbers) = true)
    {a_amounts_of_pairs : Addr} {oc_amounts_of_pairs kV_amounts_of_pairs dc_amounts_of_pairs pm_amounts_of_pairs cd_amounts_of_pairs ct_amounts_of_pairs : Value} {od_amounts_of_pairs an_amounts_of_pairs : Option Addr} {sl_amounts_of_pairs : Array (Option Value)} (e_amounts_of_pairs : PySem.W.nsIn K mainGlobals "amounts_of_pairs" = some (some (.ref a_amounts_of_pairs))) (l_amounts_of_pairs : K.lookup a_amounts_of_pairs = some ⟨oc_amounts_of_pairs, od_amounts_of_pairs, .func (PySem.W.fnOf "amounts_of_pairs" "amounts_of_pairs" (defArgs s_amounts_of_pairs) (defBody s_amounts_of_pairs) (defScope s_amounts_of_pairs) .none kV_amounts_of_pairs dc_amounts_of_pairs pm_amounts_of_pairs an_amounts_of_pairs cd_amounts_of_pairs ct_amounts_of_pairs), sl_amounts_of_pairs⟩) (i_amounts_of_pairs : PySem.W.codeIn K cd_amounts_of_pairs "amounts_of_pairs" = true) (k_amounts_of_pairs : PySem.W.keepIn K (.ref a_amounts_of_pairs) = true)
    {a_amounts : Addr} {oc_amounts kV_amounts dc_amounts pm_amounts cd_amounts ct_amounts : Value} {od_amounts an_amounts : Option Addr} {sl_amounts : Array (Option Value)} (e_amounts : PySem.W.nsIn K mainGlobals "amounts" = some (some (.ref a_amounts))) (l_amounts : K.lookup a_amounts = some ⟨oc_amounts, od_amounts, .func (PySem.W.fnOf "amounts" "amounts" (defArgs s_amounts) (defBody s_amounts) (defScope s_amounts) .none kV_amounts dc_amounts pm_amounts an_amounts cd_amounts ct_amounts), sl_amounts⟩) (i_amounts : PySem.W.codeIn K cd_amounts "amounts" = true) (k_amounts : PySem.W.keepIn K (.ref a_amounts) = true)
    {a__law_with_both : Addr} {oc__law_with_both kV__law_with_both dc__law_with_both pm__law_with_both cd__law_with_both ct__law_with_both : Value} {od__law_with_both an__law_with_both : Option Addr} {sl__law_with_both : Array (Option Value)} (e__law_with_both : PySem.W.nsIn K mainGlobals "_law_with_both" = some (some (.ref a__law_with_both))) (l__law_with_both : K.lookup a__law_with_both = some ⟨oc__law_with_both, od__law_with_both, .func (PySem.W.fnOf "_law_with_both" "_law_with_both" (defArgs s__law_with_both) (defBody s__law_with_both) (defScope s__law_with_both) .none kV__law_with_both dc__law_with_both pm__law_with_both an__law_with_both cd__law_with_both ct__law_with_both), sl__law_with_both⟩) (i__law_with_both : PySem.W.codeIn K cd__law_with_both "_law_with_both" = true) (k__law_with_both : PySem.W.keepIn K (.ref a__law_with_both) = true)
    {a_pairs_for_one : Addr} {oc_pairs_for_one kV_pairs_for_one dc_pairs_for_one pm_pairs_for_one cd_pairs_for_one ct_pairs_for_one : Value} {od_pairs_for_one an_pairs_for_one : Option Addr} {sl_pairs_for_one : Array (Option Value)} (e_pairs_for_one : PySem.W.nsIn K mainGlobals "pairs_for_one" = some (some (.ref a_pairs_for_one))) (l_pairs_for_one : K.lookup a_pairs_for_one = some ⟨oc_pairs_for_one, od_pairs_for_one, .func (PySem.W.fnOf "pairs_for_one" "pairs_for_one" (defArgs s_pairs_for_one) (defBody s_pairs_for_one) (defScope s_pairs_for_one) .none kV_pairs_for_one dc_pairs_for_one pm_pairs_for_one an_pairs_for_one cd_pairs_for_one ct_pairs_for_one), sl_pairs_for_one⟩) (i_pairs_for_one : PySem.W.codeIn K cd_pairs_for_one "pairs_for_one" = true) (k_pairs_for_one : PySem.W.keepIn K (.ref a_pairs_for_one) = true)
    {a_pairs_for_two : Addr} {oc_pairs_for_two kV_pairs_for_two dc_pairs_for_two pm_pairs_for_two cd_pairs_for_two ct_pairs_for_two : Value} {od_pairs_for_two an_pairs_for_two : Option Addr} {sl_pairs_for_two : Array (Option Value)} (e_pairs_for_two : PySem.W.nsIn K mainGlobals "pairs_for_two" = some (some (.ref a_pairs_for_two))) (l_pairs_for_two : K.lookup a_pairs_for_two = some ⟨oc_pairs_for_two, od_pairs_for_two, .func (PySem.W.fnOf "pairs_for_two" "pairs_for_two" (defArgs s_pairs_for_two) (defBody s_pairs_for_two) (defScope s_pairs_for_two) .none kV_pairs_for_two dc_pairs_for_two pm_pairs_for_two an_pairs_for_two cd_pairs_for_two ct_pairs_for_two), sl_pairs_for_two⟩) (i_pairs_for_two : PySem.W.codeIn K cd_pairs_for_two "pairs_for_two" = true) (k_pairs_for_two : PySem.W.keepIn K (.ref a_pairs_for_two) = true)
    {a_numbers_for : Addr} {oc_numbers_for kV_numbers_for dc_numbers_for pm_numbers_for cd_numbers_for ct_numbers_for : Value} {od_numbers_for an_numbers_for : Option Addr} {sl_numbers_for : Array (Option Value)} (e_numbers_for : PySem.W.nsIn K mainGlobals "numbers_for" = some (some (.ref a_numbers_for))) (l_numbers_for : K.lookup a_numbers_for = some ⟨oc_numbers_for, od_numbers_for, .func (PySem.W.fnOf "numbers_for" "numbers_for" (defArgs s_numbers_for) (defBody s_numbers_for) (defScope s_numbers_for) .none kV_numbers_for dc_numbers_for pm_numbers_for an_numbers_for cd_numbers_for ct_numbers_for), sl_numbers_for⟩) (i_numbers_for : PySem.W.codeIn K cd_numbers_for "numbers_for" = true) (k_numbers_for : PySem.W.keepIn K (.ref a_numbers_for) = true)
    {a_items_for : Addr} {oc_items_for kV_items_for dc_items_for pm_items_for cd_items_for ct_items_for : Value} {od_items_for an_items_for : Option Addr} {sl_items_for : Array (Option Value)} (e_items_for : PySem.W.nsIn K mainGlobals "items_for" = some (some (.ref a_items_for))) (l_items_for : K.lookup a_items_for = some ⟨oc_items_for, od_items_for, .func (PySem.W.fnOf "items_for" "items_for" (defArgs s_items_for) (defBody s_items_for) (defScope s_items_for) .none kV_items_for dc_items_for pm_items_for an_items_for cd_items_for ct_items_for), sl_items_for⟩) (i_items_for : PySem.W.codeIn K cd_items_for "items_for" = true) (k_items_for : PySem.W.keepIn K (.ref a_items_for) = true)
    {a__law_is_added : Addr} {oc__law_is_added kV__law_is_added dc__law_is_added pm__law_is_added cd__law_is_added ct__law_is_added : Value} {od__law_is_added an__law_is_added : Option Addr} {sl__law_is_added : Array (Option Value)} (e__law_is_added : PySem.W.nsIn K mainGlobals "_law_is_added" = some (some (.ref a__law_is_added))) (l__law_is_added : K.lookup a__law_is_added = some ⟨oc__law_is_added, od__law_is_added, .func (PySem.W.fnOf "_law_is_added" "_law_is_added" (defArgs s__law_is_added) (defBody s__law_is_added) (defScope s__law_is_added) .none kV__law_is_added dc__law_is_added pm__law_is_added an__law_is_added cd__law_is_added ct__law_is_added), sl__law_is_added⟩) (i__law_is_added : PySem.W.codeIn K cd__law_is_added "_law_is_added" = true) (k__law_is_added : PySem.W.keepIn K (.ref a__law_is_added) = true)
    {a_law : Addr} {oc_law kV_law dc_law pm_law cd_law ct_law : Value} {od_law an_law : Option Addr} {sl_law : Array (Option Value)} (e_law : PySem.W.nsIn K mainGlobals "law" = some (some (.ref a_law))) (l_law : K.lookup a_law = some ⟨oc_law, od_law, .func (PySem.W.fnOf "law" "law" (defArgs s_law) (defBody s_law) (defScope s_law) .none kV_law dc_law pm_law an_law cd_law ct_law), sl_law⟩) (i_law : PySem.W.codeIn K cd_law "law" = true) (k_law : PySem.W.keepIn K (.ref a_law) = true)
    (z_isinstance : PySem.W.nsIn K mainGlobals "isinstance" = some none)
    (z_int : PySem.W.nsIn K mainGlobals "int" = some none)
    (z_bool : PySem.W.nsIn K mainGlobals "bool" = some none)
    (z_tuple : PySem.W.nsIn K mainGlobals "tuple" = some none)
    (z_len : PySem.W.nsIn K mainGlobals "len" = some none)
    (z_all : PySem.W.nsIn K mainGlobals "all" = some none)
    (z_abs : PySem.W.nsIn K mainGlobals "abs" = some none)
    (z_range : PySem.W.nsIn K mainGlobals "range" = some none)
    (z_sum : PySem.W.nsIn K mainGlobals "sum" = some none)
    (z_list : PySem.W.nsIn K mainGlobals "list" = some none)
    (z_max : PySem.W.nsIn K mainGlobals "max" = some none)
    (z_zip : PySem.W.nsIn K mainGlobals "zip" = some none)
    (z_min : PySem.W.nsIn K mainGlobals "min" = some none)
    {b_WORDS : Addr} (x_WORDS : PySem.W.nsIn K mainGlobals "WORDS" = some (some (.ref b_WORDS))) (y_WORDS : repK K 8 (.ref b_WORDS) = some c_WORDS)
    {o_WORDS : Obj} (u_WORDS : K.lookup b_WORDS = some o_WORDS) (v_WORDS : o_WORDS.cls = .type "tuple") (w_WORDS : o_WORDS.dict = none)
    {b_ONE_BOX : Addr} (x_ONE_BOX : PySem.W.nsIn K mainGlobals "ONE_BOX" = some (some (.ref b_ONE_BOX))) (y_ONE_BOX : repK K 8 (.ref b_ONE_BOX) = some c_ONE_BOX)
    {b_KIND_ONE : Addr} (x_KIND_ONE : PySem.W.nsIn K mainGlobals "KIND_ONE" = some (some (.ref b_KIND_ONE))) (y_KIND_ONE : repK K 8 (.ref b_KIND_ONE) = some c_KIND_ONE)
    {b_KIND_TWO : Addr} (x_KIND_TWO : PySem.W.nsIn K mainGlobals "KIND_TWO" = some (some (.ref b_KIND_TWO))) (y_KIND_TWO : repK K 8 (.ref b_KIND_TWO) = some c_KIND_TWO) : Tx K mg where
  f_is_number := FnF.of KX G (fun _ _ _ _ _ _ us hl => match us, hl with | [_], _ => rfl) e_is_number l_is_number i_is_number k_is_number
  f_is_from_zero := FnF.of KX G (fun _ _ _ _ _ _ us hl => match us, hl with | [_], _ => rfl) e_is_from_zero l_is_from_zero i_is_from_zero k_is_from_zero
  f_is_size := FnF.of KX G (fun _ _ _ _ _ _ us hl => match us, hl with | [_], _ => rfl) e_is_size l_is_size i_is_size k_is_size
  f__law_begin := FnF.of KX G (fun _ _ _ _ _ _ us hl => match us, hl with | [_], _ => rfl) e__law_begin l__law_begin i__law_begin k__law_begin
  f__law_blend := FnF.of KX G (fun _ _ _ _ _ _ us hl => match us, hl with | [_], _ => rfl) e__law_blend l__law_blend i__law_blend k__law_blend
  f__law_take := FnF.of KX G (fun _ _ _ _ _ _ us hl => match us, hl with | [_, _], _ => rfl) e__law_take l__law_take i__law_take k__law_take
  f__law_pick := FnF.of KX G (fun _ _ _ _ _ _ us hl => match us, hl with | [_, _], _ => rfl) e__law_pick l__law_pick i__law_pick k__law_pick
  f__law_some_runs := FnF.of KX G (fun _ _ _ _ _ _ us hl => match us, hl with | [_, _], _ => rfl) e__law_some_runs l__law_some_runs i__law_some_runs k__law_some_runs
  f_need_told := FnF.of KX G (fun _ _ _ _ _ _ us hl => match us, hl with | [_, _], _ => rfl) e_need_told l_need_told i_need_told k_need_told
  f_kind_words := FnF.of KX G (fun _ _ _ _ _ _ us hl => match us, hl with | [_], _ => rfl) e_kind_words l_kind_words i_kind_words k_kind_words
  f_worth_of := FnF.of KX G (fun _ _ _ _ _ _ us hl => match us, hl with | [_, _], _ => rfl) e_worth_of l_worth_of i_worth_of k_worth_of
  f_list_facts := FnF.of KX G (fun _ _ _ _ _ _ us hl => match us, hl with | [_, _], _ => rfl) e_list_facts l_list_facts i_list_facts k_list_facts
  f_keeps := FnF.of KX G (fun _ _ _ _ _ _ us hl => match us, hl with | [_, _, _], _ => rfl) e_keeps l_keeps i_keeps k_keeps
  f_kinds := FnF.of KX G (fun _ _ _ _ _ _ us hl => match us, hl with | [_, _], _ => rfl) e_kinds l_kinds i_kinds k_kinds
  f_is_list := FnF.of KX G (fun _ _ _ _ _ _ us hl => match us, hl with | [_], _ => rfl) e_is_list l_is_list i_is_list k_is_list
  f_are_runs := FnF.of KX G (fun _ _ _ _ _ _ us hl => match us, hl with | [_, _], _ => rfl) e_are_runs l_are_runs i_are_runs k_are_runs
  f_amounts_of_numbers := FnF.of KX G (fun _ _ _ _ _ _ us hl => match us, hl with | [_], _ => rfl) e_amounts_of_numbers l_amounts_of_numbers i_amounts_of_numbers k_amounts_of_numbers
  f_amounts_of_pairs := FnF.of KX G (fun _ _ _ _ _ _ us hl => match us, hl with | [_], _ => rfl) e_amounts_of_pairs l_amounts_of_pairs i_amounts_of_pairs k_amounts_of_pairs
  f_amounts := FnF.of KX G (fun _ _ _ _ _ _ us hl => match us, hl with | [_], _ => rfl) e_amounts l_amounts i_amounts k_amounts
  f__law_with_both := FnF.of KX G (fun _ _ _ _ _ _ us hl => match us, hl with | [_], _ => rfl) e__law_with_both l__law_with_both i__law_with_both k__law_with_both
  f_pairs_for_one := FnF.of KX G (fun _ _ _ _ _ _ us hl => match us, hl with | [_], _ => rfl) e_pairs_for_one l_pairs_for_one i_pairs_for_one k_pairs_for_one
  f_pairs_for_two := FnF.of KX G (fun _ _ _ _ _ _ us hl => match us, hl with | [_], _ => rfl) e_pairs_for_two l_pairs_for_two i_pairs_for_two k_pairs_for_two
  f_numbers_for := FnF.of KX G (fun _ _ _ _ _ _ us hl => match us, hl with | [_], _ => rfl) e_numbers_for l_numbers_for i_numbers_for k_numbers_for
  f_items_for := FnF.of KX G (fun _ _ _ _ _ _ us hl => match us, hl with | [_, _], _ => rfl) e_items_for l_items_for i_items_for k_items_for
  f__law_is_added := FnF.of KX G (fun _ _ _ _ _ _ us hl => match us, hl with | [_, _, _], _ => rfl) e__law_is_added l__law_is_added i__law_is_added k__law_is_added
  f_law := FnF.of KX G (fun _ _ _ _ _ _ us hl => match us, hl with | [_], _ => rfl) e_law l_law i_law k_law
  g_isinstance := PySem.W.mg_none_of KX G z_isinstance
  g_int := PySem.W.mg_none_of KX G z_int
  g_bool := PySem.W.mg_none_of KX G z_bool
  g_tuple := PySem.W.mg_none_of KX G z_tuple
  g_len := PySem.W.mg_none_of KX G z_len
  g_all := PySem.W.mg_none_of KX G z_all
  g_abs := PySem.W.mg_none_of KX G z_abs
  g_range := PySem.W.mg_none_of KX G z_range
  g_sum := PySem.W.mg_none_of KX G z_sum
  g_list := PySem.W.mg_none_of KX G z_list
  g_max := PySem.W.mg_none_of KX G z_max
  g_zip := PySem.W.mg_none_of KX G z_zip
  g_min := PySem.W.mg_none_of KX G z_min
  c_WORDS := CnF.ref 8 KX G x_WORDS y_WORDS
  t_WORDS := CnF.tupV (mg := mg) (x := "WORDS") u_WORDS v_WORDS w_WORDS
  c_ONE_BOX := CnF.ref 8 KX G x_ONE_BOX y_ONE_BOX
  c_KIND_ONE := CnF.ref 8 KX G x_KIND_ONE y_KIND_ONE
  c_KIND_TWO := CnF.ref 8 KX G x_KIND_TWO y_KIND_TWO
theorem all_mk {K : PySem.W.Frag} {mg : Str → Option Value} {fa : Addr} {w : World} {l : Program} (hfa : mg "law" = some (.ref fa)) (T : Tx K mg) (hb : ∀ (s : Shared) (u : Value), BindsTo s T.f_law.fd ⟨[u], []⟩ [("_law_script", u)])
    (main : ∀ A : Ad, ∀ ns : List Int, ns.length ≤ 63 → ∃ mu, d_law A [scriptD ns] [] = .ok (.bl true) mu) :
    ∃ (fd : FuncData) (g : List D → Mu → Res D), (∀ (s : Shared) (u : Value), BindsTo s fd ⟨[u], []⟩ [("_law_script", u)]) ∧ (∀ base : Heap, K.In base → base.Ns mainGlobals mg → FnOk l w K mg base (L2.CX l w) 6 fa fd ["_law_script"] (spD K 1 g)) ∧
        ∀ ns : List Int, ns.length ≤ 63 → ∃ mu, g [scriptD ns] [] = .ok (.bl true) mu := by
  have e := hfa.symm.trans T.f_law.g
  cases e
  exact ⟨_, d_law T.ad, hb, fun base _ _ => ok_law T, main T.ad⟩
end K22

namespace K22
open PySem L2 DL
abbrev encN (r : Int × Int) : D := .tup [.int r.1, .int r.2]
abbrev encP (r : Int × Int × Int) : D := .tup [.int r.1, .tup [.int r.2.1, .int r.2.2]]
section
variable {A : Ad} {mu : Mu}
theorem e_take : d__law_take A = dTake := rfl
theorem e_pick : d__law_pick A = dPick := rfl
theorem e_begin : d__law_begin A = dBegin := rfl
theorem e_num {i : Int} : d_is_number A [.int i] mu = .ok (.bl true) mu := by
  refine denF_rt (env0 := [some (.int i)]) rfl ?_
  unfold m_is_number
  (repeat' (first | (with_reducible assumption) | (with_reducible apply mVar_ok) | (with_reducible apply mC_ok) | (with_reducible apply mOp_ok) | (with_reducible apply mTest_ok) | (with_reducible apply mCons_ok) | (with_reducible apply mNil_ok) | (with_reducible apply mCall_ok) | (with_reducible apply mCallF_ok) | (with_reducible apply mSeq_eq) | (with_reducible apply seqNx) | (with_reducible apply seqRt) | (with_reducible apply mSkip_ok) | (with_reducible apply mRet_ok) | (with_reducible apply mRetN_ok) | (with_reducible apply mExpr_ok) | (with_reducible apply mAsg_ok) | (with_reducible apply mGName_ok) | (with_reducible apply mIfS_ok) | (with_reducible apply mTAnd_ok) | (with_reducible apply mTOr_ok) | (with_reducible apply mTNot_ok) | (with_reducible apply mAnd_ok) | (with_reducible apply mOr_ok) | (with_reducible apply mNot_ok) | (with_reducible apply mIf_ok) | (with_reducible apply mChain_ok) | (with_reducible apply bindO_ok) | (with_reducible apply mTup_ok) | (with_reducible apply mLst_ok) | (with_reducible apply mLst_okC) | (with_reducible apply mUn_ok) | (with_reducible apply mMet_ok) | (with_reducible apply mMetC_ok) | (with_reducible apply mGTup_ok) | (with_reducible apply mGCons_ok) | (with_reducible apply mGNil_ok) | (with_reducible apply mPar_ok) | (with_reducible apply mPar3_ok) | (with_reducible apply mSet_ok) | (with_reducible apply mSeqI_ok) | (with_reducible apply mRange1_ok) | (with_reducible apply mZip_ok) | (with_reducible apply mFrz_ok) | (with_reducible apply mFor_ok) | (with_reducible apply mCallV_ok) | (with_reducible apply gAddL) | (with_reducible apply gSumL) | (with_reducible apply gMax0) | (with_reducible apply gMax2) | (with_reducible apply gMaxP) | (with_reducible apply gAllL) | (with_reducible apply gTupL) | (with_reducible apply gTupT) | (with_reducible apply gListT) | (with_reducible apply gLenT) | (with_reducible apply gIsiT) | (with_reducible apply gIsNT) | (with_reducible apply gEqL0) | (with_reducible apply gNeL0) | (with_reducible apply gMul_ok) | (with_reducible apply gAdd_ok) | (with_reducible apply gSub_ok) | (with_reducible apply gEqI) | (with_reducible apply gNeI) | (with_reducible apply gLt_ok) | (with_reducible apply gLe_ok) | (with_reducible apply gGt_ok) | (with_reducible apply gGe_ok) | (with_reducible apply gInt_ok) | (with_reducible apply mulB_ok) | (with_reducible apply lim_ok) | ((with_reducible apply ite_t); (first | assumption | (exact decide_eq_true (by omega)) | (exact decide_eq_false (by omega)) | (simp only [Bool.not_eq_true', Bool.not_eq_false', Bool.not_not, decide_eq_false_iff_not, decide_eq_true_eq, Bool.false_eq_true, if_true, if_false, Bool.not_false, Bool.not_true, reduceIte]; omega) | exact rfl)) | ((with_reducible apply ite_f); (first | assumption | (exact decide_eq_true (by omega)) | (exact decide_eq_false (by omega)) | (simp only [Bool.not_eq_true', Bool.not_eq_false', Bool.not_not, decide_eq_false_iff_not, decide_eq_true_eq, Bool.false_eq_true, if_true, if_false, Bool.not_false, Bool.not_true, reduceIte]; omega) | exact rfl)) | (simp only [List.set_cons_succ, List.set_cons_zero, wipeD]; exact rfl) | (simp only [List.length_cons, List.length_nil, List.length_map, List.length_append]; omega) | (exact rfl) | (omega)))
theorem e_numT {l : List D} : d_is_number A [.tup l] mu = .ok (.bl false) mu := by
  refine denF_rt (env0 := [some (.tup l)]) rfl ?_
  unfold m_is_number
  (repeat' (first | (with_reducible assumption) | (with_reducible apply mVar_ok) | (with_reducible apply mC_ok) | (with_reducible apply mOp_ok) | (with_reducible apply mTest_ok) | (with_reducible apply mCons_ok) | (with_reducible apply mNil_ok) | (with_reducible apply mCall_ok) | (with_reducible apply mCallF_ok) | (with_reducible apply mSeq_eq) | (with_reducible apply seqNx) | (with_reducible apply seqRt) | (with_reducible apply mSkip_ok) | (with_reducible apply mRet_ok) | (with_reducible apply mRetN_ok) | (with_reducible apply mExpr_ok) | (with_reducible apply mAsg_ok) | (with_reducible apply mGName_ok) | (with_reducible apply mIfS_ok) | (with_reducible apply mTAnd_ok) | (with_reducible apply mTOr_ok) | (with_reducible apply mTNot_ok) | (with_reducible apply mAnd_ok) | (with_reducible apply mOr_ok) | (with_reducible apply mNot_ok) | (with_reducible apply mIf_ok) | (with_reducible apply mChain_ok) | (with_reducible apply bindO_ok) | (with_reducible apply mTup_ok) | (with_reducible apply mLst_ok) | (with_reducible apply mLst_okC) | (with_reducible apply mUn_ok) | (with_reducible apply mMet_ok) | (with_reducible apply mMetC_ok) | (with_reducible apply mGTup_ok) | (with_reducible apply mGCons_ok) | (with_reducible apply mGNil_ok) | (with_reducible apply mPar_ok) | (with_reducible apply mPar3_ok) | (with_reducible apply mSet_ok) | (with_reducible apply mSeqI_ok) | (with_reducible apply mRange1_ok) | (with_reducible apply mZip_ok) | (with_reducible apply mFrz_ok) | (with_reducible apply mFor_ok) | (with_reducible apply mCallV_ok) | (with_reducible apply gAddL) | (with_reducible apply gSumL) | (with_reducible apply gMax0) | (with_reducible apply gMax2) | (with_reducible apply gMaxP) | (with_reducible apply gAllL) | (with_reducible apply gTupL) | (with_reducible apply gTupT) | (with_reducible apply gListT) | (with_reducible apply gLenT) | (with_reducible apply gIsiT) | (with_reducible apply gIsNT) | (with_reducible apply gEqL0) | (with_reducible apply gNeL0) | (with_reducible apply gMul_ok) | (with_reducible apply gAdd_ok) | (with_reducible apply gSub_ok) | (with_reducible apply gEqI) | (with_reducible apply gNeI) | (with_reducible apply gLt_ok) | (with_reducible apply gLe_ok) | (with_reducible apply gGt_ok) | (with_reducible apply gGe_ok) | (with_reducible apply gInt_ok) | (with_reducible apply mulB_ok) | (with_reducible apply lim_ok) | ((with_reducible apply ite_t); (first | assumption | (exact decide_eq_true (by omega)) | (exact decide_eq_false (by omega)) | (simp only [Bool.not_eq_true', Bool.not_eq_false', Bool.not_not, decide_eq_false_iff_not, decide_eq_true_eq, Bool.false_eq_true, if_true, if_false, Bool.not_false, Bool.not_true, reduceIte]; omega) | exact rfl)) | ((with_reducible apply ite_f); (first | assumption | (exact decide_eq_true (by omega)) | (exact decide_eq_false (by omega)) | (simp only [Bool.not_eq_true', Bool.not_eq_false', Bool.not_not, decide_eq_false_iff_not, decide_eq_true_eq, Bool.false_eq_true, if_true, if_false, Bool.not_false, Bool.not_true, reduceIte]; omega) | exact rfl)) | (simp only [List.set_cons_succ, List.set_cons_zero, wipeD]; exact rfl) | (simp only [List.length_cons, List.length_nil, List.length_map, List.length_append]; omega) | (exact rfl) | (omega)))
theorem e_zero {i : Int} (h : 0 ≤ i) : d_is_from_zero A [.int i] mu = .ok (.bl true) mu := by
  refine denF_rt (env0 := [some (.int i)]) rfl ?_
  unfold m_is_from_zero
  have h2 : decide (0 ≤ i) = true := decide_eq_true h
  rw [← h2]
  (repeat' (first | (with_reducible assumption) | (with_reducible exact e_num) | (with_reducible apply mVar_ok) | (with_reducible apply mC_ok) | (with_reducible apply mOp_ok) | (with_reducible apply mTest_ok) | (with_reducible apply mCons_ok) | (with_reducible apply mNil_ok) | (with_reducible apply mCall_ok) | (with_reducible apply mCallF_ok) | (with_reducible apply mSeq_eq) | (with_reducible apply seqNx) | (with_reducible apply seqRt) | (with_reducible apply mSkip_ok) | (with_reducible apply mRet_ok) | (with_reducible apply mRetN_ok) | (with_reducible apply mExpr_ok) | (with_reducible apply mAsg_ok) | (with_reducible apply mGName_ok) | (with_reducible apply mIfS_ok) | (with_reducible apply mTAnd_ok) | (with_reducible apply mTOr_ok) | (with_reducible apply mTNot_ok) | (with_reducible apply mAnd_ok) | (with_reducible apply mOr_ok) | (with_reducible apply mNot_ok) | (with_reducible apply mIf_ok) | (with_reducible apply mChain_ok) | (with_reducible apply bindO_ok) | (with_reducible apply mTup_ok) | (with_reducible apply mLst_ok) | (with_reducible apply mLst_okC) | (with_reducible apply mUn_ok) | (with_reducible apply mMet_ok) | (with_reducible apply mMetC_ok) | (with_reducible apply mGTup_ok) | (with_reducible apply mGCons_ok) | (with_reducible apply mGNil_ok) | (with_reducible apply mPar_ok) | (with_reducible apply mPar3_ok) | (with_reducible apply mSet_ok) | (with_reducible apply mSeqI_ok) | (with_reducible apply mRange1_ok) | (with_reducible apply mZip_ok) | (with_reducible apply mFrz_ok) | (with_reducible apply mFor_ok) | (with_reducible apply mCallV_ok) | (with_reducible apply gAddL) | (with_reducible apply gSumL) | (with_reducible apply gMax0) | (with_reducible apply gMax2) | (with_reducible apply gMaxP) | (with_reducible apply gAllL) | (with_reducible apply gTupL) | (with_reducible apply gTupT) | (with_reducible apply gListT) | (with_reducible apply gLenT) | (with_reducible apply gIsiT) | (with_reducible apply gIsNT) | (with_reducible apply gEqL0) | (with_reducible apply gNeL0) | (with_reducible apply gMul_ok) | (with_reducible apply gAdd_ok) | (with_reducible apply gSub_ok) | (with_reducible apply gEqI) | (with_reducible apply gNeI) | (with_reducible apply gLt_ok) | (with_reducible apply gLe_ok) | (with_reducible apply gGt_ok) | (with_reducible apply gGe_ok) | (with_reducible apply gInt_ok) | (with_reducible apply mulB_ok) | (with_reducible apply lim_ok) | ((with_reducible apply ite_t); (first | assumption | (exact decide_eq_true (by omega)) | (exact decide_eq_false (by omega)) | (simp only [Bool.not_eq_true', Bool.not_eq_false', Bool.not_not, decide_eq_false_iff_not, decide_eq_true_eq, Bool.false_eq_true, if_true, if_false, Bool.not_false, Bool.not_true, reduceIte]; omega) | exact rfl)) | ((with_reducible apply ite_f); (first | assumption | (exact decide_eq_true (by omega)) | (exact decide_eq_false (by omega)) | (simp only [Bool.not_eq_true', Bool.not_eq_false', Bool.not_not, decide_eq_false_iff_not, decide_eq_true_eq, Bool.false_eq_true, if_true, if_false, Bool.not_false, Bool.not_true, reduceIte]; omega) | exact rfl)) | (simp only [List.set_cons_succ, List.set_cons_zero, wipeD]; exact rfl) | (simp only [List.length_cons, List.length_nil, List.length_map, List.length_append]; omega) | (exact rfl) | (omega)))
theorem e_zeroT {l : List D} : d_is_from_zero A [.tup l] mu = .ok (.bl false) mu := by
  refine denF_rt (env0 := [some (.tup l)]) rfl ?_
  unfold m_is_from_zero
  (repeat' (first | (with_reducible assumption) | (with_reducible exact e_numT) | (with_reducible apply mVar_ok) | (with_reducible apply mC_ok) | (with_reducible apply mOp_ok) | (with_reducible apply mTest_ok) | (with_reducible apply mCons_ok) | (with_reducible apply mNil_ok) | (with_reducible apply mCall_ok) | (with_reducible apply mCallF_ok) | (with_reducible apply mSeq_eq) | (with_reducible apply seqNx) | (with_reducible apply seqRt) | (with_reducible apply mSkip_ok) | (with_reducible apply mRet_ok) | (with_reducible apply mRetN_ok) | (with_reducible apply mExpr_ok) | (with_reducible apply mAsg_ok) | (with_reducible apply mGName_ok) | (with_reducible apply mIfS_ok) | (with_reducible apply mTAnd_ok) | (with_reducible apply mTOr_ok) | (with_reducible apply mTNot_ok) | (with_reducible apply mAnd_ok) | (with_reducible apply mOr_ok) | (with_reducible apply mNot_ok) | (with_reducible apply mIf_ok) | (with_reducible apply mChain_ok) | (with_reducible apply bindO_ok) | (with_reducible apply mTup_ok) | (with_reducible apply mLst_ok) | (with_reducible apply mLst_okC) | (with_reducible apply mUn_ok) | (with_reducible apply mMet_ok) | (with_reducible apply mMetC_ok) | (with_reducible apply mGTup_ok) | (with_reducible apply mGCons_ok) | (with_reducible apply mGNil_ok) | (with_reducible apply mPar_ok) | (with_reducible apply mPar3_ok) | (with_reducible apply mSet_ok) | (with_reducible apply mSeqI_ok) | (with_reducible apply mRange1_ok) | (with_reducible apply mZip_ok) | (with_reducible apply mFrz_ok) | (with_reducible apply mFor_ok) | (with_reducible apply mCallV_ok) | (with_reducible apply gAddL) | (with_reducible apply gSumL) | (with_reducible apply gMax0) | (with_reducible apply gMax2) | (with_reducible apply gMaxP) | (with_reducible apply gAllL) | (with_reducible apply gTupL) | (with_reducible apply gTupT) | (with_reducible apply gListT) | (with_reducible apply gLenT) | (with_reducible apply gIsiT) | (with_reducible apply gIsNT) | (with_reducible apply gEqL0) | (with_reducible apply gNeL0) | (with_reducible apply gMul_ok) | (with_reducible apply gAdd_ok) | (with_reducible apply gSub_ok) | (with_reducible apply gEqI) | (with_reducible apply gNeI) | (with_reducible apply gLt_ok) | (with_reducible apply gLe_ok) | (with_reducible apply gGt_ok) | (with_reducible apply gGe_ok) | (with_reducible apply gInt_ok) | (with_reducible apply mulB_ok) | (with_reducible apply lim_ok) | ((with_reducible apply ite_t); (first | assumption | (exact decide_eq_true (by omega)) | (exact decide_eq_false (by omega)) | (simp only [Bool.not_eq_true', Bool.not_eq_false', Bool.not_not, decide_eq_false_iff_not, decide_eq_true_eq, Bool.false_eq_true, if_true, if_false, Bool.not_false, Bool.not_true, reduceIte]; omega) | exact rfl)) | ((with_reducible apply ite_f); (first | assumption | (exact decide_eq_true (by omega)) | (exact decide_eq_false (by omega)) | (simp only [Bool.not_eq_true', Bool.not_eq_false', Bool.not_not, decide_eq_false_iff_not, decide_eq_true_eq, Bool.false_eq_true, if_true, if_false, Bool.not_false, Bool.not_true, reduceIte]; omega) | exact rfl)) | (simp only [List.set_cons_succ, List.set_cons_zero, wipeD]; exact rfl) | (simp only [List.length_cons, List.length_nil, List.length_map, List.length_append]; omega) | (exact rfl) | (omega)))
theorem e_size {a b : Int} (ha : 0 ≤ a) (hb : 0 ≤ b) : d_is_size A [.tup [.int a, .int b]] mu = .ok (.bl true) mu := by
  refine denF_rt (env0 := [some (.tup [.int a, .int b]), none]) rfl ?_
  have q : q_is_size_1 A [some (.tup [.int a, .int b]), none] mu = .ok (.lst (([a, b].map fun i => decide (0 ≤ i)).map D.bl)) mu := by
    unfold q_is_size_1
    refine Eq.trans (mLc_map (enc := D.int) (f := fun i => .bl (decide (0 ≤ i))) [a, b] ?_ ?_ (by simp)) (by rfl)
    · (repeat' (first | (with_reducible assumption) | (with_reducible apply mVar_ok) | (with_reducible apply mC_ok) | (with_reducible apply mOp_ok) | (with_reducible apply mTest_ok) | (with_reducible apply mCons_ok) | (with_reducible apply mNil_ok) | (with_reducible apply mCall_ok) | (with_reducible apply mCallF_ok) | (with_reducible apply mSeq_eq) | (with_reducible apply seqNx) | (with_reducible apply seqRt) | (with_reducible apply mSkip_ok) | (with_reducible apply mRet_ok) | (with_reducible apply mRetN_ok) | (with_reducible apply mExpr_ok) | (with_reducible apply mAsg_ok) | (with_reducible apply mGName_ok) | (with_reducible apply mIfS_ok) | (with_reducible apply mTAnd_ok) | (with_reducible apply mTOr_ok) | (with_reducible apply mTNot_ok) | (with_reducible apply mAnd_ok) | (with_reducible apply mOr_ok) | (with_reducible apply mNot_ok) | (with_reducible apply mIf_ok) | (with_reducible apply mChain_ok) | (with_reducible apply bindO_ok) | (with_reducible apply mTup_ok) | (with_reducible apply mLst_ok) | (with_reducible apply mLst_okC) | (with_reducible apply mUn_ok) | (with_reducible apply mMet_ok) | (with_reducible apply mMetC_ok) | (with_reducible apply mGTup_ok) | (with_reducible apply mGCons_ok) | (with_reducible apply mGNil_ok) | (with_reducible apply mPar_ok) | (with_reducible apply mPar3_ok) | (with_reducible apply mSet_ok) | (with_reducible apply mSeqI_ok) | (with_reducible apply mRange1_ok) | (with_reducible apply mZip_ok) | (with_reducible apply mFrz_ok) | (with_reducible apply mFor_ok) | (with_reducible apply mCallV_ok) | (with_reducible apply gAddL) | (with_reducible apply gSumL) | (with_reducible apply gMax0) | (with_reducible apply gMax2) | (with_reducible apply gMaxP) | (with_reducible apply gAllL) | (with_reducible apply gTupL) | (with_reducible apply gTupT) | (with_reducible apply gListT) | (with_reducible apply gLenT) | (with_reducible apply gIsiT) | (with_reducible apply gIsNT) | (with_reducible apply gEqL0) | (with_reducible apply gNeL0) | (with_reducible apply gMul_ok) | (with_reducible apply gAdd_ok) | (with_reducible apply gSub_ok) | (with_reducible apply gEqI) | (with_reducible apply gNeI) | (with_reducible apply gLt_ok) | (with_reducible apply gLe_ok) | (with_reducible apply gGt_ok) | (with_reducible apply gGe_ok) | (with_reducible apply gInt_ok) | (with_reducible apply mulB_ok) | (with_reducible apply lim_ok) | ((with_reducible apply ite_t); (first | assumption | (exact decide_eq_true (by omega)) | (exact decide_eq_false (by omega)) | (simp only [Bool.not_eq_true', Bool.not_eq_false', Bool.not_not, decide_eq_false_iff_not, decide_eq_true_eq, Bool.false_eq_true, if_true, if_false, Bool.not_false, Bool.not_true, reduceIte]; omega) | exact rfl)) | ((with_reducible apply ite_f); (first | assumption | (exact decide_eq_true (by omega)) | (exact decide_eq_false (by omega)) | (simp only [Bool.not_eq_true', Bool.not_eq_false', Bool.not_not, decide_eq_false_iff_not, decide_eq_true_eq, Bool.false_eq_true, if_true, if_false, Bool.not_false, Bool.not_true, reduceIte]; omega) | exact rfl)) | (simp only [List.set_cons_succ, List.set_cons_zero, wipeD]; exact rfl) | (simp only [List.length_cons, List.length_nil, List.length_map, List.length_append]; omega) | (exact rfl) | (omega)))
    · intro i hi
      refine ⟨[some (.tup [.int a, .int b]), some (.int i)], by (repeat' (first | (with_reducible assumption) | (with_reducible apply mVar_ok) | (with_reducible apply mC_ok) | (with_reducible apply mOp_ok) | (with_reducible apply mTest_ok) | (with_reducible apply mCons_ok) | (with_reducible apply mNil_ok) | (with_reducible apply mCall_ok) | (with_reducible apply mCallF_ok) | (with_reducible apply mSeq_eq) | (with_reducible apply seqNx) | (with_reducible apply seqRt) | (with_reducible apply mSkip_ok) | (with_reducible apply mRet_ok) | (with_reducible apply mRetN_ok) | (with_reducible apply mExpr_ok) | (with_reducible apply mAsg_ok) | (with_reducible apply mGName_ok) | (with_reducible apply mIfS_ok) | (with_reducible apply mTAnd_ok) | (with_reducible apply mTOr_ok) | (with_reducible apply mTNot_ok) | (with_reducible apply mAnd_ok) | (with_reducible apply mOr_ok) | (with_reducible apply mNot_ok) | (with_reducible apply mIf_ok) | (with_reducible apply mChain_ok) | (with_reducible apply bindO_ok) | (with_reducible apply mTup_ok) | (with_reducible apply mLst_ok) | (with_reducible apply mLst_okC) | (with_reducible apply mUn_ok) | (with_reducible apply mMet_ok) | (with_reducible apply mMetC_ok) | (with_reducible apply mGTup_ok) | (with_reducible apply mGCons_ok) | (with_reducible apply mGNil_ok) | (with_reducible apply mPar_ok) | (with_reducible apply mPar3_ok) | (with_reducible apply mSet_ok) | (with_reducible apply mSeqI_ok) | (with_reducible apply mRange1_ok) | (with_reducible apply mZip_ok) | (with_reducible apply mFrz_ok) | (with_reducible apply mFor_ok) | (with_reducible apply mCallV_ok) | (with_reducible apply gAddL) | (with_reducible apply gSumL) | (with_reducible apply gMax0) | (with_reducible apply gMax2) | (with_reducible apply gMaxP) | (with_reducible apply gAllL) | (with_reducible apply gTupL) | (with_reducible apply gTupT) | (with_reducible apply gListT) | (with_reducible apply gLenT) | (with_reducible apply gIsiT) | (with_reducible apply gIsNT) | (with_reducible apply gEqL0) | (with_reducible apply gNeL0) | (with_reducible apply gMul_ok) | (with_reducible apply gAdd_ok) | (with_reducible apply gSub_ok) | (with_reducible apply gEqI) | (with_reducible apply gNeI) | (with_reducible apply gLt_ok) | (with_reducible apply gLe_ok) | (with_reducible apply gGt_ok) | (with_reducible apply gGe_ok) | (with_reducible apply gInt_ok) | (with_reducible apply mulB_ok) | (with_reducible apply lim_ok) | ((with_reducible apply ite_t); (first | assumption | (exact decide_eq_true (by omega)) | (exact decide_eq_false (by omega)) | (simp only [Bool.not_eq_true', Bool.not_eq_false', Bool.not_not, decide_eq_false_iff_not, decide_eq_true_eq, Bool.false_eq_true, if_true, if_false, Bool.not_false, Bool.not_true, reduceIte]; omega) | exact rfl)) | ((with_reducible apply ite_f); (first | assumption | (exact decide_eq_true (by omega)) | (exact decide_eq_false (by omega)) | (simp only [Bool.not_eq_true', Bool.not_eq_false', Bool.not_not, decide_eq_false_iff_not, decide_eq_true_eq, Bool.false_eq_true, if_true, if_false, Bool.not_false, Bool.not_true, reduceIte]; omega) | exact rfl)) | (simp only [List.set_cons_succ, List.set_cons_zero, wipeD]; exact rfl) | (simp only [List.length_cons, List.length_nil, List.length_map, List.length_append]; omega) | (exact rfl) | (omega))), rfl, ?_⟩
      (repeat' (first | (with_reducible assumption) | (with_reducible exact e_num) | (with_reducible apply mVar_ok) | (with_reducible apply mC_ok) | (with_reducible apply mOp_ok) | (with_reducible apply mTest_ok) | (with_reducible apply mCons_ok) | (with_reducible apply mNil_ok) | (with_reducible apply mCall_ok) | (with_reducible apply mCallF_ok) | (with_reducible apply mSeq_eq) | (with_reducible apply seqNx) | (with_reducible apply seqRt) | (with_reducible apply mSkip_ok) | (with_reducible apply mRet_ok) | (with_reducible apply mRetN_ok) | (with_reducible apply mExpr_ok) | (with_reducible apply mAsg_ok) | (with_reducible apply mGName_ok) | (with_reducible apply mIfS_ok) | (with_reducible apply mTAnd_ok) | (with_reducible apply mTOr_ok) | (with_reducible apply mTNot_ok) | (with_reducible apply mAnd_ok) | (with_reducible apply mOr_ok) | (with_reducible apply mNot_ok) | (with_reducible apply mIf_ok) | (with_reducible apply mChain_ok) | (with_reducible apply bindO_ok) | (with_reducible apply mTup_ok) | (with_reducible apply mLst_ok) | (with_reducible apply mLst_okC) | (with_reducible apply mUn_ok) | (with_reducible apply mMet_ok) | (with_reducible apply mMetC_ok) | (with_reducible apply mGTup_ok) | (with_reducible apply mGCons_ok) | (with_reducible apply mGNil_ok) | (with_reducible apply mPar_ok) | (with_reducible apply mPar3_ok) | (with_reducible apply mSet_ok) | (with_reducible apply mSeqI_ok) | (with_reducible apply mRange1_ok) | (with_reducible apply mZip_ok) | (with_reducible apply mFrz_ok) | (with_reducible apply mFor_ok) | (with_reducible apply mCallV_ok) | (with_reducible apply gAddL) | (with_reducible apply gSumL) | (with_reducible apply gMax0) | (with_reducible apply gMax2) | (with_reducible apply gMaxP) | (with_reducible apply gAllL) | (with_reducible apply gTupL) | (with_reducible apply gTupT) | (with_reducible apply gListT) | (with_reducible apply gLenT) | (with_reducible apply gIsiT) | (with_reducible apply gIsNT) | (with_reducible apply gEqL0) | (with_reducible apply gNeL0) | (with_reducible apply gMul_ok) | (with_reducible apply gAdd_ok) | (with_reducible apply gSub_ok) | (with_reducible apply gEqI) | (with_reducible apply gNeI) | (with_reducible apply gLt_ok) | (with_reducible apply gLe_ok) | (with_reducible apply gGt_ok) | (with_reducible apply gGe_ok) | (with_reducible apply gInt_ok) | (with_reducible apply mulB_ok) | (with_reducible apply lim_ok) | ((with_reducible apply ite_t); (first | assumption | (exact decide_eq_true (by omega)) | (exact decide_eq_false (by omega)) | (simp only [Bool.not_eq_true', Bool.not_eq_false', Bool.not_not, decide_eq_false_iff_not, decide_eq_true_eq, Bool.false_eq_true, if_true, if_false, Bool.not_false, Bool.not_true, reduceIte]; omega) | exact rfl)) | ((with_reducible apply ite_f); (first | assumption | (exact decide_eq_true (by omega)) | (exact decide_eq_false (by omega)) | (simp only [Bool.not_eq_true', Bool.not_eq_false', Bool.not_not, decide_eq_false_iff_not, decide_eq_true_eq, Bool.false_eq_true, if_true, if_false, Bool.not_false, Bool.not_true, reduceIte]; omega) | exact rfl)) | (simp only [List.set_cons_succ, List.set_cons_zero, wipeD]; exact rfl) | (simp only [List.length_cons, List.length_nil, List.length_map, List.length_append]; omega) | (exact rfl) | (omega)))
  have e1 : (([a, b].map fun i => decide (0 ≤ i)).all id) = true := by simp [ha, hb]
  have e2 : gBL (fun l => l.all id) mu [.lst (([a, b].map fun i => decide (0 ≤ i)).map D.bl)] = some (.bl true, mu) := by rw [gAllL, e1]
  unfold m_is_size
  (repeat' (first | (with_reducible assumption) | (with_reducible exact q) | (with_reducible exact e2) | (with_reducible apply mVar_ok) | (with_reducible apply mC_ok) | (with_reducible apply mOp_ok) | (with_reducible apply mTest_ok) | (with_reducible apply mCons_ok) | (with_reducible apply mNil_ok) | (with_reducible apply mCall_ok) | (with_reducible apply mCallF_ok) | (with_reducible apply mSeq_eq) | (with_reducible apply seqNx) | (with_reducible apply seqRt) | (with_reducible apply mSkip_ok) | (with_reducible apply mRet_ok) | (with_reducible apply mRetN_ok) | (with_reducible apply mExpr_ok) | (with_reducible apply mAsg_ok) | (with_reducible apply mGName_ok) | (with_reducible apply mIfS_ok) | (with_reducible apply mTAnd_ok) | (with_reducible apply mTOr_ok) | (with_reducible apply mTNot_ok) | (with_reducible apply mAnd_ok) | (with_reducible apply mOr_ok) | (with_reducible apply mNot_ok) | (with_reducible apply mIf_ok) | (with_reducible apply mChain_ok) | (with_reducible apply bindO_ok) | (with_reducible apply mTup_ok) | (with_reducible apply mLst_ok) | (with_reducible apply mLst_okC) | (with_reducible apply mUn_ok) | (with_reducible apply mMet_ok) | (with_reducible apply mMetC_ok) | (with_reducible apply mGTup_ok) | (with_reducible apply mGCons_ok) | (with_reducible apply mGNil_ok) | (with_reducible apply mPar_ok) | (with_reducible apply mPar3_ok) | (with_reducible apply mSet_ok) | (with_reducible apply mSeqI_ok) | (with_reducible apply mRange1_ok) | (with_reducible apply mZip_ok) | (with_reducible apply mFrz_ok) | (with_reducible apply mFor_ok) | (with_reducible apply mCallV_ok) | (with_reducible apply gAddL) | (with_reducible apply gSumL) | (with_reducible apply gMax0) | (with_reducible apply gMax2) | (with_reducible apply gMaxP) | (with_reducible apply gAllL) | (with_reducible apply gTupL) | (with_reducible apply gTupT) | (with_reducible apply gListT) | (with_reducible apply gLenT) | (with_reducible apply gIsiT) | (with_reducible apply gIsNT) | (with_reducible apply gEqL0) | (with_reducible apply gNeL0) | (with_reducible apply gMul_ok) | (with_reducible apply gAdd_ok) | (with_reducible apply gSub_ok) | (with_reducible apply gEqI) | (with_reducible apply gNeI) | (with_reducible apply gLt_ok) | (with_reducible apply gLe_ok) | (with_reducible apply gGt_ok) | (with_reducible apply gGe_ok) | (with_reducible apply gInt_ok) | (with_reducible apply mulB_ok) | (with_reducible apply lim_ok) | ((with_reducible apply ite_t); (first | assumption | (exact decide_eq_true (by omega)) | (exact decide_eq_false (by omega)) | (simp only [Bool.not_eq_true', Bool.not_eq_false', Bool.not_not, decide_eq_false_iff_not, decide_eq_true_eq, Bool.false_eq_true, if_true, if_false, Bool.not_false, Bool.not_true, reduceIte]; omega) | exact rfl)) | ((with_reducible apply ite_f); (first | assumption | (exact decide_eq_true (by omega)) | (exact decide_eq_false (by omega)) | (simp only [Bool.not_eq_true', Bool.not_eq_false', Bool.not_not, decide_eq_false_iff_not, decide_eq_true_eq, Bool.false_eq_true, if_true, if_false, Bool.not_false, Bool.not_true, reduceIte]; omega) | exact rfl)) | (simp only [List.set_cons_succ, List.set_cons_zero, wipeD]; exact rfl) | (simp only [List.length_cons, List.length_nil, List.length_map, List.length_append]; omega) | (exact rfl) | (omega)))
theorem ft_zero : ftGet (ft A) A.is_from_zero = some (1, d_is_from_zero A) := by
  unfold ftGet ft
  simp
theorem ft_size : ftGet (ft A) A.is_size = some (1, d_is_size A) := by
  unfold ftGet ft
  simp [A.ok]
theorem e_isl {l : List D} : d_is_list A [.lst l] mu = .ok (.bl true) mu := by
  refine denF_rt (env0 := [some (.lst l)]) rfl ?_
  unfold m_is_list
  (repeat' (first | (with_reducible assumption) | (with_reducible apply mVar_ok) | (with_reducible apply mC_ok) | (with_reducible apply mOp_ok) | (with_reducible apply mTest_ok) | (with_reducible apply mCons_ok) | (with_reducible apply mNil_ok) | (with_reducible apply mCall_ok) | (with_reducible apply mCallF_ok) | (with_reducible apply mSeq_eq) | (with_reducible apply seqNx) | (with_reducible apply seqRt) | (with_reducible apply mSkip_ok) | (with_reducible apply mRet_ok) | (with_reducible apply mRetN_ok) | (with_reducible apply mExpr_ok) | (with_reducible apply mAsg_ok) | (with_reducible apply mGName_ok) | (with_reducible apply mIfS_ok) | (with_reducible apply mTAnd_ok) | (with_reducible apply mTOr_ok) | (with_reducible apply mTNot_ok) | (with_reducible apply mAnd_ok) | (with_reducible apply mOr_ok) | (with_reducible apply mNot_ok) | (with_reducible apply mIf_ok) | (with_reducible apply mChain_ok) | (with_reducible apply bindO_ok) | (with_reducible apply mTup_ok) | (with_reducible apply mLst_ok) | (with_reducible apply mLst_okC) | (with_reducible apply mUn_ok) | (with_reducible apply mMet_ok) | (with_reducible apply mMetC_ok) | (with_reducible apply mGTup_ok) | (with_reducible apply mGCons_ok) | (with_reducible apply mGNil_ok) | (with_reducible apply mPar_ok) | (with_reducible apply mPar3_ok) | (with_reducible apply mSet_ok) | (with_reducible apply mSeqI_ok) | (with_reducible apply mRange1_ok) | (with_reducible apply mZip_ok) | (with_reducible apply mFrz_ok) | (with_reducible apply mFor_ok) | (with_reducible apply mCallV_ok) | (with_reducible apply gAddL) | (with_reducible apply gSumL) | (with_reducible apply gMax0) | (with_reducible apply gMax2) | (with_reducible apply gMaxP) | (with_reducible apply gAllL) | (with_reducible apply gTupL) | (with_reducible apply gTupT) | (with_reducible apply gListT) | (with_reducible apply gLenT) | (with_reducible apply gIsiT) | (with_reducible apply gIsNT) | (with_reducible apply gEqL0) | (with_reducible apply gNeL0) | (with_reducible apply gMul_ok) | (with_reducible apply gAdd_ok) | (with_reducible apply gSub_ok) | (with_reducible apply gEqI) | (with_reducible apply gNeI) | (with_reducible apply gLt_ok) | (with_reducible apply gLe_ok) | (with_reducible apply gGt_ok) | (with_reducible apply gGe_ok) | (with_reducible apply gInt_ok) | (with_reducible apply mulB_ok) | (with_reducible apply lim_ok) | ((with_reducible apply ite_t); (first | assumption | (exact decide_eq_true (by omega)) | (exact decide_eq_false (by omega)) | (simp only [Bool.not_eq_true', Bool.not_eq_false', Bool.not_not, decide_eq_false_iff_not, decide_eq_true_eq, Bool.false_eq_true, if_true, if_false, Bool.not_false, Bool.not_true, reduceIte]; omega) | exact rfl)) | ((with_reducible apply ite_f); (first | assumption | (exact decide_eq_true (by omega)) | (exact decide_eq_false (by omega)) | (simp only [Bool.not_eq_true', Bool.not_eq_false', Bool.not_not, decide_eq_false_iff_not, decide_eq_true_eq, Bool.false_eq_true, if_true, if_false, Bool.not_false, Bool.not_true, reduceIte]; omega) | exact rfl)) | (simp only [List.set_cons_succ, List.set_cons_zero, wipeD]; exact rfl) | (simp only [List.length_cons, List.length_nil, List.length_map, List.length_append]; omega) | (exact rfl) | (omega)))
theorem e_runsN (l : List (Int × Int)) (h : ∀ r ∈ l, 1 ≤ r.1 ∧ 0 ≤ r.2) : d_are_runs A [.lst (l.map encN), .ref A.is_from_zero] mu = .ok (.bl true) mu := by
  refine denF_rt (env0 := [some (.lst (l.map encN)), some (.ref A.is_from_zero), none]) rfl ?_
  obtain ⟨e, m, k, _, rfl, x, rfl⟩ := forL_inv (mg := mGName 2) (mb := b_are_runs_1 A) encN (fun xs env m => (∀ r ∈ xs, 1 ≤ r.1 ∧ 0 ≤ r.2) ∧ m = mu ∧ ∃ x, env = [some (.lst (l.map encN)), some (.ref A.is_from_zero), x]) l
    [some (.lst (l.map encN)), some (.ref A.is_from_zero), none] mu ⟨h, rfl, none, rfl⟩ (fun r rest env m ⟨h, e1, x, e2⟩ => by
      subst e1; subst e2
      obtain ⟨h1, h2⟩ := h r List.mem_cons_self
      refine ⟨[some (.lst (l.map encN)), some (.ref A.is_from_zero), some (encN r)], _, _, _, rfl, .inl ?_, fun q hq => h q (List.mem_cons_of_mem _ hq), rfl, some (encN r), rfl⟩
      unfold b_are_runs_1
      (repeat' (first | (with_reducible assumption) | (with_reducible exact e_num) | (with_reducible exact ft_zero) | (with_reducible exact e_zero h2) | (with_reducible apply mVar_ok) | (with_reducible apply mC_ok) | (with_reducible apply mOp_ok) | (with_reducible apply mTest_ok) | (with_reducible apply mCons_ok) | (with_reducible apply mNil_ok) | (with_reducible apply mCall_ok) | (with_reducible apply mCallF_ok) | (with_reducible apply mSeq_eq) | (with_reducible apply seqNx) | (with_reducible apply seqRt) | (with_reducible apply mSkip_ok) | (with_reducible apply mRet_ok) | (with_reducible apply mRetN_ok) | (with_reducible apply mExpr_ok) | (with_reducible apply mAsg_ok) | (with_reducible apply mGName_ok) | (with_reducible apply mIfS_ok) | (with_reducible apply mTAnd_ok) | (with_reducible apply mTOr_ok) | (with_reducible apply mTNot_ok) | (with_reducible apply mAnd_ok) | (with_reducible apply mOr_ok) | (with_reducible apply mNot_ok) | (with_reducible apply mIf_ok) | (with_reducible apply mChain_ok) | (with_reducible apply bindO_ok) | (with_reducible apply mTup_ok) | (with_reducible apply mLst_ok) | (with_reducible apply mLst_okC) | (with_reducible apply mUn_ok) | (with_reducible apply mMet_ok) | (with_reducible apply mMetC_ok) | (with_reducible apply mGTup_ok) | (with_reducible apply mGCons_ok) | (with_reducible apply mGNil_ok) | (with_reducible apply mPar_ok) | (with_reducible apply mPar3_ok) | (with_reducible apply mSet_ok) | (with_reducible apply mSeqI_ok) | (with_reducible apply mRange1_ok) | (with_reducible apply mZip_ok) | (with_reducible apply mFrz_ok) | (with_reducible apply mFor_ok) | (with_reducible apply mCallV_ok) | (with_reducible apply gAddL) | (with_reducible apply gSumL) | (with_reducible apply gMax0) | (with_reducible apply gMax2) | (with_reducible apply gMaxP) | (with_reducible apply gAllL) | (with_reducible apply gTupL) | (with_reducible apply gTupT) | (with_reducible apply gListT) | (with_reducible apply gLenT) | (with_reducible apply gIsiT) | (with_reducible apply gIsNT) | (with_reducible apply gEqL0) | (with_reducible apply gNeL0) | (with_reducible apply gMul_ok) | (with_reducible apply gAdd_ok) | (with_reducible apply gSub_ok) | (with_reducible apply gEqI) | (with_reducible apply gNeI) | (with_reducible apply gLt_ok) | (with_reducible apply gLe_ok) | (with_reducible apply gGt_ok) | (with_reducible apply gGe_ok) | (with_reducible apply gInt_ok) | (with_reducible apply mulB_ok) | (with_reducible apply lim_ok) | ((with_reducible apply ite_t); (first | assumption | (exact decide_eq_true (by omega)) | (exact decide_eq_false (by omega)) | (simp only [Bool.not_eq_true', Bool.not_eq_false', Bool.not_not, decide_eq_false_iff_not, decide_eq_true_eq, Bool.false_eq_true, if_true, if_false, Bool.not_false, Bool.not_true, reduceIte]; omega) | exact rfl)) | ((with_reducible apply ite_f); (first | assumption | (exact decide_eq_true (by omega)) | (exact decide_eq_false (by omega)) | (simp only [Bool.not_eq_true', Bool.not_eq_false', Bool.not_not, decide_eq_false_iff_not, decide_eq_true_eq, Bool.false_eq_true, if_true, if_false, Bool.not_false, Bool.not_true, reduceIte]; omega) | exact rfl)) | (simp only [List.set_cons_succ, List.set_cons_zero, wipeD]; exact rfl) | (simp only [List.length_cons, List.length_nil, List.length_map, List.length_append]; omega) | (exact rfl) | (omega))))
  unfold m_are_runs
  (repeat' (first | (with_reducible assumption) | (with_reducible exact e_isl) | (with_reducible exact k) | (with_reducible apply mVar_ok) | (with_reducible apply mC_ok) | (with_reducible apply mOp_ok) | (with_reducible apply mTest_ok) | (with_reducible apply mCons_ok) | (with_reducible apply mNil_ok) | (with_reducible apply mCall_ok) | (with_reducible apply mCallF_ok) | (with_reducible apply mSeq_eq) | (with_reducible apply seqNx) | (with_reducible apply seqRt) | (with_reducible apply mSkip_ok) | (with_reducible apply mRet_ok) | (with_reducible apply mRetN_ok) | (with_reducible apply mExpr_ok) | (with_reducible apply mAsg_ok) | (with_reducible apply mGName_ok) | (with_reducible apply mIfS_ok) | (with_reducible apply mTAnd_ok) | (with_reducible apply mTOr_ok) | (with_reducible apply mTNot_ok) | (with_reducible apply mAnd_ok) | (with_reducible apply mOr_ok) | (with_reducible apply mNot_ok) | (with_reducible apply mIf_ok) | (with_reducible apply mChain_ok) | (with_reducible apply bindO_ok) | (with_reducible apply mTup_ok) | (with_reducible apply mLst_ok) | (with_reducible apply mLst_okC) | (with_reducible apply mUn_ok) | (with_reducible apply mMet_ok) | (with_reducible apply mMetC_ok) | (with_reducible apply mGTup_ok) | (with_reducible apply mGCons_ok) | (with_reducible apply mGNil_ok) | (with_reducible apply mPar_ok) | (with_reducible apply mPar3_ok) | (with_reducible apply mSet_ok) | (with_reducible apply mSeqI_ok) | (with_reducible apply mRange1_ok) | (with_reducible apply mZip_ok) | (with_reducible apply mFrz_ok) | (with_reducible apply mFor_ok) | (with_reducible apply mCallV_ok) | (with_reducible apply gAddL) | (with_reducible apply gSumL) | (with_reducible apply gMax0) | (with_reducible apply gMax2) | (with_reducible apply gMaxP) | (with_reducible apply gAllL) | (with_reducible apply gTupL) | (with_reducible apply gTupT) | (with_reducible apply gListT) | (with_reducible apply gLenT) | (with_reducible apply gIsiT) | (with_reducible apply gIsNT) | (with_reducible apply gEqL0) | (with_reducible apply gNeL0) | (with_reducible apply gMul_ok) | (with_reducible apply gAdd_ok) | (with_reducible apply gSub_ok) | (with_reducible apply gEqI) | (with_reducible apply gNeI) | (with_reducible apply gLt_ok) | (with_reducible apply gLe_ok) | (with_reducible apply gGt_ok) | (with_reducible apply gGe_ok) | (with_reducible apply gInt_ok) | (with_reducible apply mulB_ok) | (with_reducible apply lim_ok) | ((with_reducible apply ite_t); (first | assumption | (exact decide_eq_true (by omega)) | (exact decide_eq_false (by omega)) | (simp only [Bool.not_eq_true', Bool.not_eq_false', Bool.not_not, decide_eq_false_iff_not, decide_eq_true_eq, Bool.false_eq_true, if_true, if_false, Bool.not_false, Bool.not_true, reduceIte]; omega) | exact rfl)) | ((with_reducible apply ite_f); (first | assumption | (exact decide_eq_true (by omega)) | (exact decide_eq_false (by omega)) | (simp only [Bool.not_eq_true', Bool.not_eq_false', Bool.not_not, decide_eq_false_iff_not, decide_eq_true_eq, Bool.false_eq_true, if_true, if_false, Bool.not_false, Bool.not_true, reduceIte]; omega) | exact rfl)) | (simp only [List.set_cons_succ, List.set_cons_zero, wipeD]; exact rfl) | (simp only [List.length_cons, List.length_nil, List.length_map, List.length_append]; omega) | (exact rfl) | (omega)))
theorem e_runsF (l : List (Int × Int × Int)) (h : ∀ r ∈ l, 1 ≤ r.1) (hne : l ≠ []) : d_are_runs A [.lst (l.map encP), .ref A.is_from_zero] mu = .ok (.bl false) mu := by
  refine denF_rt (env0 := [some (.lst (l.map encP)), some (.ref A.is_from_zero), none]) rfl ?_
  cases l with
  | nil => exact absurd rfl hne
  | cons r l =>
    have h1 := h r List.mem_cons_self
    have k : forL (mGName 2) (b_are_runs_1 A) ((r :: l).map encP) [some (.lst ((r :: l).map encP)), some (.ref A.is_from_zero), none] mu = .rt (.bl false) mu := by
      have : b_are_runs_1 A [some (.lst ((r :: l).map encP)), some (.ref A.is_from_zero), some (encP r)] mu = .rt (.bl false) mu := by
        unfold b_are_runs_1
        (repeat' (first | (with_reducible assumption) | (with_reducible exact e_num) | (with_reducible exact ft_zero) | (with_reducible exact e_zeroT) | (with_reducible apply mVar_ok) | (with_reducible apply mC_ok) | (with_reducible apply mOp_ok) | (with_reducible apply mTest_ok) | (with_reducible apply mCons_ok) | (with_reducible apply mNil_ok) | (with_reducible apply mCall_ok) | (with_reducible apply mCallF_ok) | (with_reducible apply mSeq_eq) | (with_reducible apply seqNx) | (with_reducible apply seqRt) | (with_reducible apply mSkip_ok) | (with_reducible apply mRet_ok) | (with_reducible apply mRetN_ok) | (with_reducible apply mExpr_ok) | (with_reducible apply mAsg_ok) | (with_reducible apply mGName_ok) | (with_reducible apply mIfS_ok) | (with_reducible apply mTAnd_ok) | (with_reducible apply mTOr_ok) | (with_reducible apply mTNot_ok) | (with_reducible apply mAnd_ok) | (with_reducible apply mOr_ok) | (with_reducible apply mNot_ok) | (with_reducible apply mIf_ok) | (with_reducible apply mChain_ok) | (with_reducible apply bindO_ok) | (with_reducible apply mTup_ok) | (with_reducible apply mLst_ok) | (with_reducible apply mLst_okC) | (with_reducible apply mUn_ok) | (with_reducible apply mMet_ok) | (with_reducible apply mMetC_ok) | (with_reducible apply mGTup_ok) | (with_reducible apply mGCons_ok) | (with_reducible apply mGNil_ok) | (with_reducible apply mPar_ok) | (with_reducible apply mPar3_ok) | (with_reducible apply mSet_ok) | (with_reducible apply mSeqI_ok) | (with_reducible apply mRange1_ok) | (with_reducible apply mZip_ok) | (with_reducible apply mFrz_ok) | (with_reducible apply mFor_ok) | (with_reducible apply mCallV_ok) | (with_reducible apply gAddL) | (with_reducible apply gSumL) | (with_reducible apply gMax0) | (with_reducible apply gMax2) | (with_reducible apply gMaxP) | (with_reducible apply gAllL) | (with_reducible apply gTupL) | (with_reducible apply gTupT) | (with_reducible apply gListT) | (with_reducible apply gLenT) | (with_reducible apply gIsiT) | (with_reducible apply gIsNT) | (with_reducible apply gEqL0) | (with_reducible apply gNeL0) | (with_reducible apply gMul_ok) | (with_reducible apply gAdd_ok) | (with_reducible apply gSub_ok) | (with_reducible apply gEqI) | (with_reducible apply gNeI) | (with_reducible apply gLt_ok) | (with_reducible apply gLe_ok) | (with_reducible apply gGt_ok) | (with_reducible apply gGe_ok) | (with_reducible apply gInt_ok) | (with_reducible apply mulB_ok) | (with_reducible apply lim_ok) | ((with_reducible apply ite_t); (first | assumption | (exact decide_eq_true (by omega)) | (exact decide_eq_false (by omega)) | (simp only [Bool.not_eq_true', Bool.not_eq_false', Bool.not_not, decide_eq_false_iff_not, decide_eq_true_eq, Bool.false_eq_true, if_true, if_false, Bool.not_false, Bool.not_true, reduceIte]; omega) | exact rfl)) | ((with_reducible apply ite_f); (first | assumption | (exact decide_eq_true (by omega)) | (exact decide_eq_false (by omega)) | (simp only [Bool.not_eq_true', Bool.not_eq_false', Bool.not_not, decide_eq_false_iff_not, decide_eq_true_eq, Bool.false_eq_true, if_true, if_false, Bool.not_false, Bool.not_true, reduceIte]; omega) | exact rfl)) | (simp only [List.set_cons_succ, List.set_cons_zero, wipeD]; exact rfl) | (simp only [List.length_cons, List.length_nil, List.length_map, List.length_append]; omega) | (exact rfl) | (omega)))
      show ((Res.ok _ mu).andS _ _) = _
      rw [andS_ok]
      show (match b_are_runs_1 A [some (.lst ((r :: l).map encP)), some (.ref A.is_from_zero), some (encP r)] mu with
        | .nx e' m' => forL (mGName 2) (b_are_runs_1 A) (l.map encP) e' m'
        | .ct e' m' => forL (mGName 2) (b_are_runs_1 A) (l.map encP) e' m'
        | .bk e' m' => .nx e' m'
        | r => r) = _
      rw [this]
    unfold m_are_runs
    (repeat' (first | (with_reducible assumption) | (with_reducible exact e_isl) | (with_reducible exact k) | (with_reducible apply mVar_ok) | (with_reducible apply mC_ok) | (with_reducible apply mOp_ok) | (with_reducible apply mTest_ok) | (with_reducible apply mCons_ok) | (with_reducible apply mNil_ok) | (with_reducible apply mCall_ok) | (with_reducible apply mCallF_ok) | (with_reducible apply mSeq_eq) | (with_reducible apply seqNx) | (with_reducible apply seqRt) | (with_reducible apply mSkip_ok) | (with_reducible apply mRet_ok) | (with_reducible apply mRetN_ok) | (with_reducible apply mExpr_ok) | (with_reducible apply mAsg_ok) | (with_reducible apply mGName_ok) | (with_reducible apply mIfS_ok) | (with_reducible apply mTAnd_ok) | (with_reducible apply mTOr_ok) | (with_reducible apply mTNot_ok) | (with_reducible apply mAnd_ok) | (with_reducible apply mOr_ok) | (with_reducible apply mNot_ok) | (with_reducible apply mIf_ok) | (with_reducible apply mChain_ok) | (with_reducible apply bindO_ok) | (with_reducible apply mTup_ok) | (with_reducible apply mLst_ok) | (with_reducible apply mLst_okC) | (with_reducible apply mUn_ok) | (with_reducible apply mMet_ok) | (with_reducible apply mMetC_ok) | (with_reducible apply mGTup_ok) | (with_reducible apply mGCons_ok) | (with_reducible apply mGNil_ok) | (with_reducible apply mPar_ok) | (with_reducible apply mPar3_ok) | (with_reducible apply mSet_ok) | (with_reducible apply mSeqI_ok) | (with_reducible apply mRange1_ok) | (with_reducible apply mZip_ok) | (with_reducible apply mFrz_ok) | (with_reducible apply mFor_ok) | (with_reducible apply mCallV_ok) | (with_reducible apply gAddL) | (with_reducible apply gSumL) | (with_reducible apply gMax0) | (with_reducible apply gMax2) | (with_reducible apply gMaxP) | (with_reducible apply gAllL) | (with_reducible apply gTupL) | (with_reducible apply gTupT) | (with_reducible apply gListT) | (with_reducible apply gLenT) | (with_reducible apply gIsiT) | (with_reducible apply gIsNT) | (with_reducible apply gEqL0) | (with_reducible apply gNeL0) | (with_reducible apply gMul_ok) | (with_reducible apply gAdd_ok) | (with_reducible apply gSub_ok) | (with_reducible apply gEqI) | (with_reducible apply gNeI) | (with_reducible apply gLt_ok) | (with_reducible apply gLe_ok) | (with_reducible apply gGt_ok) | (with_reducible apply gGe_ok) | (with_reducible apply gInt_ok) | (with_reducible apply mulB_ok) | (with_reducible apply lim_ok) | ((with_reducible apply ite_t); (first | assumption | (exact decide_eq_true (by omega)) | (exact decide_eq_false (by omega)) | (simp only [Bool.not_eq_true', Bool.not_eq_false', Bool.not_not, decide_eq_false_iff_not, decide_eq_true_eq, Bool.false_eq_true, if_true, if_false, Bool.not_false, Bool.not_true, reduceIte]; omega) | exact rfl)) | ((with_reducible apply ite_f); (first | assumption | (exact decide_eq_true (by omega)) | (exact decide_eq_false (by omega)) | (simp only [Bool.not_eq_true', Bool.not_eq_false', Bool.not_not, decide_eq_false_iff_not, decide_eq_true_eq, Bool.false_eq_true, if_true, if_false, Bool.not_false, Bool.not_true, reduceIte]; omega) | exact rfl)) | (simp only [List.set_cons_succ, List.set_cons_zero, wipeD]; exact rfl) | (simp only [List.length_cons, List.length_nil, List.length_map, List.length_append]; omega) | (exact rfl) | (omega)))
theorem e_runsP (l : List (Int × Int × Int)) (h : ∀ r ∈ l, 1 ≤ r.1 ∧ 0 ≤ r.2.1 ∧ 0 ≤ r.2.2) : d_are_runs A [.lst (l.map encP), .ref A.is_size] mu = .ok (.bl true) mu := by
  refine denF_rt (env0 := [some (.lst (l.map encP)), some (.ref A.is_size), none]) rfl ?_
  obtain ⟨e, m, k, _, rfl, x, rfl⟩ := forL_inv (mg := mGName 2) (mb := b_are_runs_1 A) encP (fun xs env m => (∀ r ∈ xs, 1 ≤ r.1 ∧ 0 ≤ r.2.1 ∧ 0 ≤ r.2.2) ∧ m = mu ∧ ∃ x, env = [some (.lst (l.map encP)), some (.ref A.is_size), x]) l
    [some (.lst (l.map encP)), some (.ref A.is_size), none] mu ⟨h, rfl, none, rfl⟩ (fun r rest env m ⟨h, e1, x, e2⟩ => by
      subst e1; subst e2
      obtain ⟨h1, h2, h3⟩ := h r List.mem_cons_self
      refine ⟨[some (.lst (l.map encP)), some (.ref A.is_size), some (encP r)], _, _, _, rfl, .inl ?_, fun q hq => h q (List.mem_cons_of_mem _ hq), rfl, some (encP r), rfl⟩
      unfold b_are_runs_1
      (repeat' (first | (with_reducible assumption) | (with_reducible exact e_num) | (with_reducible exact ft_size) | (with_reducible exact e_size h2 h3) | (with_reducible apply mVar_ok) | (with_reducible apply mC_ok) | (with_reducible apply mOp_ok) | (with_reducible apply mTest_ok) | (with_reducible apply mCons_ok) | (with_reducible apply mNil_ok) | (with_reducible apply mCall_ok) | (with_reducible apply mCallF_ok) | (with_reducible apply mSeq_eq) | (with_reducible apply seqNx) | (with_reducible apply seqRt) | (with_reducible apply mSkip_ok) | (with_reducible apply mRet_ok) | (with_reducible apply mRetN_ok) | (with_reducible apply mExpr_ok) | (with_reducible apply mAsg_ok) | (with_reducible apply mGName_ok) | (with_reducible apply mIfS_ok) | (with_reducible apply mTAnd_ok) | (with_reducible apply mTOr_ok) | (with_reducible apply mTNot_ok) | (with_reducible apply mAnd_ok) | (with_reducible apply mOr_ok) | (with_reducible apply mNot_ok) | (with_reducible apply mIf_ok) | (with_reducible apply mChain_ok) | (with_reducible apply bindO_ok) | (with_reducible apply mTup_ok) | (with_reducible apply mLst_ok) | (with_reducible apply mLst_okC) | (with_reducible apply mUn_ok) | (with_reducible apply mMet_ok) | (with_reducible apply mMetC_ok) | (with_reducible apply mGTup_ok) | (with_reducible apply mGCons_ok) | (with_reducible apply mGNil_ok) | (with_reducible apply mPar_ok) | (with_reducible apply mPar3_ok) | (with_reducible apply mSet_ok) | (with_reducible apply mSeqI_ok) | (with_reducible apply mRange1_ok) | (with_reducible apply mZip_ok) | (with_reducible apply mFrz_ok) | (with_reducible apply mFor_ok) | (with_reducible apply mCallV_ok) | (with_reducible apply gAddL) | (with_reducible apply gSumL) | (with_reducible apply gMax0) | (with_reducible apply gMax2) | (with_reducible apply gMaxP) | (with_reducible apply gAllL) | (with_reducible apply gTupL) | (with_reducible apply gTupT) | (with_reducible apply gListT) | (with_reducible apply gLenT) | (with_reducible apply gIsiT) | (with_reducible apply gIsNT) | (with_reducible apply gEqL0) | (with_reducible apply gNeL0) | (with_reducible apply gMul_ok) | (with_reducible apply gAdd_ok) | (with_reducible apply gSub_ok) | (with_reducible apply gEqI) | (with_reducible apply gNeI) | (with_reducible apply gLt_ok) | (with_reducible apply gLe_ok) | (with_reducible apply gGt_ok) | (with_reducible apply gGe_ok) | (with_reducible apply gInt_ok) | (with_reducible apply mulB_ok) | (with_reducible apply lim_ok) | ((with_reducible apply ite_t); (first | assumption | (exact decide_eq_true (by omega)) | (exact decide_eq_false (by omega)) | (simp only [Bool.not_eq_true', Bool.not_eq_false', Bool.not_not, decide_eq_false_iff_not, decide_eq_true_eq, Bool.false_eq_true, if_true, if_false, Bool.not_false, Bool.not_true, reduceIte]; omega) | exact rfl)) | ((with_reducible apply ite_f); (first | assumption | (exact decide_eq_true (by omega)) | (exact decide_eq_false (by omega)) | (simp only [Bool.not_eq_true', Bool.not_eq_false', Bool.not_not, decide_eq_false_iff_not, decide_eq_true_eq, Bool.false_eq_true, if_true, if_false, Bool.not_false, Bool.not_true, reduceIte]; omega) | exact rfl)) | (simp only [List.set_cons_succ, List.set_cons_zero, wipeD]; exact rfl) | (simp only [List.length_cons, List.length_nil, List.length_map, List.length_append]; omega) | (exact rfl) | (omega))))
  unfold m_are_runs
  (repeat' (first | (with_reducible assumption) | (with_reducible exact e_isl) | (with_reducible exact k) | (with_reducible apply mVar_ok) | (with_reducible apply mC_ok) | (with_reducible apply mOp_ok) | (with_reducible apply mTest_ok) | (with_reducible apply mCons_ok) | (with_reducible apply mNil_ok) | (with_reducible apply mCall_ok) | (with_reducible apply mCallF_ok) | (with_reducible apply mSeq_eq) | (with_reducible apply seqNx) | (with_reducible apply seqRt) | (with_reducible apply mSkip_ok) | (with_reducible apply mRet_ok) | (with_reducible apply mRetN_ok) | (with_reducible apply mExpr_ok) | (with_reducible apply mAsg_ok) | (with_reducible apply mGName_ok) | (with_reducible apply mIfS_ok) | (with_reducible apply mTAnd_ok) | (with_reducible apply mTOr_ok) | (with_reducible apply mTNot_ok) | (with_reducible apply mAnd_ok) | (with_reducible apply mOr_ok) | (with_reducible apply mNot_ok) | (with_reducible apply mIf_ok) | (with_reducible apply mChain_ok) | (with_reducible apply bindO_ok) | (with_reducible apply mTup_ok) | (with_reducible apply mLst_ok) | (with_reducible apply mLst_okC) | (with_reducible apply mUn_ok) | (with_reducible apply mMet_ok) | (with_reducible apply mMetC_ok) | (with_reducible apply mGTup_ok) | (with_reducible apply mGCons_ok) | (with_reducible apply mGNil_ok) | (with_reducible apply mPar_ok) | (with_reducible apply mPar3_ok) | (with_reducible apply mSet_ok) | (with_reducible apply mSeqI_ok) | (with_reducible apply mRange1_ok) | (with_reducible apply mZip_ok) | (with_reducible apply mFrz_ok) | (with_reducible apply mFor_ok) | (with_reducible apply mCallV_ok) | (with_reducible apply gAddL) | (with_reducible apply gSumL) | (with_reducible apply gMax0) | (with_reducible apply gMax2) | (with_reducible apply gMaxP) | (with_reducible apply gAllL) | (with_reducible apply gTupL) | (with_reducible apply gTupT) | (with_reducible apply gListT) | (with_reducible apply gLenT) | (with_reducible apply gIsiT) | (with_reducible apply gIsNT) | (with_reducible apply gEqL0) | (with_reducible apply gNeL0) | (with_reducible apply gMul_ok) | (with_reducible apply gAdd_ok) | (with_reducible apply gSub_ok) | (with_reducible apply gEqI) | (with_reducible apply gNeI) | (with_reducible apply gLt_ok) | (with_reducible apply gLe_ok) | (with_reducible apply gGt_ok) | (with_reducible apply gGe_ok) | (with_reducible apply gInt_ok) | (with_reducible apply mulB_ok) | (with_reducible apply lim_ok) | ((with_reducible apply ite_t); (first | assumption | (exact decide_eq_true (by omega)) | (exact decide_eq_false (by omega)) | (simp only [Bool.not_eq_true', Bool.not_eq_false', Bool.not_not, decide_eq_false_iff_not, decide_eq_true_eq, Bool.false_eq_true, if_true, if_false, Bool.not_false, Bool.not_true, reduceIte]; omega) | exact rfl)) | ((with_reducible apply ite_f); (first | assumption | (exact decide_eq_true (by omega)) | (exact decide_eq_false (by omega)) | (simp only [Bool.not_eq_true', Bool.not_eq_false', Bool.not_not, decide_eq_false_iff_not, decide_eq_true_eq, Bool.false_eq_true, if_true, if_false, Bool.not_false, Bool.not_true, reduceIte]; omega) | exact rfl)) | (simp only [List.set_cons_succ, List.set_cons_zero, wipeD]; exact rfl) | (simp only [List.length_cons, List.length_nil, List.length_map, List.length_append]; omega) | (exact rfl) | (omega)))

abbrev five (e r i m t : Int) : D := .tup [.int e, .int r, .int i, .int m, .int t]
theorem bmax {a b : Int} {n : Nat} (ha : Builtin.Int.intBits a ≤ n) (hb : Builtin.Int.intBits b ≤ n) : Builtin.Int.intBits (max a b) ≤ n := by
  have : max a b = a ∨ max a b = b := by omega
  rcases this with h | h <;> rw [h] <;> assumption
def BN (l : List (Int × Int)) : Prop := ∀ r ∈ l, Builtin.Int.intBits r.1 ≤ 100 ∧ Builtin.Int.intBits r.2 ≤ 2000
def BP (l : List (Int × Int × Int)) : Prop := ∀ r ∈ l, Builtin.Int.intBits r.1 ≤ 100 ∧ Builtin.Int.intBits r.2.1 ≤ 2000 ∧ Builtin.Int.intBits r.2.2 ≤ 2000
def sN (l : List (Int × Int)) : Int := (l.map fun r => r.1 * r.2).sum
def mN (l : List (Int × Int)) : Int := maxI (0 :: l.map fun r => r.2)
theorem e_amtN (l : List (Int × Int)) (hb : BN l) (hl : l.length ≤ 1000) : d_amounts_of_numbers A [.lst (l.map encN)] mu = .ok (five (sN l) (sN l) (mN l) (mN l) (mN l)) mu := by
  refine denF_rt (env0 := [some (.lst (l.map encN)), none, none, none, none]) rfl ?_
  have q1 : q_amounts_of_numbers_1 A [some (.lst (l.map encN)), none, none, none, none] mu = .ok (.lst ((l.map fun r => r.2).map D.int)) mu := by
    unfold q_amounts_of_numbers_1
    rw [mLc_map (enc := encN) (f := fun r => .int r.2) l (by (repeat' (first | (with_reducible assumption) | (with_reducible apply mVar_ok) | (with_reducible apply mC_ok) | (with_reducible apply mOp_ok) | (with_reducible apply mTest_ok) | (with_reducible apply mCons_ok) | (with_reducible apply mNil_ok) | (with_reducible apply mCall_ok) | (with_reducible apply mCallF_ok) | (with_reducible apply mSeq_eq) | (with_reducible apply seqNx) | (with_reducible apply seqRt) | (with_reducible apply mSkip_ok) | (with_reducible apply mRet_ok) | (with_reducible apply mRetN_ok) | (with_reducible apply mExpr_ok) | (with_reducible apply mAsg_ok) | (with_reducible apply mGName_ok) | (with_reducible apply mIfS_ok) | (with_reducible apply mTAnd_ok) | (with_reducible apply mTOr_ok) | (with_reducible apply mTNot_ok) | (with_reducible apply mAnd_ok) | (with_reducible apply mOr_ok) | (with_reducible apply mNot_ok) | (with_reducible apply mIf_ok) | (with_reducible apply mChain_ok) | (with_reducible apply bindO_ok) | (with_reducible apply mTup_ok) | (with_reducible apply mLst_ok) | (with_reducible apply mLst_okC) | (with_reducible apply mUn_ok) | (with_reducible apply mMet_ok) | (with_reducible apply mMetC_ok) | (with_reducible apply mGTup_ok) | (with_reducible apply mGCons_ok) | (with_reducible apply mGNil_ok) | (with_reducible apply mPar_ok) | (with_reducible apply mPar3_ok) | (with_reducible apply mSet_ok) | (with_reducible apply mSeqI_ok) | (with_reducible apply mRange1_ok) | (with_reducible apply mZip_ok) | (with_reducible apply mFrz_ok) | (with_reducible apply mFor_ok) | (with_reducible apply mCallV_ok) | (with_reducible apply gAddL) | (with_reducible apply gSumL) | (with_reducible apply gMax0) | (with_reducible apply gMax2) | (with_reducible apply gMaxP) | (with_reducible apply gAllL) | (with_reducible apply gTupL) | (with_reducible apply gTupT) | (with_reducible apply gListT) | (with_reducible apply gLenT) | (with_reducible apply gIsiT) | (with_reducible apply gIsNT) | (with_reducible apply gEqL0) | (with_reducible apply gNeL0) | (with_reducible apply gMul_ok) | (with_reducible apply gAdd_ok) | (with_reducible apply gSub_ok) | (with_reducible apply gEqI) | (with_reducible apply gNeI) | (with_reducible apply gLt_ok) | (with_reducible apply gLe_ok) | (with_reducible apply gGt_ok) | (with_reducible apply gGe_ok) | (with_reducible apply gInt_ok) | (with_reducible apply mulB_ok) | (with_reducible apply lim_ok) | ((with_reducible apply ite_t); (first | assumption | (exact decide_eq_true (by omega)) | (exact decide_eq_false (by omega)) | (simp only [Bool.not_eq_true', Bool.not_eq_false', Bool.not_not, decide_eq_false_iff_not, decide_eq_true_eq, Bool.false_eq_true, if_true, if_false, Bool.not_false, Bool.not_true, reduceIte]; omega) | exact rfl)) | ((with_reducible apply ite_f); (first | assumption | (exact decide_eq_true (by omega)) | (exact decide_eq_false (by omega)) | (simp only [Bool.not_eq_true', Bool.not_eq_false', Bool.not_not, decide_eq_false_iff_not, decide_eq_true_eq, Bool.false_eq_true, if_true, if_false, Bool.not_false, Bool.not_true, reduceIte]; omega) | exact rfl)) | (simp only [List.set_cons_succ, List.set_cons_zero, wipeD]; exact rfl) | (simp only [List.length_cons, List.length_nil, List.length_map, List.length_append]; omega) | (exact rfl) | (omega)))) ?_ (by omega), List.map_map]
    · rfl
    · intro r hr
      refine ⟨[some (.lst (l.map encN)), none, none, some (.int r.1), some (.int r.2)], ?_, rfl, ?_⟩
      · (repeat' (first | (with_reducible assumption) | (with_reducible apply mVar_ok) | (with_reducible apply mC_ok) | (with_reducible apply mOp_ok) | (with_reducible apply mTest_ok) | (with_reducible apply mCons_ok) | (with_reducible apply mNil_ok) | (with_reducible apply mCall_ok) | (with_reducible apply mCallF_ok) | (with_reducible apply mSeq_eq) | (with_reducible apply seqNx) | (with_reducible apply seqRt) | (with_reducible apply mSkip_ok) | (with_reducible apply mRet_ok) | (with_reducible apply mRetN_ok) | (with_reducible apply mExpr_ok) | (with_reducible apply mAsg_ok) | (with_reducible apply mGName_ok) | (with_reducible apply mIfS_ok) | (with_reducible apply mTAnd_ok) | (with_reducible apply mTOr_ok) | (with_reducible apply mTNot_ok) | (with_reducible apply mAnd_ok) | (with_reducible apply mOr_ok) | (with_reducible apply mNot_ok) | (with_reducible apply mIf_ok) | (with_reducible apply mChain_ok) | (with_reducible apply bindO_ok) | (with_reducible apply mTup_ok) | (with_reducible apply mLst_ok) | (with_reducible apply mLst_okC) | (with_reducible apply mUn_ok) | (with_reducible apply mMet_ok) | (with_reducible apply mMetC_ok) | (with_reducible apply mGTup_ok) | (with_reducible apply mGCons_ok) | (with_reducible apply mGNil_ok) | (with_reducible apply mPar_ok) | (with_reducible apply mPar3_ok) | (with_reducible apply mSet_ok) | (with_reducible apply mSeqI_ok) | (with_reducible apply mRange1_ok) | (with_reducible apply mZip_ok) | (with_reducible apply mFrz_ok) | (with_reducible apply mFor_ok) | (with_reducible apply mCallV_ok) | (with_reducible apply gAddL) | (with_reducible apply gSumL) | (with_reducible apply gMax0) | (with_reducible apply gMax2) | (with_reducible apply gMaxP) | (with_reducible apply gAllL) | (with_reducible apply gTupL) | (with_reducible apply gTupT) | (with_reducible apply gListT) | (with_reducible apply gLenT) | (with_reducible apply gIsiT) | (with_reducible apply gIsNT) | (with_reducible apply gEqL0) | (with_reducible apply gNeL0) | (with_reducible apply gMul_ok) | (with_reducible apply gAdd_ok) | (with_reducible apply gSub_ok) | (with_reducible apply gEqI) | (with_reducible apply gNeI) | (with_reducible apply gLt_ok) | (with_reducible apply gLe_ok) | (with_reducible apply gGt_ok) | (with_reducible apply gGe_ok) | (with_reducible apply gInt_ok) | (with_reducible apply mulB_ok) | (with_reducible apply lim_ok) | ((with_reducible apply ite_t); (first | assumption | (exact decide_eq_true (by omega)) | (exact decide_eq_false (by omega)) | (simp only [Bool.not_eq_true', Bool.not_eq_false', Bool.not_not, decide_eq_false_iff_not, decide_eq_true_eq, Bool.false_eq_true, if_true, if_false, Bool.not_false, Bool.not_true, reduceIte]; omega) | exact rfl)) | ((with_reducible apply ite_f); (first | assumption | (exact decide_eq_true (by omega)) | (exact decide_eq_false (by omega)) | (simp only [Bool.not_eq_true', Bool.not_eq_false', Bool.not_not, decide_eq_false_iff_not, decide_eq_true_eq, Bool.false_eq_true, if_true, if_false, Bool.not_false, Bool.not_true, reduceIte]; omega) | exact rfl)) | (simp only [List.set_cons_succ, List.set_cons_zero, wipeD]; exact rfl) | (simp only [List.length_cons, List.length_nil, List.length_map, List.length_append]; omega) | (exact rfl) | (omega)))
      · (repeat' (first | (with_reducible assumption) | (with_reducible apply mVar_ok) | (with_reducible apply mC_ok) | (with_reducible apply mOp_ok) | (with_reducible apply mTest_ok) | (with_reducible apply mCons_ok) | (with_reducible apply mNil_ok) | (with_reducible apply mCall_ok) | (with_reducible apply mCallF_ok) | (with_reducible apply mSeq_eq) | (with_reducible apply seqNx) | (with_reducible apply seqRt) | (with_reducible apply mSkip_ok) | (with_reducible apply mRet_ok) | (with_reducible apply mRetN_ok) | (with_reducible apply mExpr_ok) | (with_reducible apply mAsg_ok) | (with_reducible apply mGName_ok) | (with_reducible apply mIfS_ok) | (with_reducible apply mTAnd_ok) | (with_reducible apply mTOr_ok) | (with_reducible apply mTNot_ok) | (with_reducible apply mAnd_ok) | (with_reducible apply mOr_ok) | (with_reducible apply mNot_ok) | (with_reducible apply mIf_ok) | (with_reducible apply mChain_ok) | (with_reducible apply bindO_ok) | (with_reducible apply mTup_ok) | (with_reducible apply mLst_ok) | (with_reducible apply mLst_okC) | (with_reducible apply mUn_ok) | (with_reducible apply mMet_ok) | (with_reducible apply mMetC_ok) | (with_reducible apply mGTup_ok) | (with_reducible apply mGCons_ok) | (with_reducible apply mGNil_ok) | (with_reducible apply mPar_ok) | (with_reducible apply mPar3_ok) | (with_reducible apply mSet_ok) | (with_reducible apply mSeqI_ok) | (with_reducible apply mRange1_ok) | (with_reducible apply mZip_ok) | (with_reducible apply mFrz_ok) | (with_reducible apply mFor_ok) | (with_reducible apply mCallV_ok) | (with_reducible apply gAddL) | (with_reducible apply gSumL) | (with_reducible apply gMax0) | (with_reducible apply gMax2) | (with_reducible apply gMaxP) | (with_reducible apply gAllL) | (with_reducible apply gTupL) | (with_reducible apply gTupT) | (with_reducible apply gListT) | (with_reducible apply gLenT) | (with_reducible apply gIsiT) | (with_reducible apply gIsNT) | (with_reducible apply gEqL0) | (with_reducible apply gNeL0) | (with_reducible apply gMul_ok) | (with_reducible apply gAdd_ok) | (with_reducible apply gSub_ok) | (with_reducible apply gEqI) | (with_reducible apply gNeI) | (with_reducible apply gLt_ok) | (with_reducible apply gLe_ok) | (with_reducible apply gGt_ok) | (with_reducible apply gGe_ok) | (with_reducible apply gInt_ok) | (with_reducible apply mulB_ok) | (with_reducible apply lim_ok) | ((with_reducible apply ite_t); (first | assumption | (exact decide_eq_true (by omega)) | (exact decide_eq_false (by omega)) | (simp only [Bool.not_eq_true', Bool.not_eq_false', Bool.not_not, decide_eq_false_iff_not, decide_eq_true_eq, Bool.false_eq_true, if_true, if_false, Bool.not_false, Bool.not_true, reduceIte]; omega) | exact rfl)) | ((with_reducible apply ite_f); (first | assumption | (exact decide_eq_true (by omega)) | (exact decide_eq_false (by omega)) | (simp only [Bool.not_eq_true', Bool.not_eq_false', Bool.not_not, decide_eq_false_iff_not, decide_eq_true_eq, Bool.false_eq_true, if_true, if_false, Bool.not_false, Bool.not_true, reduceIte]; omega) | exact rfl)) | (simp only [List.set_cons_succ, List.set_cons_zero, wipeD]; exact rfl) | (simp only [List.length_cons, List.length_nil, List.length_map, List.length_append]; omega) | (exact rfl) | (omega)))
  have q2 : q_amounts_of_numbers_2 A [some (.lst (l.map encN)), none, none, none, none] mu = .ok (.lst ((l.map fun r => r.1 * r.2).map D.int)) mu := by
    unfold q_amounts_of_numbers_2
    rw [mLc_map (enc := encN) (f := fun r => .int (r.1 * r.2)) l (by (repeat' (first | (with_reducible assumption) | (with_reducible apply mVar_ok) | (with_reducible apply mC_ok) | (with_reducible apply mOp_ok) | (with_reducible apply mTest_ok) | (with_reducible apply mCons_ok) | (with_reducible apply mNil_ok) | (with_reducible apply mCall_ok) | (with_reducible apply mCallF_ok) | (with_reducible apply mSeq_eq) | (with_reducible apply seqNx) | (with_reducible apply seqRt) | (with_reducible apply mSkip_ok) | (with_reducible apply mRet_ok) | (with_reducible apply mRetN_ok) | (with_reducible apply mExpr_ok) | (with_reducible apply mAsg_ok) | (with_reducible apply mGName_ok) | (with_reducible apply mIfS_ok) | (with_reducible apply mTAnd_ok) | (with_reducible apply mTOr_ok) | (with_reducible apply mTNot_ok) | (with_reducible apply mAnd_ok) | (with_reducible apply mOr_ok) | (with_reducible apply mNot_ok) | (with_reducible apply mIf_ok) | (with_reducible apply mChain_ok) | (with_reducible apply bindO_ok) | (with_reducible apply mTup_ok) | (with_reducible apply mLst_ok) | (with_reducible apply mLst_okC) | (with_reducible apply mUn_ok) | (with_reducible apply mMet_ok) | (with_reducible apply mMetC_ok) | (with_reducible apply mGTup_ok) | (with_reducible apply mGCons_ok) | (with_reducible apply mGNil_ok) | (with_reducible apply mPar_ok) | (with_reducible apply mPar3_ok) | (with_reducible apply mSet_ok) | (with_reducible apply mSeqI_ok) | (with_reducible apply mRange1_ok) | (with_reducible apply mZip_ok) | (with_reducible apply mFrz_ok) | (with_reducible apply mFor_ok) | (with_reducible apply mCallV_ok) | (with_reducible apply gAddL) | (with_reducible apply gSumL) | (with_reducible apply gMax0) | (with_reducible apply gMax2) | (with_reducible apply gMaxP) | (with_reducible apply gAllL) | (with_reducible apply gTupL) | (with_reducible apply gTupT) | (with_reducible apply gListT) | (with_reducible apply gLenT) | (with_reducible apply gIsiT) | (with_reducible apply gIsNT) | (with_reducible apply gEqL0) | (with_reducible apply gNeL0) | (with_reducible apply gMul_ok) | (with_reducible apply gAdd_ok) | (with_reducible apply gSub_ok) | (with_reducible apply gEqI) | (with_reducible apply gNeI) | (with_reducible apply gLt_ok) | (with_reducible apply gLe_ok) | (with_reducible apply gGt_ok) | (with_reducible apply gGe_ok) | (with_reducible apply gInt_ok) | (with_reducible apply mulB_ok) | (with_reducible apply lim_ok) | ((with_reducible apply ite_t); (first | assumption | (exact decide_eq_true (by omega)) | (exact decide_eq_false (by omega)) | (simp only [Bool.not_eq_true', Bool.not_eq_false', Bool.not_not, decide_eq_false_iff_not, decide_eq_true_eq, Bool.false_eq_true, if_true, if_false, Bool.not_false, Bool.not_true, reduceIte]; omega) | exact rfl)) | ((with_reducible apply ite_f); (first | assumption | (exact decide_eq_true (by omega)) | (exact decide_eq_false (by omega)) | (simp only [Bool.not_eq_true', Bool.not_eq_false', Bool.not_not, decide_eq_false_iff_not, decide_eq_true_eq, Bool.false_eq_true, if_true, if_false, Bool.not_false, Bool.not_true, reduceIte]; omega) | exact rfl)) | (simp only [List.set_cons_succ, List.set_cons_zero, wipeD]; exact rfl) | (simp only [List.length_cons, List.length_nil, List.length_map, List.length_append]; omega) | (exact rfl) | (omega)))) ?_ (by omega), List.map_map]
    · rfl
    · intro r hr
      have hm : mulB r.1 r.2 = true := mulB_ok (by have := hb r hr; omega) (by have := hb r hr; omega)
      refine ⟨[some (.lst (l.map encN)), none, none, some (.int r.1), some (.int r.2)], ?_, rfl, ?_⟩
      · (repeat' (first | (with_reducible assumption) | (with_reducible apply mVar_ok) | (with_reducible apply mC_ok) | (with_reducible apply mOp_ok) | (with_reducible apply mTest_ok) | (with_reducible apply mCons_ok) | (with_reducible apply mNil_ok) | (with_reducible apply mCall_ok) | (with_reducible apply mCallF_ok) | (with_reducible apply mSeq_eq) | (with_reducible apply seqNx) | (with_reducible apply seqRt) | (with_reducible apply mSkip_ok) | (with_reducible apply mRet_ok) | (with_reducible apply mRetN_ok) | (with_reducible apply mExpr_ok) | (with_reducible apply mAsg_ok) | (with_reducible apply mGName_ok) | (with_reducible apply mIfS_ok) | (with_reducible apply mTAnd_ok) | (with_reducible apply mTOr_ok) | (with_reducible apply mTNot_ok) | (with_reducible apply mAnd_ok) | (with_reducible apply mOr_ok) | (with_reducible apply mNot_ok) | (with_reducible apply mIf_ok) | (with_reducible apply mChain_ok) | (with_reducible apply bindO_ok) | (with_reducible apply mTup_ok) | (with_reducible apply mLst_ok) | (with_reducible apply mLst_okC) | (with_reducible apply mUn_ok) | (with_reducible apply mMet_ok) | (with_reducible apply mMetC_ok) | (with_reducible apply mGTup_ok) | (with_reducible apply mGCons_ok) | (with_reducible apply mGNil_ok) | (with_reducible apply mPar_ok) | (with_reducible apply mPar3_ok) | (with_reducible apply mSet_ok) | (with_reducible apply mSeqI_ok) | (with_reducible apply mRange1_ok) | (with_reducible apply mZip_ok) | (with_reducible apply mFrz_ok) | (with_reducible apply mFor_ok) | (with_reducible apply mCallV_ok) | (with_reducible apply gAddL) | (with_reducible apply gSumL) | (with_reducible apply gMax0) | (with_reducible apply gMax2) | (with_reducible apply gMaxP) | (with_reducible apply gAllL) | (with_reducible apply gTupL) | (with_reducible apply gTupT) | (with_reducible apply gListT) | (with_reducible apply gLenT) | (with_reducible apply gIsiT) | (with_reducible apply gIsNT) | (with_reducible apply gEqL0) | (with_reducible apply gNeL0) | (with_reducible apply gMul_ok) | (with_reducible apply gAdd_ok) | (with_reducible apply gSub_ok) | (with_reducible apply gEqI) | (with_reducible apply gNeI) | (with_reducible apply gLt_ok) | (with_reducible apply gLe_ok) | (with_reducible apply gGt_ok) | (with_reducible apply gGe_ok) | (with_reducible apply gInt_ok) | (with_reducible apply mulB_ok) | (with_reducible apply lim_ok) | ((with_reducible apply ite_t); (first | assumption | (exact decide_eq_true (by omega)) | (exact decide_eq_false (by omega)) | (simp only [Bool.not_eq_true', Bool.not_eq_false', Bool.not_not, decide_eq_false_iff_not, decide_eq_true_eq, Bool.false_eq_true, if_true, if_false, Bool.not_false, Bool.not_true, reduceIte]; omega) | exact rfl)) | ((with_reducible apply ite_f); (first | assumption | (exact decide_eq_true (by omega)) | (exact decide_eq_false (by omega)) | (simp only [Bool.not_eq_true', Bool.not_eq_false', Bool.not_not, decide_eq_false_iff_not, decide_eq_true_eq, Bool.false_eq_true, if_true, if_false, Bool.not_false, Bool.not_true, reduceIte]; omega) | exact rfl)) | (simp only [List.set_cons_succ, List.set_cons_zero, wipeD]; exact rfl) | (simp only [List.length_cons, List.length_nil, List.length_map, List.length_append]; omega) | (exact rfl) | (omega)))
      · (repeat' (first | (with_reducible assumption) | (with_reducible apply mVar_ok) | (with_reducible apply mC_ok) | (with_reducible apply mOp_ok) | (with_reducible apply mTest_ok) | (with_reducible apply mCons_ok) | (with_reducible apply mNil_ok) | (with_reducible apply mCall_ok) | (with_reducible apply mCallF_ok) | (with_reducible apply mSeq_eq) | (with_reducible apply seqNx) | (with_reducible apply seqRt) | (with_reducible apply mSkip_ok) | (with_reducible apply mRet_ok) | (with_reducible apply mRetN_ok) | (with_reducible apply mExpr_ok) | (with_reducible apply mAsg_ok) | (with_reducible apply mGName_ok) | (with_reducible apply mIfS_ok) | (with_reducible apply mTAnd_ok) | (with_reducible apply mTOr_ok) | (with_reducible apply mTNot_ok) | (with_reducible apply mAnd_ok) | (with_reducible apply mOr_ok) | (with_reducible apply mNot_ok) | (with_reducible apply mIf_ok) | (with_reducible apply mChain_ok) | (with_reducible apply bindO_ok) | (with_reducible apply mTup_ok) | (with_reducible apply mLst_ok) | (with_reducible apply mLst_okC) | (with_reducible apply mUn_ok) | (with_reducible apply mMet_ok) | (with_reducible apply mMetC_ok) | (with_reducible apply mGTup_ok) | (with_reducible apply mGCons_ok) | (with_reducible apply mGNil_ok) | (with_reducible apply mPar_ok) | (with_reducible apply mPar3_ok) | (with_reducible apply mSet_ok) | (with_reducible apply mSeqI_ok) | (with_reducible apply mRange1_ok) | (with_reducible apply mZip_ok) | (with_reducible apply mFrz_ok) | (with_reducible apply mFor_ok) | (with_reducible apply mCallV_ok) | (with_reducible apply gAddL) | (with_reducible apply gSumL) | (with_reducible apply gMax0) | (with_reducible apply gMax2) | (with_reducible apply gMaxP) | (with_reducible apply gAllL) | (with_reducible apply gTupL) | (with_reducible apply gTupT) | (with_reducible apply gListT) | (with_reducible apply gLenT) | (with_reducible apply gIsiT) | (with_reducible apply gIsNT) | (with_reducible apply gEqL0) | (with_reducible apply gNeL0) | (with_reducible apply gMul_ok) | (with_reducible apply gAdd_ok) | (with_reducible apply gSub_ok) | (with_reducible apply gEqI) | (with_reducible apply gNeI) | (with_reducible apply gLt_ok) | (with_reducible apply gLe_ok) | (with_reducible apply gGt_ok) | (with_reducible apply gGe_ok) | (with_reducible apply gInt_ok) | (with_reducible apply mulB_ok) | (with_reducible apply lim_ok) | ((with_reducible apply ite_t); (first | assumption | (exact decide_eq_true (by omega)) | (exact decide_eq_false (by omega)) | (simp only [Bool.not_eq_true', Bool.not_eq_false', Bool.not_not, decide_eq_false_iff_not, decide_eq_true_eq, Bool.false_eq_true, if_true, if_false, Bool.not_false, Bool.not_true, reduceIte]; omega) | exact rfl)) | ((with_reducible apply ite_f); (first | assumption | (exact decide_eq_true (by omega)) | (exact decide_eq_false (by omega)) | (simp only [Bool.not_eq_true', Bool.not_eq_false', Bool.not_not, decide_eq_false_iff_not, decide_eq_true_eq, Bool.false_eq_true, if_true, if_false, Bool.not_false, Bool.not_true, reduceIte]; omega) | exact rfl)) | (simp only [List.set_cons_succ, List.set_cons_zero, wipeD]; exact rfl) | (simp only [List.length_cons, List.length_nil, List.length_map, List.length_append]; omega) | (exact rfl) | (omega)))
  have hlim : lim ([D.int 0].length + ((l.map fun r => r.2).map D.int).length) = true := lim_ok (by simp; omega)
  unfold m_amounts_of_numbers
  (repeat' (first | (with_reducible assumption) | (with_reducible exact q1) | (with_reducible exact q2) | (with_reducible apply mVar_ok) | (with_reducible apply mC_ok) | (with_reducible apply mOp_ok) | (with_reducible apply mTest_ok) | (with_reducible apply mCons_ok) | (with_reducible apply mNil_ok) | (with_reducible apply mCall_ok) | (with_reducible apply mCallF_ok) | (with_reducible apply mSeq_eq) | (with_reducible apply seqNx) | (with_reducible apply seqRt) | (with_reducible apply mSkip_ok) | (with_reducible apply mRet_ok) | (with_reducible apply mRetN_ok) | (with_reducible apply mExpr_ok) | (with_reducible apply mAsg_ok) | (with_reducible apply mGName_ok) | (with_reducible apply mIfS_ok) | (with_reducible apply mTAnd_ok) | (with_reducible apply mTOr_ok) | (with_reducible apply mTNot_ok) | (with_reducible apply mAnd_ok) | (with_reducible apply mOr_ok) | (with_reducible apply mNot_ok) | (with_reducible apply mIf_ok) | (with_reducible apply mChain_ok) | (with_reducible apply bindO_ok) | (with_reducible apply mTup_ok) | (with_reducible apply mLst_ok) | (with_reducible apply mLst_okC) | (with_reducible apply mUn_ok) | (with_reducible apply mMet_ok) | (with_reducible apply mMetC_ok) | (with_reducible apply mGTup_ok) | (with_reducible apply mGCons_ok) | (with_reducible apply mGNil_ok) | (with_reducible apply mPar_ok) | (with_reducible apply mPar3_ok) | (with_reducible apply mSet_ok) | (with_reducible apply mSeqI_ok) | (with_reducible apply mRange1_ok) | (with_reducible apply mZip_ok) | (with_reducible apply mFrz_ok) | (with_reducible apply mFor_ok) | (with_reducible apply mCallV_ok) | (with_reducible apply gAddL) | (with_reducible apply gSumL) | (with_reducible apply gMax0) | (with_reducible apply gMax2) | (with_reducible apply gMaxP) | (with_reducible apply gAllL) | (with_reducible apply gTupL) | (with_reducible apply gTupT) | (with_reducible apply gListT) | (with_reducible apply gLenT) | (with_reducible apply gIsiT) | (with_reducible apply gIsNT) | (with_reducible apply gEqL0) | (with_reducible apply gNeL0) | (with_reducible apply gMul_ok) | (with_reducible apply gAdd_ok) | (with_reducible apply gSub_ok) | (with_reducible apply gEqI) | (with_reducible apply gNeI) | (with_reducible apply gLt_ok) | (with_reducible apply gLe_ok) | (with_reducible apply gGt_ok) | (with_reducible apply gGe_ok) | (with_reducible apply gInt_ok) | (with_reducible apply mulB_ok) | (with_reducible apply lim_ok) | ((with_reducible apply ite_t); (first | assumption | (exact decide_eq_true (by omega)) | (exact decide_eq_false (by omega)) | (simp only [Bool.not_eq_true', Bool.not_eq_false', Bool.not_not, decide_eq_false_iff_not, decide_eq_true_eq, Bool.false_eq_true, if_true, if_false, Bool.not_false, Bool.not_true, reduceIte]; omega) | exact rfl)) | ((with_reducible apply ite_f); (first | assumption | (exact decide_eq_true (by omega)) | (exact decide_eq_false (by omega)) | (simp only [Bool.not_eq_true', Bool.not_eq_false', Bool.not_not, decide_eq_false_iff_not, decide_eq_true_eq, Bool.false_eq_true, if_true, if_false, Bool.not_false, Bool.not_true, reduceIte]; omega) | exact rfl)) | (simp only [List.set_cons_succ, List.set_cons_zero, wipeD]; exact rfl) | (simp only [List.length_cons, List.length_nil, List.length_map, List.length_append]; omega) | (exact rfl) | (omega)))
abbrev fE (r : Int × Int × Int) : Int := r.1 * (r.2.1 + r.2.2)
abbrev fR (r : Int × Int × Int) : Int := r.1 * max r.2.1 r.2.2
abbrev fI (r : Int × Int × Int) : Int := r.2.1 + r.2.2
def sE (l : List (Int × Int × Int)) : Int := (l.map fE).sum
def sR (l : List (Int × Int × Int)) : Int := (l.map fR).sum
def mI (l : List (Int × Int × Int)) : Int := maxI (0 :: l.map fI)
def mA (l : List (Int × Int × Int)) : Int := maxI (0 :: l.map fun r => r.2.1)
def mB (l : List (Int × Int × Int)) : Int := maxI (0 :: l.map fun r => r.2.2)
theorem e_amtP (l : List (Int × Int × Int)) (hb : BP l) (hl : l.length ≤ 1000) : d_amounts_of_pairs A [.lst (l.map encP)] mu = .ok (five (sE l) (sR l) (mI l) (max (mA l) (mB l)) (mA l + mB l)) mu := by
  refine denF_rt (env0 := [some (.lst (l.map encP)), none, none, none, none, none, none, none]) rfl ?_
  have q1 : ∀ x1 x4 x5 x6 x7, q_amounts_of_pairs_1 A [some (.lst (l.map encP)), x1, none, none, x4, x5, x6, x7] mu = .ok (.lst ((l.map fE).map D.int)) mu := fun x1 x4 x5 x6 x7 => by
    unfold q_amounts_of_pairs_1
    rw [mLc_map (enc := encP) (f := fun r => .int (fE r)) l (by (repeat' (first | (with_reducible assumption) | (with_reducible apply mVar_ok) | (with_reducible apply mC_ok) | (with_reducible apply mOp_ok) | (with_reducible apply mTest_ok) | (with_reducible apply mCons_ok) | (with_reducible apply mNil_ok) | (with_reducible apply mCall_ok) | (with_reducible apply mCallF_ok) | (with_reducible apply mSeq_eq) | (with_reducible apply seqNx) | (with_reducible apply seqRt) | (with_reducible apply mSkip_ok) | (with_reducible apply mRet_ok) | (with_reducible apply mRetN_ok) | (with_reducible apply mExpr_ok) | (with_reducible apply mAsg_ok) | (with_reducible apply mGName_ok) | (with_reducible apply mIfS_ok) | (with_reducible apply mTAnd_ok) | (with_reducible apply mTOr_ok) | (with_reducible apply mTNot_ok) | (with_reducible apply mAnd_ok) | (with_reducible apply mOr_ok) | (with_reducible apply mNot_ok) | (with_reducible apply mIf_ok) | (with_reducible apply mChain_ok) | (with_reducible apply bindO_ok) | (with_reducible apply mTup_ok) | (with_reducible apply mLst_ok) | (with_reducible apply mLst_okC) | (with_reducible apply mUn_ok) | (with_reducible apply mMet_ok) | (with_reducible apply mMetC_ok) | (with_reducible apply mGTup_ok) | (with_reducible apply mGCons_ok) | (with_reducible apply mGNil_ok) | (with_reducible apply mPar_ok) | (with_reducible apply mPar3_ok) | (with_reducible apply mSet_ok) | (with_reducible apply mSeqI_ok) | (with_reducible apply mRange1_ok) | (with_reducible apply mZip_ok) | (with_reducible apply mFrz_ok) | (with_reducible apply mFor_ok) | (with_reducible apply mCallV_ok) | (with_reducible apply gAddL) | (with_reducible apply gSumL) | (with_reducible apply gMax0) | (with_reducible apply gMax2) | (with_reducible apply gMaxP) | (with_reducible apply gAllL) | (with_reducible apply gTupL) | (with_reducible apply gTupT) | (with_reducible apply gListT) | (with_reducible apply gLenT) | (with_reducible apply gIsiT) | (with_reducible apply gIsNT) | (with_reducible apply gEqL0) | (with_reducible apply gNeL0) | (with_reducible apply gMul_ok) | (with_reducible apply gAdd_ok) | (with_reducible apply gSub_ok) | (with_reducible apply gEqI) | (with_reducible apply gNeI) | (with_reducible apply gLt_ok) | (with_reducible apply gLe_ok) | (with_reducible apply gGt_ok) | (with_reducible apply gGe_ok) | (with_reducible apply gInt_ok) | (with_reducible apply mulB_ok) | (with_reducible apply lim_ok) | ((with_reducible apply ite_t); (first | assumption | (exact decide_eq_true (by omega)) | (exact decide_eq_false (by omega)) | (simp only [Bool.not_eq_true', Bool.not_eq_false', Bool.not_not, decide_eq_false_iff_not, decide_eq_true_eq, Bool.false_eq_true, if_true, if_false, Bool.not_false, Bool.not_true, reduceIte]; omega) | exact rfl)) | ((with_reducible apply ite_f); (first | assumption | (exact decide_eq_true (by omega)) | (exact decide_eq_false (by omega)) | (simp only [Bool.not_eq_true', Bool.not_eq_false', Bool.not_not, decide_eq_false_iff_not, decide_eq_true_eq, Bool.false_eq_true, if_true, if_false, Bool.not_false, Bool.not_true, reduceIte]; omega) | exact rfl)) | (simp only [List.set_cons_succ, List.set_cons_zero, wipeD]; exact rfl) | (simp only [List.length_cons, List.length_nil, List.length_map, List.length_append]; omega) | (exact rfl) | (omega)))) ?_ (by omega), List.map_map]
    · rfl
    · intro r hr
      have hm : mulB r.1 (r.2.1 + r.2.2) = true := mulB_ok (by have := hb r hr; omega) (by have h := hb r hr; have := intBits_add_le h.2.1 h.2.2; omega)
      refine ⟨[some (.lst (l.map encP)), x1, some (.int r.1), some (.tup [.int r.2.1, .int r.2.2]), x4, x5, x6, x7], ?_, rfl, ?_⟩
      · (repeat' (first | (with_reducible assumption) | (with_reducible apply mVar_ok) | (with_reducible apply mC_ok) | (with_reducible apply mOp_ok) | (with_reducible apply mTest_ok) | (with_reducible apply mCons_ok) | (with_reducible apply mNil_ok) | (with_reducible apply mCall_ok) | (with_reducible apply mCallF_ok) | (with_reducible apply mSeq_eq) | (with_reducible apply seqNx) | (with_reducible apply seqRt) | (with_reducible apply mSkip_ok) | (with_reducible apply mRet_ok) | (with_reducible apply mRetN_ok) | (with_reducible apply mExpr_ok) | (with_reducible apply mAsg_ok) | (with_reducible apply mGName_ok) | (with_reducible apply mIfS_ok) | (with_reducible apply mTAnd_ok) | (with_reducible apply mTOr_ok) | (with_reducible apply mTNot_ok) | (with_reducible apply mAnd_ok) | (with_reducible apply mOr_ok) | (with_reducible apply mNot_ok) | (with_reducible apply mIf_ok) | (with_reducible apply mChain_ok) | (with_reducible apply bindO_ok) | (with_reducible apply mTup_ok) | (with_reducible apply mLst_ok) | (with_reducible apply mLst_okC) | (with_reducible apply mUn_ok) | (with_reducible apply mMet_ok) | (with_reducible apply mMetC_ok) | (with_reducible apply mGTup_ok) | (with_reducible apply mGCons_ok) | (with_reducible apply mGNil_ok) | (with_reducible apply mPar_ok) | (with_reducible apply mPar3_ok) | (with_reducible apply mSet_ok) | (with_reducible apply mSeqI_ok) | (with_reducible apply mRange1_ok) | (with_reducible apply mZip_ok) | (with_reducible apply mFrz_ok) | (with_reducible apply mFor_ok) | (with_reducible apply mCallV_ok) | (with_reducible apply gAddL) | (with_reducible apply gSumL) | (with_reducible apply gMax0) | (with_reducible apply gMax2) | (with_reducible apply gMaxP) | (with_reducible apply gAllL) | (with_reducible apply gTupL) | (with_reducible apply gTupT) | (with_reducible apply gListT) | (with_reducible apply gLenT) | (with_reducible apply gIsiT) | (with_reducible apply gIsNT) | (with_reducible apply gEqL0) | (with_reducible apply gNeL0) | (with_reducible apply gMul_ok) | (with_reducible apply gAdd_ok) | (with_reducible apply gSub_ok) | (with_reducible apply gEqI) | (with_reducible apply gNeI) | (with_reducible apply gLt_ok) | (with_reducible apply gLe_ok) | (with_reducible apply gGt_ok) | (with_reducible apply gGe_ok) | (with_reducible apply gInt_ok) | (with_reducible apply mulB_ok) | (with_reducible apply lim_ok) | ((with_reducible apply ite_t); (first | assumption | (exact decide_eq_true (by omega)) | (exact decide_eq_false (by omega)) | (simp only [Bool.not_eq_true', Bool.not_eq_false', Bool.not_not, decide_eq_false_iff_not, decide_eq_true_eq, Bool.false_eq_true, if_true, if_false, Bool.not_false, Bool.not_true, reduceIte]; omega) | exact rfl)) | ((with_reducible apply ite_f); (first | assumption | (exact decide_eq_true (by omega)) | (exact decide_eq_false (by omega)) | (simp only [Bool.not_eq_true', Bool.not_eq_false', Bool.not_not, decide_eq_false_iff_not, decide_eq_true_eq, Bool.false_eq_true, if_true, if_false, Bool.not_false, Bool.not_true, reduceIte]; omega) | exact rfl)) | (simp only [List.set_cons_succ, List.set_cons_zero, wipeD]; exact rfl) | (simp only [List.length_cons, List.length_nil, List.length_map, List.length_append]; omega) | (exact rfl) | (omega)))
      · (repeat' (first | (with_reducible assumption) | (with_reducible apply mVar_ok) | (with_reducible apply mC_ok) | (with_reducible apply mOp_ok) | (with_reducible apply mTest_ok) | (with_reducible apply mCons_ok) | (with_reducible apply mNil_ok) | (with_reducible apply mCall_ok) | (with_reducible apply mCallF_ok) | (with_reducible apply mSeq_eq) | (with_reducible apply seqNx) | (with_reducible apply seqRt) | (with_reducible apply mSkip_ok) | (with_reducible apply mRet_ok) | (with_reducible apply mRetN_ok) | (with_reducible apply mExpr_ok) | (with_reducible apply mAsg_ok) | (with_reducible apply mGName_ok) | (with_reducible apply mIfS_ok) | (with_reducible apply mTAnd_ok) | (with_reducible apply mTOr_ok) | (with_reducible apply mTNot_ok) | (with_reducible apply mAnd_ok) | (with_reducible apply mOr_ok) | (with_reducible apply mNot_ok) | (with_reducible apply mIf_ok) | (with_reducible apply mChain_ok) | (with_reducible apply bindO_ok) | (with_reducible apply mTup_ok) | (with_reducible apply mLst_ok) | (with_reducible apply mLst_okC) | (with_reducible apply mUn_ok) | (with_reducible apply mMet_ok) | (with_reducible apply mMetC_ok) | (with_reducible apply mGTup_ok) | (with_reducible apply mGCons_ok) | (with_reducible apply mGNil_ok) | (with_reducible apply mPar_ok) | (with_reducible apply mPar3_ok) | (with_reducible apply mSet_ok) | (with_reducible apply mSeqI_ok) | (with_reducible apply mRange1_ok) | (with_reducible apply mZip_ok) | (with_reducible apply mFrz_ok) | (with_reducible apply mFor_ok) | (with_reducible apply mCallV_ok) | (with_reducible apply gAddL) | (with_reducible apply gSumL) | (with_reducible apply gMax0) | (with_reducible apply gMax2) | (with_reducible apply gMaxP) | (with_reducible apply gAllL) | (with_reducible apply gTupL) | (with_reducible apply gTupT) | (with_reducible apply gListT) | (with_reducible apply gLenT) | (with_reducible apply gIsiT) | (with_reducible apply gIsNT) | (with_reducible apply gEqL0) | (with_reducible apply gNeL0) | (with_reducible apply gMul_ok) | (with_reducible apply gAdd_ok) | (with_reducible apply gSub_ok) | (with_reducible apply gEqI) | (with_reducible apply gNeI) | (with_reducible apply gLt_ok) | (with_reducible apply gLe_ok) | (with_reducible apply gGt_ok) | (with_reducible apply gGe_ok) | (with_reducible apply gInt_ok) | (with_reducible apply mulB_ok) | (with_reducible apply lim_ok) | ((with_reducible apply ite_t); (first | assumption | (exact decide_eq_true (by omega)) | (exact decide_eq_false (by omega)) | (simp only [Bool.not_eq_true', Bool.not_eq_false', Bool.not_not, decide_eq_false_iff_not, decide_eq_true_eq, Bool.false_eq_true, if_true, if_false, Bool.not_false, Bool.not_true, reduceIte]; omega) | exact rfl)) | ((with_reducible apply ite_f); (first | assumption | (exact decide_eq_true (by omega)) | (exact decide_eq_false (by omega)) | (simp only [Bool.not_eq_true', Bool.not_eq_false', Bool.not_not, decide_eq_false_iff_not, decide_eq_true_eq, Bool.false_eq_true, if_true, if_false, Bool.not_false, Bool.not_true, reduceIte]; omega) | exact rfl)) | (simp only [List.set_cons_succ, List.set_cons_zero, wipeD]; exact rfl) | (simp only [List.length_cons, List.length_nil, List.length_map, List.length_append]; omega) | (exact rfl) | (omega)))
  have q2 : ∀ x1 x4 x5 x6 x7, q_amounts_of_pairs_2 A [some (.lst (l.map encP)), x1, none, none, x4, x5, x6, x7] mu = .ok (.lst ((l.map fR).map D.int)) mu := fun x1 x4 x5 x6 x7 => by
    unfold q_amounts_of_pairs_2
    rw [mLc_map (enc := encP) (f := fun r => .int (fR r)) l (by (repeat' (first | (with_reducible assumption) | (with_reducible apply mVar_ok) | (with_reducible apply mC_ok) | (with_reducible apply mOp_ok) | (with_reducible apply mTest_ok) | (with_reducible apply mCons_ok) | (with_reducible apply mNil_ok) | (with_reducible apply mCall_ok) | (with_reducible apply mCallF_ok) | (with_reducible apply mSeq_eq) | (with_reducible apply seqNx) | (with_reducible apply seqRt) | (with_reducible apply mSkip_ok) | (with_reducible apply mRet_ok) | (with_reducible apply mRetN_ok) | (with_reducible apply mExpr_ok) | (with_reducible apply mAsg_ok) | (with_reducible apply mGName_ok) | (with_reducible apply mIfS_ok) | (with_reducible apply mTAnd_ok) | (with_reducible apply mTOr_ok) | (with_reducible apply mTNot_ok) | (with_reducible apply mAnd_ok) | (with_reducible apply mOr_ok) | (with_reducible apply mNot_ok) | (with_reducible apply mIf_ok) | (with_reducible apply mChain_ok) | (with_reducible apply bindO_ok) | (with_reducible apply mTup_ok) | (with_reducible apply mLst_ok) | (with_reducible apply mLst_okC) | (with_reducible apply mUn_ok) | (with_reducible apply mMet_ok) | (with_reducible apply mMetC_ok) | (with_reducible apply mGTup_ok) | (with_reducible apply mGCons_ok) | (with_reducible apply mGNil_ok) | (with_reducible apply mPar_ok) | (with_reducible apply mPar3_ok) | (with_reducible apply mSet_ok) | (with_reducible apply mSeqI_ok) | (with_reducible apply mRange1_ok) | (with_reducible apply mZip_ok) | (with_reducible apply mFrz_ok) | (with_reducible apply mFor_ok) | (with_reducible apply mCallV_ok) | (with_reducible apply gAddL) | (with_reducible apply gSumL) | (with_reducible apply gMax0) | (with_reducible apply gMax2) | (with_reducible apply gMaxP) | (with_reducible apply gAllL) | (with_reducible apply gTupL) | (with_reducible apply gTupT) | (with_reducible apply gListT) | (with_reducible apply gLenT) | (with_reducible apply gIsiT) | (with_reducible apply gIsNT) | (with_reducible apply gEqL0) | (with_reducible apply gNeL0) | (with_reducible apply gMul_ok) | (with_reducible apply gAdd_ok) | (with_reducible apply gSub_ok) | (with_reducible apply gEqI) | (with_reducible apply gNeI) | (with_reducible apply gLt_ok) | (with_reducible apply gLe_ok) | (with_reducible apply gGt_ok) | (with_reducible apply gGe_ok) | (with_reducible apply gInt_ok) | (with_reducible apply mulB_ok) | (with_reducible apply lim_ok) | ((with_reducible apply ite_t); (first | assumption | (exact decide_eq_true (by omega)) | (exact decide_eq_false (by omega)) | (simp only [Bool.not_eq_true', Bool.not_eq_false', Bool.not_not, decide_eq_false_iff_not, decide_eq_true_eq, Bool.false_eq_true, if_true, if_false, Bool.not_false, Bool.not_true, reduceIte]; omega) | exact rfl)) | ((with_reducible apply ite_f); (first | assumption | (exact decide_eq_true (by omega)) | (exact decide_eq_false (by omega)) | (simp only [Bool.not_eq_true', Bool.not_eq_false', Bool.not_not, decide_eq_false_iff_not, decide_eq_true_eq, Bool.false_eq_true, if_true, if_false, Bool.not_false, Bool.not_true, reduceIte]; omega) | exact rfl)) | (simp only [List.set_cons_succ, List.set_cons_zero, wipeD]; exact rfl) | (simp only [List.length_cons, List.length_nil, List.length_map, List.length_append]; omega) | (exact rfl) | (omega)))) ?_ (by omega), List.map_map]
    · rfl
    · intro r hr
      have hm : mulB r.1 (max r.2.1 r.2.2) = true := mulB_ok (by have := hb r hr; omega) (by have h := hb r hr; have := bmax h.2.1 h.2.2; omega)
      refine ⟨[some (.lst (l.map encP)), x1, some (.int r.1), some (.tup [.int r.2.1, .int r.2.2]), x4, x5, x6, x7], ?_, rfl, ?_⟩
      · (repeat' (first | (with_reducible assumption) | (with_reducible apply mVar_ok) | (with_reducible apply mC_ok) | (with_reducible apply mOp_ok) | (with_reducible apply mTest_ok) | (with_reducible apply mCons_ok) | (with_reducible apply mNil_ok) | (with_reducible apply mCall_ok) | (with_reducible apply mCallF_ok) | (with_reducible apply mSeq_eq) | (with_reducible apply seqNx) | (with_reducible apply seqRt) | (with_reducible apply mSkip_ok) | (with_reducible apply mRet_ok) | (with_reducible apply mRetN_ok) | (with_reducible apply mExpr_ok) | (with_reducible apply mAsg_ok) | (with_reducible apply mGName_ok) | (with_reducible apply mIfS_ok) | (with_reducible apply mTAnd_ok) | (with_reducible apply mTOr_ok) | (with_reducible apply mTNot_ok) | (with_reducible apply mAnd_ok) | (with_reducible apply mOr_ok) | (with_reducible apply mNot_ok) | (with_reducible apply mIf_ok) | (with_reducible apply mChain_ok) | (with_reducible apply bindO_ok) | (with_reducible apply mTup_ok) | (with_reducible apply mLst_ok) | (with_reducible apply mLst_okC) | (with_reducible apply mUn_ok) | (with_reducible apply mMet_ok) | (with_reducible apply mMetC_ok) | (with_reducible apply mGTup_ok) | (with_reducible apply mGCons_ok) | (with_reducible apply mGNil_ok) | (with_reducible apply mPar_ok) | (with_reducible apply mPar3_ok) | (with_reducible apply mSet_ok) | (with_reducible apply mSeqI_ok) | (with_reducible apply mRange1_ok) | (with_reducible apply mZip_ok) | (with_reducible apply mFrz_ok) | (with_reducible apply mFor_ok) | (with_reducible apply mCallV_ok) | (with_reducible apply gAddL) | (with_reducible apply gSumL) | (with_reducible apply gMax0) | (with_reducible apply gMax2) | (with_reducible apply gMaxP) | (with_reducible apply gAllL) | (with_reducible apply gTupL) | (with_reducible apply gTupT) | (with_reducible apply gListT) | (with_reducible apply gLenT) | (with_reducible apply gIsiT) | (with_reducible apply gIsNT) | (with_reducible apply gEqL0) | (with_reducible apply gNeL0) | (with_reducible apply gMul_ok) | (with_reducible apply gAdd_ok) | (with_reducible apply gSub_ok) | (with_reducible apply gEqI) | (with_reducible apply gNeI) | (with_reducible apply gLt_ok) | (with_reducible apply gLe_ok) | (with_reducible apply gGt_ok) | (with_reducible apply gGe_ok) | (with_reducible apply gInt_ok) | (with_reducible apply mulB_ok) | (with_reducible apply lim_ok) | ((with_reducible apply ite_t); (first | assumption | (exact decide_eq_true (by omega)) | (exact decide_eq_false (by omega)) | (simp only [Bool.not_eq_true', Bool.not_eq_false', Bool.not_not, decide_eq_false_iff_not, decide_eq_true_eq, Bool.false_eq_true, if_true, if_false, Bool.not_false, Bool.not_true, reduceIte]; omega) | exact rfl)) | ((with_reducible apply ite_f); (first | assumption | (exact decide_eq_true (by omega)) | (exact decide_eq_false (by omega)) | (simp only [Bool.not_eq_true', Bool.not_eq_false', Bool.not_not, decide_eq_false_iff_not, decide_eq_true_eq, Bool.false_eq_true, if_true, if_false, Bool.not_false, Bool.not_true, reduceIte]; omega) | exact rfl)) | (simp only [List.set_cons_succ, List.set_cons_zero, wipeD]; exact rfl) | (simp only [List.length_cons, List.length_nil, List.length_map, List.length_append]; omega) | (exact rfl) | (omega)))
      · (repeat' (first | (with_reducible assumption) | (with_reducible apply mVar_ok) | (with_reducible apply mC_ok) | (with_reducible apply mOp_ok) | (with_reducible apply mTest_ok) | (with_reducible apply mCons_ok) | (with_reducible apply mNil_ok) | (with_reducible apply mCall_ok) | (with_reducible apply mCallF_ok) | (with_reducible apply mSeq_eq) | (with_reducible apply seqNx) | (with_reducible apply seqRt) | (with_reducible apply mSkip_ok) | (with_reducible apply mRet_ok) | (with_reducible apply mRetN_ok) | (with_reducible apply mExpr_ok) | (with_reducible apply mAsg_ok) | (with_reducible apply mGName_ok) | (with_reducible apply mIfS_ok) | (with_reducible apply mTAnd_ok) | (with_reducible apply mTOr_ok) | (with_reducible apply mTNot_ok) | (with_reducible apply mAnd_ok) | (with_reducible apply mOr_ok) | (with_reducible apply mNot_ok) | (with_reducible apply mIf_ok) | (with_reducible apply mChain_ok) | (with_reducible apply bindO_ok) | (with_reducible apply mTup_ok) | (with_reducible apply mLst_ok) | (with_reducible apply mLst_okC) | (with_reducible apply mUn_ok) | (with_reducible apply mMet_ok) | (with_reducible apply mMetC_ok) | (with_reducible apply mGTup_ok) | (with_reducible apply mGCons_ok) | (with_reducible apply mGNil_ok) | (with_reducible apply mPar_ok) | (with_reducible apply mPar3_ok) | (with_reducible apply mSet_ok) | (with_reducible apply mSeqI_ok) | (with_reducible apply mRange1_ok) | (with_reducible apply mZip_ok) | (with_reducible apply mFrz_ok) | (with_reducible apply mFor_ok) | (with_reducible apply mCallV_ok) | (with_reducible apply gAddL) | (with_reducible apply gSumL) | (with_reducible apply gMax0) | (with_reducible apply gMax2) | (with_reducible apply gMaxP) | (with_reducible apply gAllL) | (with_reducible apply gTupL) | (with_reducible apply gTupT) | (with_reducible apply gListT) | (with_reducible apply gLenT) | (with_reducible apply gIsiT) | (with_reducible apply gIsNT) | (with_reducible apply gEqL0) | (with_reducible apply gNeL0) | (with_reducible apply gMul_ok) | (with_reducible apply gAdd_ok) | (with_reducible apply gSub_ok) | (with_reducible apply gEqI) | (with_reducible apply gNeI) | (with_reducible apply gLt_ok) | (with_reducible apply gLe_ok) | (with_reducible apply gGt_ok) | (with_reducible apply gGe_ok) | (with_reducible apply gInt_ok) | (with_reducible apply mulB_ok) | (with_reducible apply lim_ok) | ((with_reducible apply ite_t); (first | assumption | (exact decide_eq_true (by omega)) | (exact decide_eq_false (by omega)) | (simp only [Bool.not_eq_true', Bool.not_eq_false', Bool.not_not, decide_eq_false_iff_not, decide_eq_true_eq, Bool.false_eq_true, if_true, if_false, Bool.not_false, Bool.not_true, reduceIte]; omega) | exact rfl)) | ((with_reducible apply ite_f); (first | assumption | (exact decide_eq_true (by omega)) | (exact decide_eq_false (by omega)) | (simp only [Bool.not_eq_true', Bool.not_eq_false', Bool.not_not, decide_eq_false_iff_not, decide_eq_true_eq, Bool.false_eq_true, if_true, if_false, Bool.not_false, Bool.not_true, reduceIte]; omega) | exact rfl)) | (simp only [List.set_cons_succ, List.set_cons_zero, wipeD]; exact rfl) | (simp only [List.length_cons, List.length_nil, List.length_map, List.length_append]; omega) | (exact rfl) | (omega)))
  have q3 : ∀ x1 x4 x5 x6 x7, q_amounts_of_pairs_3 A [some (.lst (l.map encP)), x1, none, none, x4, x5, x6, x7] mu = .ok (.lst ((l.map fI).map D.int)) mu := fun x1 x4 x5 x6 x7 => by
    unfold q_amounts_of_pairs_3
    rw [mLc_map (enc := encP) (f := fun r => .int (fI r)) l (by (repeat' (first | (with_reducible assumption) | (with_reducible apply mVar_ok) | (with_reducible apply mC_ok) | (with_reducible apply mOp_ok) | (with_reducible apply mTest_ok) | (with_reducible apply mCons_ok) | (with_reducible apply mNil_ok) | (with_reducible apply mCall_ok) | (with_reducible apply mCallF_ok) | (with_reducible apply mSeq_eq) | (with_reducible apply seqNx) | (with_reducible apply seqRt) | (with_reducible apply mSkip_ok) | (with_reducible apply mRet_ok) | (with_reducible apply mRetN_ok) | (with_reducible apply mExpr_ok) | (with_reducible apply mAsg_ok) | (with_reducible apply mGName_ok) | (with_reducible apply mIfS_ok) | (with_reducible apply mTAnd_ok) | (with_reducible apply mTOr_ok) | (with_reducible apply mTNot_ok) | (with_reducible apply mAnd_ok) | (with_reducible apply mOr_ok) | (with_reducible apply mNot_ok) | (with_reducible apply mIf_ok) | (with_reducible apply mChain_ok) | (with_reducible apply bindO_ok) | (with_reducible apply mTup_ok) | (with_reducible apply mLst_ok) | (with_reducible apply mLst_okC) | (with_reducible apply mUn_ok) | (with_reducible apply mMet_ok) | (with_reducible apply mMetC_ok) | (with_reducible apply mGTup_ok) | (with_reducible apply mGCons_ok) | (with_reducible apply mGNil_ok) | (with_reducible apply mPar_ok) | (with_reducible apply mPar3_ok) | (with_reducible apply mSet_ok) | (with_reducible apply mSeqI_ok) | (with_reducible apply mRange1_ok) | (with_reducible apply mZip_ok) | (with_reducible apply mFrz_ok) | (with_reducible apply mFor_ok) | (with_reducible apply mCallV_ok) | (with_reducible apply gAddL) | (with_reducible apply gSumL) | (with_reducible apply gMax0) | (with_reducible apply gMax2) | (with_reducible apply gMaxP) | (with_reducible apply gAllL) | (with_reducible apply gTupL) | (with_reducible apply gTupT) | (with_reducible apply gListT) | (with_reducible apply gLenT) | (with_reducible apply gIsiT) | (with_reducible apply gIsNT) | (with_reducible apply gEqL0) | (with_reducible apply gNeL0) | (with_reducible apply gMul_ok) | (with_reducible apply gAdd_ok) | (with_reducible apply gSub_ok) | (with_reducible apply gEqI) | (with_reducible apply gNeI) | (with_reducible apply gLt_ok) | (with_reducible apply gLe_ok) | (with_reducible apply gGt_ok) | (with_reducible apply gGe_ok) | (with_reducible apply gInt_ok) | (with_reducible apply mulB_ok) | (with_reducible apply lim_ok) | ((with_reducible apply ite_t); (first | assumption | (exact decide_eq_true (by omega)) | (exact decide_eq_false (by omega)) | (simp only [Bool.not_eq_true', Bool.not_eq_false', Bool.not_not, decide_eq_false_iff_not, decide_eq_true_eq, Bool.false_eq_true, if_true, if_false, Bool.not_false, Bool.not_true, reduceIte]; omega) | exact rfl)) | ((with_reducible apply ite_f); (first | assumption | (exact decide_eq_true (by omega)) | (exact decide_eq_false (by omega)) | (simp only [Bool.not_eq_true', Bool.not_eq_false', Bool.not_not, decide_eq_false_iff_not, decide_eq_true_eq, Bool.false_eq_true, if_true, if_false, Bool.not_false, Bool.not_true, reduceIte]; omega) | exact rfl)) | (simp only [List.set_cons_succ, List.set_cons_zero, wipeD]; exact rfl) | (simp only [List.length_cons, List.length_nil, List.length_map, List.length_append]; omega) | (exact rfl) | (omega)))) ?_ (by omega), List.map_map]
    · rfl
    · intro r hr
      refine ⟨[some (.lst (l.map encP)), x1, some (.int r.1), some (.tup [.int r.2.1, .int r.2.2]), x4, x5, x6, x7], ?_, rfl, ?_⟩
      · (repeat' (first | (with_reducible assumption) | (with_reducible apply mVar_ok) | (with_reducible apply mC_ok) | (with_reducible apply mOp_ok) | (with_reducible apply mTest_ok) | (with_reducible apply mCons_ok) | (with_reducible apply mNil_ok) | (with_reducible apply mCall_ok) | (with_reducible apply mCallF_ok) | (with_reducible apply mSeq_eq) | (with_reducible apply seqNx) | (with_reducible apply seqRt) | (with_reducible apply mSkip_ok) | (with_reducible apply mRet_ok) | (with_reducible apply mRetN_ok) | (with_reducible apply mExpr_ok) | (with_reducible apply mAsg_ok) | (with_reducible apply mGName_ok) | (with_reducible apply mIfS_ok) | (with_reducible apply mTAnd_ok) | (with_reducible apply mTOr_ok) | (with_reducible apply mTNot_ok) | (with_reducible apply mAnd_ok) | (with_reducible apply mOr_ok) | (with_reducible apply mNot_ok) | (with_reducible apply mIf_ok) | (with_reducible apply mChain_ok) | (with_reducible apply bindO_ok) | (with_reducible apply mTup_ok) | (with_reducible apply mLst_ok) | (with_reducible apply mLst_okC) | (with_reducible apply mUn_ok) | (with_reducible apply mMet_ok) | (with_reducible apply mMetC_ok) | (with_reducible apply mGTup_ok) | (with_reducible apply mGCons_ok) | (with_reducible apply mGNil_ok) | (with_reducible apply mPar_ok) | (with_reducible apply mPar3_ok) | (with_reducible apply mSet_ok) | (with_reducible apply mSeqI_ok) | (with_reducible apply mRange1_ok) | (with_reducible apply mZip_ok) | (with_reducible apply mFrz_ok) | (with_reducible apply mFor_ok) | (with_reducible apply mCallV_ok) | (with_reducible apply gAddL) | (with_reducible apply gSumL) | (with_reducible apply gMax0) | (with_reducible apply gMax2) | (with_reducible apply gMaxP) | (with_reducible apply gAllL) | (with_reducible apply gTupL) | (with_reducible apply gTupT) | (with_reducible apply gListT) | (with_reducible apply gLenT) | (with_reducible apply gIsiT) | (with_reducible apply gIsNT) | (with_reducible apply gEqL0) | (with_reducible apply gNeL0) | (with_reducible apply gMul_ok) | (with_reducible apply gAdd_ok) | (with_reducible apply gSub_ok) | (with_reducible apply gEqI) | (with_reducible apply gNeI) | (with_reducible apply gLt_ok) | (with_reducible apply gLe_ok) | (with_reducible apply gGt_ok) | (with_reducible apply gGe_ok) | (with_reducible apply gInt_ok) | (with_reducible apply mulB_ok) | (with_reducible apply lim_ok) | ((with_reducible apply ite_t); (first | assumption | (exact decide_eq_true (by omega)) | (exact decide_eq_false (by omega)) | (simp only [Bool.not_eq_true', Bool.not_eq_false', Bool.not_not, decide_eq_false_iff_not, decide_eq_true_eq, Bool.false_eq_true, if_true, if_false, Bool.not_false, Bool.not_true, reduceIte]; omega) | exact rfl)) | ((with_reducible apply ite_f); (first | assumption | (exact decide_eq_true (by omega)) | (exact decide_eq_false (by omega)) | (simp only [Bool.not_eq_true', Bool.not_eq_false', Bool.not_not, decide_eq_false_iff_not, decide_eq_true_eq, Bool.false_eq_true, if_true, if_false, Bool.not_false, Bool.not_true, reduceIte]; omega) | exact rfl)) | (simp only [List.set_cons_succ, List.set_cons_zero, wipeD]; exact rfl) | (simp only [List.length_cons, List.length_nil, List.length_map, List.length_append]; omega) | (exact rfl) | (omega)))
      · (repeat' (first | (with_reducible assumption) | (with_reducible apply mVar_ok) | (with_reducible apply mC_ok) | (with_reducible apply mOp_ok) | (with_reducible apply mTest_ok) | (with_reducible apply mCons_ok) | (with_reducible apply mNil_ok) | (with_reducible apply mCall_ok) | (with_reducible apply mCallF_ok) | (with_reducible apply mSeq_eq) | (with_reducible apply seqNx) | (with_reducible apply seqRt) | (with_reducible apply mSkip_ok) | (with_reducible apply mRet_ok) | (with_reducible apply mRetN_ok) | (with_reducible apply mExpr_ok) | (with_reducible apply mAsg_ok) | (with_reducible apply mGName_ok) | (with_reducible apply mIfS_ok) | (with_reducible apply mTAnd_ok) | (with_reducible apply mTOr_ok) | (with_reducible apply mTNot_ok) | (with_reducible apply mAnd_ok) | (with_reducible apply mOr_ok) | (with_reducible apply mNot_ok) | (with_reducible apply mIf_ok) | (with_reducible apply mChain_ok) | (with_reducible apply bindO_ok) | (with_reducible apply mTup_ok) | (with_reducible apply mLst_ok) | (with_reducible apply mLst_okC) | (with_reducible apply mUn_ok) | (with_reducible apply mMet_ok) | (with_reducible apply mMetC_ok) | (with_reducible apply mGTup_ok) | (with_reducible apply mGCons_ok) | (with_reducible apply mGNil_ok) | (with_reducible apply mPar_ok) | (with_reducible apply mPar3_ok) | (with_reducible apply mSet_ok) | (with_reducible apply mSeqI_ok) | (with_reducible apply mRange1_ok) | (with_reducible apply mZip_ok) | (with_reducible apply mFrz_ok) | (with_reducible apply mFor_ok) | (with_reducible apply mCallV_ok) | (with_reducible apply gAddL) | (with_reducible apply gSumL) | (with_reducible apply gMax0) | (with_reducible apply gMax2) | (with_reducible apply gMaxP) | (with_reducible apply gAllL) | (with_reducible apply gTupL) | (with_reducible apply gTupT) | (with_reducible apply gListT) | (with_reducible apply gLenT) | (with_reducible apply gIsiT) | (with_reducible apply gIsNT) | (with_reducible apply gEqL0) | (with_reducible apply gNeL0) | (with_reducible apply gMul_ok) | (with_reducible apply gAdd_ok) | (with_reducible apply gSub_ok) | (with_reducible apply gEqI) | (with_reducible apply gNeI) | (with_reducible apply gLt_ok) | (with_reducible apply gLe_ok) | (with_reducible apply gGt_ok) | (with_reducible apply gGe_ok) | (with_reducible apply gInt_ok) | (with_reducible apply mulB_ok) | (with_reducible apply lim_ok) | ((with_reducible apply ite_t); (first | assumption | (exact decide_eq_true (by omega)) | (exact decide_eq_false (by omega)) | (simp only [Bool.not_eq_true', Bool.not_eq_false', Bool.not_not, decide_eq_false_iff_not, decide_eq_true_eq, Bool.false_eq_true, if_true, if_false, Bool.not_false, Bool.not_true, reduceIte]; omega) | exact rfl)) | ((with_reducible apply ite_f); (first | assumption | (exact decide_eq_true (by omega)) | (exact decide_eq_false (by omega)) | (simp only [Bool.not_eq_true', Bool.not_eq_false', Bool.not_not, decide_eq_false_iff_not, decide_eq_true_eq, Bool.false_eq_true, if_true, if_false, Bool.not_false, Bool.not_true, reduceIte]; omega) | exact rfl)) | (simp only [List.set_cons_succ, List.set_cons_zero, wipeD]; exact rfl) | (simp only [List.length_cons, List.length_nil, List.length_map, List.length_append]; omega) | (exact rfl) | (omega)))
  have q4 : ∀ x1 x4 x5 x6 x7, q_amounts_of_pairs_4 A [some (.lst (l.map encP)), x1, none, none, x4, x5, x6, x7] mu = .ok (.lst ((l.map fun r => r.2.2).map D.int)) mu := fun x1 x4 x5 x6 x7 => by
    unfold q_amounts_of_pairs_4
    rw [mLc_map (enc := encP) (f := fun r => .int (r.2.2)) l (by (repeat' (first | (with_reducible assumption) | (with_reducible apply mVar_ok) | (with_reducible apply mC_ok) | (with_reducible apply mOp_ok) | (with_reducible apply mTest_ok) | (with_reducible apply mCons_ok) | (with_reducible apply mNil_ok) | (with_reducible apply mCall_ok) | (with_reducible apply mCallF_ok) | (with_reducible apply mSeq_eq) | (with_reducible apply seqNx) | (with_reducible apply seqRt) | (with_reducible apply mSkip_ok) | (with_reducible apply mRet_ok) | (with_reducible apply mRetN_ok) | (with_reducible apply mExpr_ok) | (with_reducible apply mAsg_ok) | (with_reducible apply mGName_ok) | (with_reducible apply mIfS_ok) | (with_reducible apply mTAnd_ok) | (with_reducible apply mTOr_ok) | (with_reducible apply mTNot_ok) | (with_reducible apply mAnd_ok) | (with_reducible apply mOr_ok) | (with_reducible apply mNot_ok) | (with_reducible apply mIf_ok) | (with_reducible apply mChain_ok) | (with_reducible apply bindO_ok) | (with_reducible apply mTup_ok) | (with_reducible apply mLst_ok) | (with_reducible apply mLst_okC) | (with_reducible apply mUn_ok) | (with_reducible apply mMet_ok) | (with_reducible apply mMetC_ok) | (with_reducible apply mGTup_ok) | (with_reducible apply mGCons_ok) | (with_reducible apply mGNil_ok) | (with_reducible apply mPar_ok) | (with_reducible apply mPar3_ok) | (with_reducible apply mSet_ok) | (with_reducible apply mSeqI_ok) | (with_reducible apply mRange1_ok) | (with_reducible apply mZip_ok) | (with_reducible apply mFrz_ok) | (with_reducible apply mFor_ok) | (with_reducible apply mCallV_ok) | (with_reducible apply gAddL) | (with_reducible apply gSumL) | (with_reducible apply gMax0) | (with_reducible apply gMax2) | (with_reducible apply gMaxP) | (with_reducible apply gAllL) | (with_reducible apply gTupL) | (with_reducible apply gTupT) | (with_reducible apply gListT) | (with_reducible apply gLenT) | (with_reducible apply gIsiT) | (with_reducible apply gIsNT) | (with_reducible apply gEqL0) | (with_reducible apply gNeL0) | (with_reducible apply gMul_ok) | (with_reducible apply gAdd_ok) | (with_reducible apply gSub_ok) | (with_reducible apply gEqI) | (with_reducible apply gNeI) | (with_reducible apply gLt_ok) | (with_reducible apply gLe_ok) | (with_reducible apply gGt_ok) | (with_reducible apply gGe_ok) | (with_reducible apply gInt_ok) | (with_reducible apply mulB_ok) | (with_reducible apply lim_ok) | ((with_reducible apply ite_t); (first | assumption | (exact decide_eq_true (by omega)) | (exact decide_eq_false (by omega)) | (simp only [Bool.not_eq_true', Bool.not_eq_false', Bool.not_not, decide_eq_false_iff_not, decide_eq_true_eq, Bool.false_eq_true, if_true, if_false, Bool.not_false, Bool.not_true, reduceIte]; omega) | exact rfl)) | ((with_reducible apply ite_f); (first | assumption | (exact decide_eq_true (by omega)) | (exact decide_eq_false (by omega)) | (simp only [Bool.not_eq_true', Bool.not_eq_false', Bool.not_not, decide_eq_false_iff_not, decide_eq_true_eq, Bool.false_eq_true, if_true, if_false, Bool.not_false, Bool.not_true, reduceIte]; omega) | exact rfl)) | (simp only [List.set_cons_succ, List.set_cons_zero, wipeD]; exact rfl) | (simp only [List.length_cons, List.length_nil, List.length_map, List.length_append]; omega) | (exact rfl) | (omega)))) ?_ (by omega), List.map_map]
    · rfl
    · intro r hr
      refine ⟨[some (.lst (l.map encP)), x1, some (.int r.1), some (.tup [.int r.2.1, .int r.2.2]), x4, x5, x6, x7], ?_, rfl, ?_⟩
      · (repeat' (first | (with_reducible assumption) | (with_reducible apply mVar_ok) | (with_reducible apply mC_ok) | (with_reducible apply mOp_ok) | (with_reducible apply mTest_ok) | (with_reducible apply mCons_ok) | (with_reducible apply mNil_ok) | (with_reducible apply mCall_ok) | (with_reducible apply mCallF_ok) | (with_reducible apply mSeq_eq) | (with_reducible apply seqNx) | (with_reducible apply seqRt) | (with_reducible apply mSkip_ok) | (with_reducible apply mRet_ok) | (with_reducible apply mRetN_ok) | (with_reducible apply mExpr_ok) | (with_reducible apply mAsg_ok) | (with_reducible apply mGName_ok) | (with_reducible apply mIfS_ok) | (with_reducible apply mTAnd_ok) | (with_reducible apply mTOr_ok) | (with_reducible apply mTNot_ok) | (with_reducible apply mAnd_ok) | (with_reducible apply mOr_ok) | (with_reducible apply mNot_ok) | (with_reducible apply mIf_ok) | (with_reducible apply mChain_ok) | (with_reducible apply bindO_ok) | (with_reducible apply mTup_ok) | (with_reducible apply mLst_ok) | (with_reducible apply mLst_okC) | (with_reducible apply mUn_ok) | (with_reducible apply mMet_ok) | (with_reducible apply mMetC_ok) | (with_reducible apply mGTup_ok) | (with_reducible apply mGCons_ok) | (with_reducible apply mGNil_ok) | (with_reducible apply mPar_ok) | (with_reducible apply mPar3_ok) | (with_reducible apply mSet_ok) | (with_reducible apply mSeqI_ok) | (with_reducible apply mRange1_ok) | (with_reducible apply mZip_ok) | (with_reducible apply mFrz_ok) | (with_reducible apply mFor_ok) | (with_reducible apply mCallV_ok) | (with_reducible apply gAddL) | (with_reducible apply gSumL) | (with_reducible apply gMax0) | (with_reducible apply gMax2) | (with_reducible apply gMaxP) | (with_reducible apply gAllL) | (with_reducible apply gTupL) | (with_reducible apply gTupT) | (with_reducible apply gListT) | (with_reducible apply gLenT) | (with_reducible apply gIsiT) | (with_reducible apply gIsNT) | (with_reducible apply gEqL0) | (with_reducible apply gNeL0) | (with_reducible apply gMul_ok) | (with_reducible apply gAdd_ok) | (with_reducible apply gSub_ok) | (with_reducible apply gEqI) | (with_reducible apply gNeI) | (with_reducible apply gLt_ok) | (with_reducible apply gLe_ok) | (with_reducible apply gGt_ok) | (with_reducible apply gGe_ok) | (with_reducible apply gInt_ok) | (with_reducible apply mulB_ok) | (with_reducible apply lim_ok) | ((with_reducible apply ite_t); (first | assumption | (exact decide_eq_true (by omega)) | (exact decide_eq_false (by omega)) | (simp only [Bool.not_eq_true', Bool.not_eq_false', Bool.not_not, decide_eq_false_iff_not, decide_eq_true_eq, Bool.false_eq_true, if_true, if_false, Bool.not_false, Bool.not_true, reduceIte]; omega) | exact rfl)) | ((with_reducible apply ite_f); (first | assumption | (exact decide_eq_true (by omega)) | (exact decide_eq_false (by omega)) | (simp only [Bool.not_eq_true', Bool.not_eq_false', Bool.not_not, decide_eq_false_iff_not, decide_eq_true_eq, Bool.false_eq_true, if_true, if_false, Bool.not_false, Bool.not_true, reduceIte]; omega) | exact rfl)) | (simp only [List.set_cons_succ, List.set_cons_zero, wipeD]; exact rfl) | (simp only [List.length_cons, List.length_nil, List.length_map, List.length_append]; omega) | (exact rfl) | (omega)))
      · (repeat' (first | (with_reducible assumption) | (with_reducible apply mVar_ok) | (with_reducible apply mC_ok) | (with_reducible apply mOp_ok) | (with_reducible apply mTest_ok) | (with_reducible apply mCons_ok) | (with_reducible apply mNil_ok) | (with_reducible apply mCall_ok) | (with_reducible apply mCallF_ok) | (with_reducible apply mSeq_eq) | (with_reducible apply seqNx) | (with_reducible apply seqRt) | (with_reducible apply mSkip_ok) | (with_reducible apply mRet_ok) | (with_reducible apply mRetN_ok) | (with_reducible apply mExpr_ok) | (with_reducible apply mAsg_ok) | (with_reducible apply mGName_ok) | (with_reducible apply mIfS_ok) | (with_reducible apply mTAnd_ok) | (with_reducible apply mTOr_ok) | (with_reducible apply mTNot_ok) | (with_reducible apply mAnd_ok) | (with_reducible apply mOr_ok) | (with_reducible apply mNot_ok) | (with_reducible apply mIf_ok) | (with_reducible apply mChain_ok) | (with_reducible apply bindO_ok) | (with_reducible apply mTup_ok) | (with_reducible apply mLst_ok) | (with_reducible apply mLst_okC) | (with_reducible apply mUn_ok) | (with_reducible apply mMet_ok) | (with_reducible apply mMetC_ok) | (with_reducible apply mGTup_ok) | (with_reducible apply mGCons_ok) | (with_reducible apply mGNil_ok) | (with_reducible apply mPar_ok) | (with_reducible apply mPar3_ok) | (with_reducible apply mSet_ok) | (with_reducible apply mSeqI_ok) | (with_reducible apply mRange1_ok) | (with_reducible apply mZip_ok) | (with_reducible apply mFrz_ok) | (with_reducible apply mFor_ok) | (with_reducible apply mCallV_ok) | (with_reducible apply gAddL) | (with_reducible apply gSumL) | (with_reducible apply gMax0) | (with_reducible apply gMax2) | (with_reducible apply gMaxP) | (with_reducible apply gAllL) | (with_reducible apply gTupL) | (with_reducible apply gTupT) | (with_reducible apply gListT) | (with_reducible apply gLenT) | (with_reducible apply gIsiT) | (with_reducible apply gIsNT) | (with_reducible apply gEqL0) | (with_reducible apply gNeL0) | (with_reducible apply gMul_ok) | (with_reducible apply gAdd_ok) | (with_reducible apply gSub_ok) | (with_reducible apply gEqI) | (with_reducible apply gNeI) | (with_reducible apply gLt_ok) | (with_reducible apply gLe_ok) | (with_reducible apply gGt_ok) | (with_reducible apply gGe_ok) | (with_reducible apply gInt_ok) | (with_reducible apply mulB_ok) | (with_reducible apply lim_ok) | ((with_reducible apply ite_t); (first | assumption | (exact decide_eq_true (by omega)) | (exact decide_eq_false (by omega)) | (simp only [Bool.not_eq_true', Bool.not_eq_false', Bool.not_not, decide_eq_false_iff_not, decide_eq_true_eq, Bool.false_eq_true, if_true, if_false, Bool.not_false, Bool.not_true, reduceIte]; omega) | exact rfl)) | ((with_reducible apply ite_f); (first | assumption | (exact decide_eq_true (by omega)) | (exact decide_eq_false (by omega)) | (simp only [Bool.not_eq_true', Bool.not_eq_false', Bool.not_not, decide_eq_false_iff_not, decide_eq_true_eq, Bool.false_eq_true, if_true, if_false, Bool.not_false, Bool.not_true, reduceIte]; omega) | exact rfl)) | (simp only [List.set_cons_succ, List.set_cons_zero, wipeD]; exact rfl) | (simp only [List.length_cons, List.length_nil, List.length_map, List.length_append]; omega) | (exact rfl) | (omega)))
  have q5 : ∀ x1 x4 x5 x6 x7, q_amounts_of_pairs_5 A [some (.lst (l.map encP)), x1, none, none, x4, x5, x6, x7] mu = .ok (.lst ((l.map fun r => r.2.1).map D.int)) mu := fun x1 x4 x5 x6 x7 => by
    unfold q_amounts_of_pairs_5
    rw [mLc_map (enc := encP) (f := fun r => .int (r.2.1)) l (by (repeat' (first | (with_reducible assumption) | (with_reducible apply mVar_ok) | (with_reducible apply mC_ok) | (with_reducible apply mOp_ok) | (with_reducible apply mTest_ok) | (with_reducible apply mCons_ok) | (with_reducible apply mNil_ok) | (with_reducible apply mCall_ok) | (with_reducible apply mCallF_ok) | (with_reducible apply mSeq_eq) | (with_reducible apply seqNx) | (with_reducible apply seqRt) | (with_reducible apply mSkip_ok) | (with_reducible apply mRet_ok) | (with_reducible apply mRetN_ok) | (with_reducible apply mExpr_ok) | (with_reducible apply mAsg_ok) | (with_reducible apply mGName_ok) | (with_reducible apply mIfS_ok) | (with_reducible apply mTAnd_ok) | (with_reducible apply mTOr_ok) | (with_reducible apply mTNot_ok) | (with_reducible apply mAnd_ok) | (with_reducible apply mOr_ok) | (with_reducible apply mNot_ok) | (with_reducible apply mIf_ok) | (with_reducible apply mChain_ok) | (with_reducible apply bindO_ok) | (with_reducible apply mTup_ok) | (with_reducible apply mLst_ok) | (with_reducible apply mLst_okC) | (with_reducible apply mUn_ok) | (with_reducible apply mMet_ok) | (with_reducible apply mMetC_ok) | (with_reducible apply mGTup_ok) | (with_reducible apply mGCons_ok) | (with_reducible apply mGNil_ok) | (with_reducible apply mPar_ok) | (with_reducible apply mPar3_ok) | (with_reducible apply mSet_ok) | (with_reducible apply mSeqI_ok) | (with_reducible apply mRange1_ok) | (with_reducible apply mZip_ok) | (with_reducible apply mFrz_ok) | (with_reducible apply mFor_ok) | (with_reducible apply mCallV_ok) | (with_reducible apply gAddL) | (with_reducible apply gSumL) | (with_reducible apply gMax0) | (with_reducible apply gMax2) | (with_reducible apply gMaxP) | (with_reducible apply gAllL) | (with_reducible apply gTupL) | (with_reducible apply gTupT) | (with_reducible apply gListT) | (with_reducible apply gLenT) | (with_reducible apply gIsiT) | (with_reducible apply gIsNT) | (with_reducible apply gEqL0) | (with_reducible apply gNeL0) | (with_reducible apply gMul_ok) | (with_reducible apply gAdd_ok) | (with_reducible apply gSub_ok) | (with_reducible apply gEqI) | (with_reducible apply gNeI) | (with_reducible apply gLt_ok) | (with_reducible apply gLe_ok) | (with_reducible apply gGt_ok) | (with_reducible apply gGe_ok) | (with_reducible apply gInt_ok) | (with_reducible apply mulB_ok) | (with_reducible apply lim_ok) | ((with_reducible apply ite_t); (first | assumption | (exact decide_eq_true (by omega)) | (exact decide_eq_false (by omega)) | (simp only [Bool.not_eq_true', Bool.not_eq_false', Bool.not_not, decide_eq_false_iff_not, decide_eq_true_eq, Bool.false_eq_true, if_true, if_false, Bool.not_false, Bool.not_true, reduceIte]; omega) | exact rfl)) | ((with_reducible apply ite_f); (first | assumption | (exact decide_eq_true (by omega)) | (exact decide_eq_false (by omega)) | (simp only [Bool.not_eq_true', Bool.not_eq_false', Bool.not_not, decide_eq_false_iff_not, decide_eq_true_eq, Bool.false_eq_true, if_true, if_false, Bool.not_false, Bool.not_true, reduceIte]; omega) | exact rfl)) | (simp only [List.set_cons_succ, List.set_cons_zero, wipeD]; exact rfl) | (simp only [List.length_cons, List.length_nil, List.length_map, List.length_append]; omega) | (exact rfl) | (omega)))) ?_ (by omega), List.map_map]
    · rfl
    · intro r hr
      refine ⟨[some (.lst (l.map encP)), x1, some (.int r.1), some (.tup [.int r.2.1, .int r.2.2]), x4, x5, x6, x7], ?_, rfl, ?_⟩
      · (repeat' (first | (with_reducible assumption) | (with_reducible apply mVar_ok) | (with_reducible apply mC_ok) | (with_reducible apply mOp_ok) | (with_reducible apply mTest_ok) | (with_reducible apply mCons_ok) | (with_reducible apply mNil_ok) | (with_reducible apply mCall_ok) | (with_reducible apply mCallF_ok) | (with_reducible apply mSeq_eq) | (with_reducible apply seqNx) | (with_reducible apply seqRt) | (with_reducible apply mSkip_ok) | (with_reducible apply mRet_ok) | (with_reducible apply mRetN_ok) | (with_reducible apply mExpr_ok) | (with_reducible apply mAsg_ok) | (with_reducible apply mGName_ok) | (with_reducible apply mIfS_ok) | (with_reducible apply mTAnd_ok) | (with_reducible apply mTOr_ok) | (with_reducible apply mTNot_ok) | (with_reducible apply mAnd_ok) | (with_reducible apply mOr_ok) | (with_reducible apply mNot_ok) | (with_reducible apply mIf_ok) | (with_reducible apply mChain_ok) | (with_reducible apply bindO_ok) | (with_reducible apply mTup_ok) | (with_reducible apply mLst_ok) | (with_reducible apply mLst_okC) | (with_reducible apply mUn_ok) | (with_reducible apply mMet_ok) | (with_reducible apply mMetC_ok) | (with_reducible apply mGTup_ok) | (with_reducible apply mGCons_ok) | (with_reducible apply mGNil_ok) | (with_reducible apply mPar_ok) | (with_reducible apply mPar3_ok) | (with_reducible apply mSet_ok) | (with_reducible apply mSeqI_ok) | (with_reducible apply mRange1_ok) | (with_reducible apply mZip_ok) | (with_reducible apply mFrz_ok) | (with_reducible apply mFor_ok) | (with_reducible apply mCallV_ok) | (with_reducible apply gAddL) | (with_reducible apply gSumL) | (with_reducible apply gMax0) | (with_reducible apply gMax2) | (with_reducible apply gMaxP) | (with_reducible apply gAllL) | (with_reducible apply gTupL) | (with_reducible apply gTupT) | (with_reducible apply gListT) | (with_reducible apply gLenT) | (with_reducible apply gIsiT) | (with_reducible apply gIsNT) | (with_reducible apply gEqL0) | (with_reducible apply gNeL0) | (with_reducible apply gMul_ok) | (with_reducible apply gAdd_ok) | (with_reducible apply gSub_ok) | (with_reducible apply gEqI) | (with_reducible apply gNeI) | (with_reducible apply gLt_ok) | (with_reducible apply gLe_ok) | (with_reducible apply gGt_ok) | (with_reducible apply gGe_ok) | (with_reducible apply gInt_ok) | (with_reducible apply mulB_ok) | (with_reducible apply lim_ok) | ((with_reducible apply ite_t); (first | assumption | (exact decide_eq_true (by omega)) | (exact decide_eq_false (by omega)) | (simp only [Bool.not_eq_true', Bool.not_eq_false', Bool.not_not, decide_eq_false_iff_not, decide_eq_true_eq, Bool.false_eq_true, if_true, if_false, Bool.not_false, Bool.not_true, reduceIte]; omega) | exact rfl)) | ((with_reducible apply ite_f); (first | assumption | (exact decide_eq_true (by omega)) | (exact decide_eq_false (by omega)) | (simp only [Bool.not_eq_true', Bool.not_eq_false', Bool.not_not, decide_eq_false_iff_not, decide_eq_true_eq, Bool.false_eq_true, if_true, if_false, Bool.not_false, Bool.not_true, reduceIte]; omega) | exact rfl)) | (simp only [List.set_cons_succ, List.set_cons_zero, wipeD]; exact rfl) | (simp only [List.length_cons, List.length_nil, List.length_map, List.length_append]; omega) | (exact rfl) | (omega)))
      · (repeat' (first | (with_reducible assumption) | (with_reducible apply mVar_ok) | (with_reducible apply mC_ok) | (with_reducible apply mOp_ok) | (with_reducible apply mTest_ok) | (with_reducible apply mCons_ok) | (with_reducible apply mNil_ok) | (with_reducible apply mCall_ok) | (with_reducible apply mCallF_ok) | (with_reducible apply mSeq_eq) | (with_reducible apply seqNx) | (with_reducible apply seqRt) | (with_reducible apply mSkip_ok) | (with_reducible apply mRet_ok) | (with_reducible apply mRetN_ok) | (with_reducible apply mExpr_ok) | (with_reducible apply mAsg_ok) | (with_reducible apply mGName_ok) | (with_reducible apply mIfS_ok) | (with_reducible apply mTAnd_ok) | (with_reducible apply mTOr_ok) | (with_reducible apply mTNot_ok) | (with_reducible apply mAnd_ok) | (with_reducible apply mOr_ok) | (with_reducible apply mNot_ok) | (with_reducible apply mIf_ok) | (with_reducible apply mChain_ok) | (with_reducible apply bindO_ok) | (with_reducible apply mTup_ok) | (with_reducible apply mLst_ok) | (with_reducible apply mLst_okC) | (with_reducible apply mUn_ok) | (with_reducible apply mMet_ok) | (with_reducible apply mMetC_ok) | (with_reducible apply mGTup_ok) | (with_reducible apply mGCons_ok) | (with_reducible apply mGNil_ok) | (with_reducible apply mPar_ok) | (with_reducible apply mPar3_ok) | (with_reducible apply mSet_ok) | (with_reducible apply mSeqI_ok) | (with_reducible apply mRange1_ok) | (with_reducible apply mZip_ok) | (with_reducible apply mFrz_ok) | (with_reducible apply mFor_ok) | (with_reducible apply mCallV_ok) | (with_reducible apply gAddL) | (with_reducible apply gSumL) | (with_reducible apply gMax0) | (with_reducible apply gMax2) | (with_reducible apply gMaxP) | (with_reducible apply gAllL) | (with_reducible apply gTupL) | (with_reducible apply gTupT) | (with_reducible apply gListT) | (with_reducible apply gLenT) | (with_reducible apply gIsiT) | (with_reducible apply gIsNT) | (with_reducible apply gEqL0) | (with_reducible apply gNeL0) | (with_reducible apply gMul_ok) | (with_reducible apply gAdd_ok) | (with_reducible apply gSub_ok) | (with_reducible apply gEqI) | (with_reducible apply gNeI) | (with_reducible apply gLt_ok) | (with_reducible apply gLe_ok) | (with_reducible apply gGt_ok) | (with_reducible apply gGe_ok) | (with_reducible apply gInt_ok) | (with_reducible apply mulB_ok) | (with_reducible apply lim_ok) | ((with_reducible apply ite_t); (first | assumption | (exact decide_eq_true (by omega)) | (exact decide_eq_false (by omega)) | (simp only [Bool.not_eq_true', Bool.not_eq_false', Bool.not_not, decide_eq_false_iff_not, decide_eq_true_eq, Bool.false_eq_true, if_true, if_false, Bool.not_false, Bool.not_true, reduceIte]; omega) | exact rfl)) | ((with_reducible apply ite_f); (first | assumption | (exact decide_eq_true (by omega)) | (exact decide_eq_false (by omega)) | (simp only [Bool.not_eq_true', Bool.not_eq_false', Bool.not_not, decide_eq_false_iff_not, decide_eq_true_eq, Bool.false_eq_true, if_true, if_false, Bool.not_false, Bool.not_true, reduceIte]; omega) | exact rfl)) | (simp only [List.set_cons_succ, List.set_cons_zero, wipeD]; exact rfl) | (simp only [List.length_cons, List.length_nil, List.length_map, List.length_append]; omega) | (exact rfl) | (omega)))
  have hlim : ∀ f : Int × Int × Int → Int, lim ([D.int 0].length + ((l.map f).map D.int).length) = true := fun f => lim_ok (by simp; omega)
  unfold m_amounts_of_pairs
  (repeat' (first | (with_reducible assumption) | (with_reducible exact q1 _ _ _ _ _) | (with_reducible exact q2 _ _ _ _ _) | (with_reducible exact q3 _ _ _ _ _) | (with_reducible exact q4 _ _ _ _ _) | (with_reducible exact q5 _ _ _ _ _) | (with_reducible exact hlim _) | (with_reducible apply mVar_ok) | (with_reducible apply mC_ok) | (with_reducible apply mOp_ok) | (with_reducible apply mTest_ok) | (with_reducible apply mCons_ok) | (with_reducible apply mNil_ok) | (with_reducible apply mCall_ok) | (with_reducible apply mCallF_ok) | (with_reducible apply mSeq_eq) | (with_reducible apply seqNx) | (with_reducible apply seqRt) | (with_reducible apply mSkip_ok) | (with_reducible apply mRet_ok) | (with_reducible apply mRetN_ok) | (with_reducible apply mExpr_ok) | (with_reducible apply mAsg_ok) | (with_reducible apply mGName_ok) | (with_reducible apply mIfS_ok) | (with_reducible apply mTAnd_ok) | (with_reducible apply mTOr_ok) | (with_reducible apply mTNot_ok) | (with_reducible apply mAnd_ok) | (with_reducible apply mOr_ok) | (with_reducible apply mNot_ok) | (with_reducible apply mIf_ok) | (with_reducible apply mChain_ok) | (with_reducible apply bindO_ok) | (with_reducible apply mTup_ok) | (with_reducible apply mLst_ok) | (with_reducible apply mLst_okC) | (with_reducible apply mUn_ok) | (with_reducible apply mMet_ok) | (with_reducible apply mMetC_ok) | (with_reducible apply mGTup_ok) | (with_reducible apply mGCons_ok) | (with_reducible apply mGNil_ok) | (with_reducible apply mPar_ok) | (with_reducible apply mPar3_ok) | (with_reducible apply mSet_ok) | (with_reducible apply mSeqI_ok) | (with_reducible apply mRange1_ok) | (with_reducible apply mZip_ok) | (with_reducible apply mFrz_ok) | (with_reducible apply mFor_ok) | (with_reducible apply mCallV_ok) | (with_reducible apply gAddL) | (with_reducible apply gSumL) | (with_reducible apply gMax0) | (with_reducible apply gMax2) | (with_reducible apply gMaxP) | (with_reducible apply gAllL) | (with_reducible apply gTupL) | (with_reducible apply gTupT) | (with_reducible apply gListT) | (with_reducible apply gLenT) | (with_reducible apply gIsiT) | (with_reducible apply gIsNT) | (with_reducible apply gEqL0) | (with_reducible apply gNeL0) | (with_reducible apply gMul_ok) | (with_reducible apply gAdd_ok) | (with_reducible apply gSub_ok) | (with_reducible apply gEqI) | (with_reducible apply gNeI) | (with_reducible apply gLt_ok) | (with_reducible apply gLe_ok) | (with_reducible apply gGt_ok) | (with_reducible apply gGe_ok) | (with_reducible apply gInt_ok) | (with_reducible apply mulB_ok) | (with_reducible apply lim_ok) | ((with_reducible apply ite_t); (first | assumption | (exact decide_eq_true (by omega)) | (exact decide_eq_false (by omega)) | (simp only [Bool.not_eq_true', Bool.not_eq_false', Bool.not_not, decide_eq_false_iff_not, decide_eq_true_eq, Bool.false_eq_true, if_true, if_false, Bool.not_false, Bool.not_true, reduceIte]; omega) | exact rfl)) | ((with_reducible apply ite_f); (first | assumption | (exact decide_eq_true (by omega)) | (exact decide_eq_false (by omega)) | (simp only [Bool.not_eq_true', Bool.not_eq_false', Bool.not_not, decide_eq_false_iff_not, decide_eq_true_eq, Bool.false_eq_true, if_true, if_false, Bool.not_false, Bool.not_true, reduceIte]; omega) | exact rfl)) | (simp only [List.set_cons_succ, List.set_cons_zero, wipeD]; exact rfl) | (simp only [List.length_cons, List.length_nil, List.length_map, List.length_append]; omega) | (exact rfl) | (omega)))
theorem e_amountsN (l : List (Int × Int)) (h : ∀ r ∈ l, 1 ≤ r.1 ∧ 0 ≤ r.2) (hb : BN l) (hl : l.length ≤ 1000) : d_amounts A [.lst (l.map encN)] mu = .ok (five (sN l) (sN l) (mN l) (mN l) (mN l)) mu := by
  refine denF_rt (env0 := [some (.lst (l.map encN))]) rfl ?_
  have k := e_amtN (A := A) (mu := mu) l hb hl
  have k2 := e_runsN (A := A) (mu := mu) l h
  unfold m_amounts
  (repeat' (first | (with_reducible assumption) | (with_reducible apply mVar_ok) | (with_reducible apply mC_ok) | (with_reducible apply mOp_ok) | (with_reducible apply mTest_ok) | (with_reducible apply mCons_ok) | (with_reducible apply mNil_ok) | (with_reducible apply mCall_ok) | (with_reducible apply mCallF_ok) | (with_reducible apply mSeq_eq) | (with_reducible apply seqNx) | (with_reducible apply seqRt) | (with_reducible apply mSkip_ok) | (with_reducible apply mRet_ok) | (with_reducible apply mRetN_ok) | (with_reducible apply mExpr_ok) | (with_reducible apply mAsg_ok) | (with_reducible apply mGName_ok) | (with_reducible apply mIfS_ok) | (with_reducible apply mTAnd_ok) | (with_reducible apply mTOr_ok) | (with_reducible apply mTNot_ok) | (with_reducible apply mAnd_ok) | (with_reducible apply mOr_ok) | (with_reducible apply mNot_ok) | (with_reducible apply mIf_ok) | (with_reducible apply mChain_ok) | (with_reducible apply bindO_ok) | (with_reducible apply mTup_ok) | (with_reducible apply mLst_ok) | (with_reducible apply mLst_okC) | (with_reducible apply mUn_ok) | (with_reducible apply mMet_ok) | (with_reducible apply mMetC_ok) | (with_reducible apply mGTup_ok) | (with_reducible apply mGCons_ok) | (with_reducible apply mGNil_ok) | (with_reducible apply mPar_ok) | (with_reducible apply mPar3_ok) | (with_reducible apply mSet_ok) | (with_reducible apply mSeqI_ok) | (with_reducible apply mRange1_ok) | (with_reducible apply mZip_ok) | (with_reducible apply mFrz_ok) | (with_reducible apply mFor_ok) | (with_reducible apply mCallV_ok) | (with_reducible apply gAddL) | (with_reducible apply gSumL) | (with_reducible apply gMax0) | (with_reducible apply gMax2) | (with_reducible apply gMaxP) | (with_reducible apply gAllL) | (with_reducible apply gTupL) | (with_reducible apply gTupT) | (with_reducible apply gListT) | (with_reducible apply gLenT) | (with_reducible apply gIsiT) | (with_reducible apply gIsNT) | (with_reducible apply gEqL0) | (with_reducible apply gNeL0) | (with_reducible apply gMul_ok) | (with_reducible apply gAdd_ok) | (with_reducible apply gSub_ok) | (with_reducible apply gEqI) | (with_reducible apply gNeI) | (with_reducible apply gLt_ok) | (with_reducible apply gLe_ok) | (with_reducible apply gGt_ok) | (with_reducible apply gGe_ok) | (with_reducible apply gInt_ok) | (with_reducible apply mulB_ok) | (with_reducible apply lim_ok) | ((with_reducible apply ite_t); (first | assumption | (exact decide_eq_true (by omega)) | (exact decide_eq_false (by omega)) | (simp only [Bool.not_eq_true', Bool.not_eq_false', Bool.not_not, decide_eq_false_iff_not, decide_eq_true_eq, Bool.false_eq_true, if_true, if_false, Bool.not_false, Bool.not_true, reduceIte]; omega) | exact rfl)) | ((with_reducible apply ite_f); (first | assumption | (exact decide_eq_true (by omega)) | (exact decide_eq_false (by omega)) | (simp only [Bool.not_eq_true', Bool.not_eq_false', Bool.not_not, decide_eq_false_iff_not, decide_eq_true_eq, Bool.false_eq_true, if_true, if_false, Bool.not_false, Bool.not_true, reduceIte]; omega) | exact rfl)) | (simp only [List.set_cons_succ, List.set_cons_zero, wipeD]; exact rfl) | (simp only [List.length_cons, List.length_nil, List.length_map, List.length_append]; omega) | (exact rfl) | (omega)))
theorem e_amountsP (l : List (Int × Int × Int)) (h : ∀ r ∈ l, 1 ≤ r.1 ∧ 0 ≤ r.2.1 ∧ 0 ≤ r.2.2) (hb : BP l) (hl : l.length ≤ 1000) : d_amounts A [.lst (l.map encP)] mu = .ok (five (sE l) (sR l) (mI l) (max (mA l) (mB l)) (mA l + mB l)) mu := by
  by_cases hne : l = []
  · subst hne
    exact e_amountsN [] (by simp) (fun r hr => by simp at hr) (by simp)
  refine denF_rt (env0 := [some (.lst (l.map encP))]) rfl ?_
  have k := e_amtP (A := A) (mu := mu) l hb hl
  have k1 := e_runsF (A := A) (mu := mu) l (fun r hr => (h r hr).1) hne
  have k2 := e_runsP (A := A) (mu := mu) l h
  unfold m_amounts
  (repeat' (first | (with_reducible assumption) | (with_reducible apply mVar_ok) | (with_reducible apply mC_ok) | (with_reducible apply mOp_ok) | (with_reducible apply mTest_ok) | (with_reducible apply mCons_ok) | (with_reducible apply mNil_ok) | (with_reducible apply mCall_ok) | (with_reducible apply mCallF_ok) | (with_reducible apply mSeq_eq) | (with_reducible apply seqNx) | (with_reducible apply seqRt) | (with_reducible apply mSkip_ok) | (with_reducible apply mRet_ok) | (with_reducible apply mRetN_ok) | (with_reducible apply mExpr_ok) | (with_reducible apply mAsg_ok) | (with_reducible apply mGName_ok) | (with_reducible apply mIfS_ok) | (with_reducible apply mTAnd_ok) | (with_reducible apply mTOr_ok) | (with_reducible apply mTNot_ok) | (with_reducible apply mAnd_ok) | (with_reducible apply mOr_ok) | (with_reducible apply mNot_ok) | (with_reducible apply mIf_ok) | (with_reducible apply mChain_ok) | (with_reducible apply bindO_ok) | (with_reducible apply mTup_ok) | (with_reducible apply mLst_ok) | (with_reducible apply mLst_okC) | (with_reducible apply mUn_ok) | (with_reducible apply mMet_ok) | (with_reducible apply mMetC_ok) | (with_reducible apply mGTup_ok) | (with_reducible apply mGCons_ok) | (with_reducible apply mGNil_ok) | (with_reducible apply mPar_ok) | (with_reducible apply mPar3_ok) | (with_reducible apply mSet_ok) | (with_reducible apply mSeqI_ok) | (with_reducible apply mRange1_ok) | (with_reducible apply mZip_ok) | (with_reducible apply mFrz_ok) | (with_reducible apply mFor_ok) | (with_reducible apply mCallV_ok) | (with_reducible apply gAddL) | (with_reducible apply gSumL) | (with_reducible apply gMax0) | (with_reducible apply gMax2) | (with_reducible apply gMaxP) | (with_reducible apply gAllL) | (with_reducible apply gTupL) | (with_reducible apply gTupT) | (with_reducible apply gListT) | (with_reducible apply gLenT) | (with_reducible apply gIsiT) | (with_reducible apply gIsNT) | (with_reducible apply gEqL0) | (with_reducible apply gNeL0) | (with_reducible apply gMul_ok) | (with_reducible apply gAdd_ok) | (with_reducible apply gSub_ok) | (with_reducible apply gEqI) | (with_reducible apply gNeI) | (with_reducible apply gLt_ok) | (with_reducible apply gLe_ok) | (with_reducible apply gGt_ok) | (with_reducible apply gGe_ok) | (with_reducible apply gInt_ok) | (with_reducible apply mulB_ok) | (with_reducible apply lim_ok) | ((with_reducible apply ite_t); (first | assumption | (exact decide_eq_true (by omega)) | (exact decide_eq_false (by omega)) | (simp only [Bool.not_eq_true', Bool.not_eq_false', Bool.not_not, decide_eq_false_iff_not, decide_eq_true_eq, Bool.false_eq_true, if_true, if_false, Bool.not_false, Bool.not_true, reduceIte]; omega) | exact rfl)) | ((with_reducible apply ite_f); (first | assumption | (exact decide_eq_true (by omega)) | (exact decide_eq_false (by omega)) | (simp only [Bool.not_eq_true', Bool.not_eq_false', Bool.not_not, decide_eq_false_iff_not, decide_eq_true_eq, Bool.false_eq_true, if_true, if_false, Bool.not_false, Bool.not_true, reduceIte]; omega) | exact rfl)) | (simp only [List.set_cons_succ, List.set_cons_zero, wipeD]; exact rfl) | (simp only [List.length_cons, List.length_nil, List.length_map, List.length_append]; omega) | (exact rfl) | (omega)))

/-! kinds -/
abbrev WL : List Str := ["every", "rows", "item", "most", "table"]
def wv (e r i m t : Int) (w : Str) : Int := ([e, r, i, m, t])[(idxS w WL).getD 0]?.getD 0
section
variable {e r i m t : Int}
theorem wvE : wv e r i m t "every" = e := by kernel_rfl
theorem wvR : wv e r i m t "rows" = r := by kernel_rfl
theorem wvI : wv e r i m t "item" = i := by kernel_rfl
theorem wvM : wv e r i m t "most" = m := by kernel_rfl
theorem wvT : wv e r i m t "table" = t := by kernel_rfl
theorem ixW {w : Str} (hw : w ∈ WL) : ∃ j : Int, (∀ mu : Mu, gIndex mu c_WORDS [.str w] = some (.int j, mu)) ∧ ∀ mu : Mu, gIx mu (five e r i m t) (.int j) = some (.int (wv e r i m t w), mu) := by
  simp only [WL, List.mem_cons, List.not_mem_nil, or_false] at hw
  rcases hw with rfl | rfl | rfl | rfl | rfl
  · exact ⟨0, fun _ => by kernel_rfl, fun _ => by rw [wvE]; rfl⟩
  · exact ⟨1, fun _ => by kernel_rfl, fun _ => by rw [wvR]; rfl⟩
  · exact ⟨2, fun _ => by kernel_rfl, fun _ => by rw [wvI]; rfl⟩
  · exact ⟨3, fun _ => by kernel_rfl, fun _ => by rw [wvM]; rfl⟩
  · exact ⟨4, fun _ => by kernel_rfl, fun _ => by rw [wvT]; rfl⟩
/-- amounts that may be counted with -/
structure Am (e r i m t : Int) : Prop where
  pe : 0 ≤ e
  pr : 0 ≤ r
  pi : 0 ≤ i
  pm : 0 ≤ m
  pt : 0 ≤ t
  be : Builtin.Int.intBits e ≤ 10000000
  br : Builtin.Int.intBits r ≤ 10000000
  bi : Builtin.Int.intBits i ≤ 10000000
  bm : Builtin.Int.intBits m ≤ 10000000
  bt : Builtin.Int.intBits t ≤ 10000000
theorem Am.wv (a : Am e r i m t) {w : Str} (hw : w ∈ WL) : Builtin.Int.intBits (wv e r i m t w) ≤ 10000000 := by
  simp only [WL, List.mem_cons, List.not_mem_nil, or_false] at hw
  rcases hw with rfl | rfl | rfl | rfl | rfl
  · rw [wvE]; exact a.be
  · rw [wvR]; exact a.br
  · rw [wvI]; exact a.bi
  · rw [wvM]; exact a.bm
  · rw [wvT]; exact a.bt
abbrev encT (q : Str × Int) : D := .tup [.str q.1, .int q.2]
def okT (q : Str × Int) : Prop := q.1 ∈ WL ∧ Builtin.Int.intBits q.2 ≤ 100
def wSum (e r i m t : Int) (l : List (Str × Int)) : Int := (l.map fun q => q.2 * wv e r i m t q.1).sum
theorem e_worth (a : Am e r i m t) (l : List (Str × Int)) (h : ∀ q ∈ l, okT q) (hl : l.length ≤ 1000) : d_worth_of A [.tup (l.map encT), five e r i m t] mu = .ok (.int (wSum e r i m t l)) mu := by
  refine denF_rt (env0 := [some (.tup (l.map encT)), some (five e r i m t), none, none]) rfl ?_
  have q1 : q_worth_of_1 A [some (.tup (l.map encT)), some (five e r i m t), none, none] mu = .ok (.lst ((l.map fun q => q.2 * wv e r i m t q.1).map D.int)) mu := by
    unfold q_worth_of_1
    rw [mLc_map (enc := encT) (f := fun q => .int (q.2 * wv e r i m t q.1)) l (by (repeat' (first | (with_reducible assumption) | (with_reducible apply mVar_ok) | (with_reducible apply mC_ok) | (with_reducible apply mOp_ok) | (with_reducible apply mTest_ok) | (with_reducible apply mCons_ok) | (with_reducible apply mNil_ok) | (with_reducible apply mCall_ok) | (with_reducible apply mCallF_ok) | (with_reducible apply mSeq_eq) | (with_reducible apply seqNx) | (with_reducible apply seqRt) | (with_reducible apply mSkip_ok) | (with_reducible apply mRet_ok) | (with_reducible apply mRetN_ok) | (with_reducible apply mExpr_ok) | (with_reducible apply mAsg_ok) | (with_reducible apply mGName_ok) | (with_reducible apply mIfS_ok) | (with_reducible apply mTAnd_ok) | (with_reducible apply mTOr_ok) | (with_reducible apply mTNot_ok) | (with_reducible apply mAnd_ok) | (with_reducible apply mOr_ok) | (with_reducible apply mNot_ok) | (with_reducible apply mIf_ok) | (with_reducible apply mChain_ok) | (with_reducible apply bindO_ok) | (with_reducible apply mTup_ok) | (with_reducible apply mLst_ok) | (with_reducible apply mLst_okC) | (with_reducible apply mUn_ok) | (with_reducible apply mMet_ok) | (with_reducible apply mMetC_ok) | (with_reducible apply mGTup_ok) | (with_reducible apply mGCons_ok) | (with_reducible apply mGNil_ok) | (with_reducible apply mPar_ok) | (with_reducible apply mPar3_ok) | (with_reducible apply mSet_ok) | (with_reducible apply mSeqI_ok) | (with_reducible apply mRange1_ok) | (with_reducible apply mZip_ok) | (with_reducible apply mFrz_ok) | (with_reducible apply mFor_ok) | (with_reducible apply mCallV_ok) | (with_reducible apply gAddL) | (with_reducible apply gSumL) | (with_reducible apply gMax0) | (with_reducible apply gMax2) | (with_reducible apply gMaxP) | (with_reducible apply gAllL) | (with_reducible apply gTupL) | (with_reducible apply gTupT) | (with_reducible apply gListT) | (with_reducible apply gLenT) | (with_reducible apply gIsiT) | (with_reducible apply gIsNT) | (with_reducible apply gEqL0) | (with_reducible apply gNeL0) | (with_reducible apply gMul_ok) | (with_reducible apply gAdd_ok) | (with_reducible apply gSub_ok) | (with_reducible apply gEqI) | (with_reducible apply gNeI) | (with_reducible apply gLt_ok) | (with_reducible apply gLe_ok) | (with_reducible apply gGt_ok) | (with_reducible apply gGe_ok) | (with_reducible apply gInt_ok) | (with_reducible apply mulB_ok) | (with_reducible apply lim_ok) | ((with_reducible apply ite_t); (first | assumption | (exact decide_eq_true (by omega)) | (exact decide_eq_false (by omega)) | (simp only [Bool.not_eq_true', Bool.not_eq_false', Bool.not_not, decide_eq_false_iff_not, decide_eq_true_eq, Bool.false_eq_true, if_true, if_false, Bool.not_false, Bool.not_true, reduceIte]; omega) | exact rfl)) | ((with_reducible apply ite_f); (first | assumption | (exact decide_eq_true (by omega)) | (exact decide_eq_false (by omega)) | (simp only [Bool.not_eq_true', Bool.not_eq_false', Bool.not_not, decide_eq_false_iff_not, decide_eq_true_eq, Bool.false_eq_true, if_true, if_false, Bool.not_false, Bool.not_true, reduceIte]; omega) | exact rfl)) | (simp only [List.set_cons_succ, List.set_cons_zero, wipeD]; exact rfl) | (simp only [List.length_cons, List.length_nil, List.length_map, List.length_append]; omega) | (exact rfl) | (omega)))) ?_ (by omega), List.map_map]
    · rfl
    · intro q hq
      obtain ⟨h1, h2⟩ := h q hq
      obtain ⟨j, j1, j2⟩ := ixW (e := e) (r := r) (i := i) (m := m) (t := t) h1
      have hm : mulB q.2 (wv e r i m t q.1) = true := mulB_ok (by omega) (by have := a.wv h1; omega)
      refine ⟨[some (.tup (l.map encT)), some (five e r i m t), some (.str q.1), some (.int q.2)], ?_, rfl, ?_⟩
      · (repeat' (first | (with_reducible assumption) | (with_reducible apply mVar_ok) | (with_reducible apply mC_ok) | (with_reducible apply mOp_ok) | (with_reducible apply mTest_ok) | (with_reducible apply mCons_ok) | (with_reducible apply mNil_ok) | (with_reducible apply mCall_ok) | (with_reducible apply mCallF_ok) | (with_reducible apply mSeq_eq) | (with_reducible apply seqNx) | (with_reducible apply seqRt) | (with_reducible apply mSkip_ok) | (with_reducible apply mRet_ok) | (with_reducible apply mRetN_ok) | (with_reducible apply mExpr_ok) | (with_reducible apply mAsg_ok) | (with_reducible apply mGName_ok) | (with_reducible apply mIfS_ok) | (with_reducible apply mTAnd_ok) | (with_reducible apply mTOr_ok) | (with_reducible apply mTNot_ok) | (with_reducible apply mAnd_ok) | (with_reducible apply mOr_ok) | (with_reducible apply mNot_ok) | (with_reducible apply mIf_ok) | (with_reducible apply mChain_ok) | (with_reducible apply bindO_ok) | (with_reducible apply mTup_ok) | (with_reducible apply mLst_ok) | (with_reducible apply mLst_okC) | (with_reducible apply mUn_ok) | (with_reducible apply mMet_ok) | (with_reducible apply mMetC_ok) | (with_reducible apply mGTup_ok) | (with_reducible apply mGCons_ok) | (with_reducible apply mGNil_ok) | (with_reducible apply mPar_ok) | (with_reducible apply mPar3_ok) | (with_reducible apply mSet_ok) | (with_reducible apply mSeqI_ok) | (with_reducible apply mRange1_ok) | (with_reducible apply mZip_ok) | (with_reducible apply mFrz_ok) | (with_reducible apply mFor_ok) | (with_reducible apply mCallV_ok) | (with_reducible apply gAddL) | (with_reducible apply gSumL) | (with_reducible apply gMax0) | (with_reducible apply gMax2) | (with_reducible apply gMaxP) | (with_reducible apply gAllL) | (with_reducible apply gTupL) | (with_reducible apply gTupT) | (with_reducible apply gListT) | (with_reducible apply gLenT) | (with_reducible apply gIsiT) | (with_reducible apply gIsNT) | (with_reducible apply gEqL0) | (with_reducible apply gNeL0) | (with_reducible apply gMul_ok) | (with_reducible apply gAdd_ok) | (with_reducible apply gSub_ok) | (with_reducible apply gEqI) | (with_reducible apply gNeI) | (with_reducible apply gLt_ok) | (with_reducible apply gLe_ok) | (with_reducible apply gGt_ok) | (with_reducible apply gGe_ok) | (with_reducible apply gInt_ok) | (with_reducible apply mulB_ok) | (with_reducible apply lim_ok) | ((with_reducible apply ite_t); (first | assumption | (exact decide_eq_true (by omega)) | (exact decide_eq_false (by omega)) | (simp only [Bool.not_eq_true', Bool.not_eq_false', Bool.not_not, decide_eq_false_iff_not, decide_eq_true_eq, Bool.false_eq_true, if_true, if_false, Bool.not_false, Bool.not_true, reduceIte]; omega) | exact rfl)) | ((with_reducible apply ite_f); (first | assumption | (exact decide_eq_true (by omega)) | (exact decide_eq_false (by omega)) | (simp only [Bool.not_eq_true', Bool.not_eq_false', Bool.not_not, decide_eq_false_iff_not, decide_eq_true_eq, Bool.false_eq_true, if_true, if_false, Bool.not_false, Bool.not_true, reduceIte]; omega) | exact rfl)) | (simp only [List.set_cons_succ, List.set_cons_zero, wipeD]; exact rfl) | (simp only [List.length_cons, List.length_nil, List.length_map, List.length_append]; omega) | (exact rfl) | (omega)))
      · (repeat' (first | (with_reducible assumption) | (with_reducible exact j1 _) | (with_reducible exact j2 _) | (with_reducible apply mVar_ok) | (with_reducible apply mC_ok) | (with_reducible apply mOp_ok) | (with_reducible apply mTest_ok) | (with_reducible apply mCons_ok) | (with_reducible apply mNil_ok) | (with_reducible apply mCall_ok) | (with_reducible apply mCallF_ok) | (with_reducible apply mSeq_eq) | (with_reducible apply seqNx) | (with_reducible apply seqRt) | (with_reducible apply mSkip_ok) | (with_reducible apply mRet_ok) | (with_reducible apply mRetN_ok) | (with_reducible apply mExpr_ok) | (with_reducible apply mAsg_ok) | (with_reducible apply mGName_ok) | (with_reducible apply mIfS_ok) | (with_reducible apply mTAnd_ok) | (with_reducible apply mTOr_ok) | (with_reducible apply mTNot_ok) | (with_reducible apply mAnd_ok) | (with_reducible apply mOr_ok) | (with_reducible apply mNot_ok) | (with_reducible apply mIf_ok) | (with_reducible apply mChain_ok) | (with_reducible apply bindO_ok) | (with_reducible apply mTup_ok) | (with_reducible apply mLst_ok) | (with_reducible apply mLst_okC) | (with_reducible apply mUn_ok) | (with_reducible apply mMet_ok) | (with_reducible apply mMetC_ok) | (with_reducible apply mGTup_ok) | (with_reducible apply mGCons_ok) | (with_reducible apply mGNil_ok) | (with_reducible apply mPar_ok) | (with_reducible apply mPar3_ok) | (with_reducible apply mSet_ok) | (with_reducible apply mSeqI_ok) | (with_reducible apply mRange1_ok) | (with_reducible apply mZip_ok) | (with_reducible apply mFrz_ok) | (with_reducible apply mFor_ok) | (with_reducible apply mCallV_ok) | (with_reducible apply gAddL) | (with_reducible apply gSumL) | (with_reducible apply gMax0) | (with_reducible apply gMax2) | (with_reducible apply gMaxP) | (with_reducible apply gAllL) | (with_reducible apply gTupL) | (with_reducible apply gTupT) | (with_reducible apply gListT) | (with_reducible apply gLenT) | (with_reducible apply gIsiT) | (with_reducible apply gIsNT) | (with_reducible apply gEqL0) | (with_reducible apply gNeL0) | (with_reducible apply gMul_ok) | (with_reducible apply gAdd_ok) | (with_reducible apply gSub_ok) | (with_reducible apply gEqI) | (with_reducible apply gNeI) | (with_reducible apply gLt_ok) | (with_reducible apply gLe_ok) | (with_reducible apply gGt_ok) | (with_reducible apply gGe_ok) | (with_reducible apply gInt_ok) | (with_reducible apply mulB_ok) | (with_reducible apply lim_ok) | ((with_reducible apply ite_t); (first | assumption | (exact decide_eq_true (by omega)) | (exact decide_eq_false (by omega)) | (simp only [Bool.not_eq_true', Bool.not_eq_false', Bool.not_not, decide_eq_false_iff_not, decide_eq_true_eq, Bool.false_eq_true, if_true, if_false, Bool.not_false, Bool.not_true, reduceIte]; omega) | exact rfl)) | ((with_reducible apply ite_f); (first | assumption | (exact decide_eq_true (by omega)) | (exact decide_eq_false (by omega)) | (simp only [Bool.not_eq_true', Bool.not_eq_false', Bool.not_not, decide_eq_false_iff_not, decide_eq_true_eq, Bool.false_eq_true, if_true, if_false, Bool.not_false, Bool.not_true, reduceIte]; omega) | exact rfl)) | (simp only [List.set_cons_succ, List.set_cons_zero, wipeD]; exact rfl) | (simp only [List.length_cons, List.length_nil, List.length_map, List.length_append]; omega) | (exact rfl) | (omega)))
  have hs : gIL (fun ns => some (D.int ns.sum)) mu [.lst ((l.map fun q => q.2 * wv e r i m t q.1).map D.int)] = some (.int (wSum e r i m t l), mu) := gSumL
  unfold m_worth_of
  (repeat' (first | (with_reducible assumption) | (with_reducible exact q1) | (with_reducible apply mVar_ok) | (with_reducible apply mC_ok) | (with_reducible apply mOp_ok) | (with_reducible apply mTest_ok) | (with_reducible apply mCons_ok) | (with_reducible apply mNil_ok) | (with_reducible apply mCall_ok) | (with_reducible apply mCallF_ok) | (with_reducible apply mSeq_eq) | (with_reducible apply seqNx) | (with_reducible apply seqRt) | (with_reducible apply mSkip_ok) | (with_reducible apply mRet_ok) | (with_reducible apply mRetN_ok) | (with_reducible apply mExpr_ok) | (with_reducible apply mAsg_ok) | (with_reducible apply mGName_ok) | (with_reducible apply mIfS_ok) | (with_reducible apply mTAnd_ok) | (with_reducible apply mTOr_ok) | (with_reducible apply mTNot_ok) | (with_reducible apply mAnd_ok) | (with_reducible apply mOr_ok) | (with_reducible apply mNot_ok) | (with_reducible apply mIf_ok) | (with_reducible apply mChain_ok) | (with_reducible apply bindO_ok) | (with_reducible apply mTup_ok) | (with_reducible apply mLst_ok) | (with_reducible apply mLst_okC) | (with_reducible apply mUn_ok) | (with_reducible apply mMet_ok) | (with_reducible apply mMetC_ok) | (with_reducible apply mGTup_ok) | (with_reducible apply mGCons_ok) | (with_reducible apply mGNil_ok) | (with_reducible apply mPar_ok) | (with_reducible apply mPar3_ok) | (with_reducible apply mSet_ok) | (with_reducible apply mSeqI_ok) | (with_reducible apply mRange1_ok) | (with_reducible apply mZip_ok) | (with_reducible apply mFrz_ok) | (with_reducible apply mFor_ok) | (with_reducible apply mCallV_ok) | (with_reducible apply gAddL) | (with_reducible apply gSumL) | (with_reducible apply gMax0) | (with_reducible apply gMax2) | (with_reducible apply gMaxP) | (with_reducible apply gAllL) | (with_reducible apply gTupL) | (with_reducible apply gTupT) | (with_reducible apply gListT) | (with_reducible apply gLenT) | (with_reducible apply gIsiT) | (with_reducible apply gIsNT) | (with_reducible apply gEqL0) | (with_reducible apply gNeL0) | (with_reducible apply gMul_ok) | (with_reducible apply gAdd_ok) | (with_reducible apply gSub_ok) | (with_reducible apply gEqI) | (with_reducible apply gNeI) | (with_reducible apply gLt_ok) | (with_reducible apply gLe_ok) | (with_reducible apply gGt_ok) | (with_reducible apply gGe_ok) | (with_reducible apply gInt_ok) | (with_reducible apply mulB_ok) | (with_reducible apply lim_ok) | ((with_reducible apply ite_t); (first | assumption | (exact decide_eq_true (by omega)) | (exact decide_eq_false (by omega)) | (simp only [Bool.not_eq_true', Bool.not_eq_false', Bool.not_not, decide_eq_false_iff_not, decide_eq_true_eq, Bool.false_eq_true, if_true, if_false, Bool.not_false, Bool.not_true, reduceIte]; omega) | exact rfl)) | ((with_reducible apply ite_f); (first | assumption | (exact decide_eq_true (by omega)) | (exact decide_eq_false (by omega)) | (simp only [Bool.not_eq_true', Bool.not_eq_false', Bool.not_not, decide_eq_false_iff_not, decide_eq_true_eq, Bool.false_eq_true, if_true, if_false, Bool.not_false, Bool.not_true, reduceIte]; omega) | exact rfl)) | (simp only [List.set_cons_succ, List.set_cons_zero, wipeD]; exact rfl) | (simp only [List.length_cons, List.length_nil, List.length_map, List.length_append]; omega) | (exact rfl) | (omega)))
abbrev Fact := List (Str × Int) × List (Str × Int)
abbrev encF (f : Fact) : D := .tup [.tup (f.1.map encT), .tup (f.2.map encT)]
def okF (f : Fact) : Prop := (∀ q ∈ f.1, okT q) ∧ (∀ q ∈ f.2, okT q) ∧ f.1.length ≤ 1000 ∧ f.2.length ≤ 1000
def holdsF (e r i m t : Int) (f : Fact) : Bool := decide (wSum e r i m t f.1 ≤ wSum e r i m t f.2)
def fOne : List Fact := [([("rows", 1)], [("every", 1)]), ([("every", 1)], [("rows", 1)]), ([("item", 1)], [("most", 1)]), ([("most", 1)], [("item", 1)]), ([("table", 1)], [("most", 1)]), ([("most", 1)], [("table", 1)]), ([("most", 1)], [("every", 1)])]
def fK1 : List Fact := [([("item", 1)], [("table", 1)]), ([("table", 1)], [("item", 1)]), ([("most", 1)], [("table", 1)]), ([("table", 1)], [("most", 2)]), ([("most", 1)], [("rows", 1)]), ([("rows", 1), ("table", 1)], [("every", 1), ("most", 1)]), ([("every", 1), ("most", 2)], [("rows", 2), ("table", 1)])]
def fK2 : List Fact := [([("most", 1)], [("item", 1)]), ([("item", 1)], [("table", 1)]), ([("table", 1)], [("most", 2)]), ([("table", 1)], [("rows", 1)]), ([("item", 1), ("rows", 1)], [("every", 1), ("most", 1)]), ([("every", 1), ("most", 2)], [("item", 1), ("rows", 2)]), ([("every", 1), ("table", 2)], [("item", 2), ("rows", 2)])]
theorem cOne : c_ONE_BOX = .tup (fOne.map encF) := rfl
theorem cK1 : c_KIND_ONE = .tup (fK1.map encF) := rfl
theorem cK2 : c_KIND_TWO = .tup (fK2.map encF) := rfl
theorem bits1 : Builtin.Int.intBits 1 ≤ 100 := by decide
theorem bits2 : Builtin.Int.intBits 2 ≤ 100 := by decide
theorem okOne : ∀ f ∈ fOne, okF f := by
  intro f hf
  simp only [fOne, List.mem_cons, List.not_mem_nil, or_false] at hf
  rcases hf with rfl | rfl | rfl | rfl | rfl | rfl | rfl <;> simp [okF, okT, WL, bits1, bits2]
theorem okK1 : ∀ f ∈ fK1, okF f := by
  intro f hf
  simp only [fK1, List.mem_cons, List.not_mem_nil, or_false] at hf
  rcases hf with rfl | rfl | rfl | rfl | rfl | rfl | rfl <;> simp [okF, okT, WL, bits1, bits2]
theorem okK2 : ∀ f ∈ fK2, okF f := by
  intro f hf
  simp only [fK2, List.mem_cons, List.not_mem_nil, or_false] at hf
  rcases hf with rfl | rfl | rfl | rfl | rfl | rfl | rfl <;> simp [okF, okT, WL, bits1, bits2]
def B1 (e r i m t : Int) : Bool := fOne.all (holdsF e r i m t)
def K1 (e r i m t : Int) : Bool := fK1.all (holdsF e r i m t)
def K2 (e r i m t : Int) : Bool := fK2.all (holdsF e r i m t)
theorem b1_iff : B1 e r i m t = true ↔ r ≤ e ∧ e ≤ r ∧ i ≤ m ∧ m ≤ i ∧ t ≤ m ∧ m ≤ t ∧ m ≤ e := by
  simp only [B1, fOne, List.all_cons, List.all_nil, holdsF, wSum, List.map_cons, List.map_nil, List.sum_cons, List.sum_nil, wvE, wvR, wvI, wvM, wvT, Bool.and_eq_true, decide_eq_true_eq, Bool.and_true]
  omega
theorem k1_iff : K1 e r i m t = true ↔ i ≤ t ∧ t ≤ i ∧ m ≤ t ∧ t ≤ 2 * m ∧ m ≤ r ∧ r + t ≤ e + m ∧ e + 2 * m ≤ 2 * r + t := by
  simp only [K1, fK1, List.all_cons, List.all_nil, holdsF, wSum, List.map_cons, List.map_nil, List.sum_cons, List.sum_nil, wvE, wvR, wvI, wvM, wvT, Bool.and_eq_true, decide_eq_true_eq, Bool.and_true]
  omega
theorem k2_iff : K2 e r i m t = true ↔ m ≤ i ∧ i ≤ t ∧ t ≤ 2 * m ∧ t ≤ r ∧ i + r ≤ e + m ∧ e + 2 * m ≤ i + 2 * r ∧ e + 2 * t ≤ 2 * i + 2 * r := by
  simp only [K2, fK2, List.all_cons, List.all_nil, holdsF, wSum, List.map_cons, List.map_nil, List.sum_cons, List.sum_nil, wvE, wvR, wvI, wvM, wvT, Bool.and_eq_true, decide_eq_true_eq, Bool.and_true]
  omega
theorem e_need (a : Am e r i m t) {n : Int} (h1 : 1 ≤ n) (h2 : n ≤ 2) : d_need_told A [.int n, five e r i m t] mu = .ok .non mu := by
  refine denF_nx (e' := [some (.int n), some (five e r i m t), none]) (env0 := [some (.int n), some (five e r i m t), none]) rfl ?_
  have q1 : q_need_told_1 A [some (.int n), some (five e r i m t), none] mu = .ok (.lst (([e, r, i, m, t].map fun _ => true).map D.bl)) mu := by
    unfold q_need_told_1
    rw [mLc_map (enc := D.int) (f := fun _ => .bl true) [e, r, i, m, t] (by (repeat' (first | (with_reducible assumption) | (with_reducible apply mVar_ok) | (with_reducible apply mC_ok) | (with_reducible apply mOp_ok) | (with_reducible apply mTest_ok) | (with_reducible apply mCons_ok) | (with_reducible apply mNil_ok) | (with_reducible apply mCall_ok) | (with_reducible apply mCallF_ok) | (with_reducible apply mSeq_eq) | (with_reducible apply seqNx) | (with_reducible apply seqRt) | (with_reducible apply mSkip_ok) | (with_reducible apply mRet_ok) | (with_reducible apply mRetN_ok) | (with_reducible apply mExpr_ok) | (with_reducible apply mAsg_ok) | (with_reducible apply mGName_ok) | (with_reducible apply mIfS_ok) | (with_reducible apply mTAnd_ok) | (with_reducible apply mTOr_ok) | (with_reducible apply mTNot_ok) | (with_reducible apply mAnd_ok) | (with_reducible apply mOr_ok) | (with_reducible apply mNot_ok) | (with_reducible apply mIf_ok) | (with_reducible apply mChain_ok) | (with_reducible apply bindO_ok) | (with_reducible apply mTup_ok) | (with_reducible apply mLst_ok) | (with_reducible apply mLst_okC) | (with_reducible apply mUn_ok) | (with_reducible apply mMet_ok) | (with_reducible apply mMetC_ok) | (with_reducible apply mGTup_ok) | (with_reducible apply mGCons_ok) | (with_reducible apply mGNil_ok) | (with_reducible apply mPar_ok) | (with_reducible apply mPar3_ok) | (with_reducible apply mSet_ok) | (with_reducible apply mSeqI_ok) | (with_reducible apply mRange1_ok) | (with_reducible apply mZip_ok) | (with_reducible apply mFrz_ok) | (with_reducible apply mFor_ok) | (with_reducible apply mCallV_ok) | (with_reducible apply gAddL) | (with_reducible apply gSumL) | (with_reducible apply gMax0) | (with_reducible apply gMax2) | (with_reducible apply gMaxP) | (with_reducible apply gAllL) | (with_reducible apply gTupL) | (with_reducible apply gTupT) | (with_reducible apply gListT) | (with_reducible apply gLenT) | (with_reducible apply gIsiT) | (with_reducible apply gIsNT) | (with_reducible apply gEqL0) | (with_reducible apply gNeL0) | (with_reducible apply gMul_ok) | (with_reducible apply gAdd_ok) | (with_reducible apply gSub_ok) | (with_reducible apply gEqI) | (with_reducible apply gNeI) | (with_reducible apply gLt_ok) | (with_reducible apply gLe_ok) | (with_reducible apply gGt_ok) | (with_reducible apply gGe_ok) | (with_reducible apply gInt_ok) | (with_reducible apply mulB_ok) | (with_reducible apply lim_ok) | ((with_reducible apply ite_t); (first | assumption | (exact decide_eq_true (by omega)) | (exact decide_eq_false (by omega)) | (simp only [Bool.not_eq_true', Bool.not_eq_false', Bool.not_not, decide_eq_false_iff_not, decide_eq_true_eq, Bool.false_eq_true, if_true, if_false, Bool.not_false, Bool.not_true, reduceIte]; omega) | exact rfl)) | ((with_reducible apply ite_f); (first | assumption | (exact decide_eq_true (by omega)) | (exact decide_eq_false (by omega)) | (simp only [Bool.not_eq_true', Bool.not_eq_false', Bool.not_not, decide_eq_false_iff_not, decide_eq_true_eq, Bool.false_eq_true, if_true, if_false, Bool.not_false, Bool.not_true, reduceIte]; omega) | exact rfl)) | (simp only [List.set_cons_succ, List.set_cons_zero, wipeD]; exact rfl) | (simp only [List.length_cons, List.length_nil, List.length_map, List.length_append]; omega) | (exact rfl) | (omega)))) ?_ (by simp), List.map_map]
    · rfl
    · intro x hx
      have hx0 : 0 ≤ x := by
        have h1 := a.pe; have h2 := a.pr; have h3 := a.pi; have h4 := a.pm; have h5 := a.pt
        simp only [List.mem_cons, List.not_mem_nil, or_false] at hx
        rcases hx with rfl | rfl | rfl | rfl | rfl <;> assumption
      refine ⟨[some (.int n), some (five e r i m t), some (.int x)], ?_, rfl, ?_⟩
      · (repeat' (first | (with_reducible assumption) | (with_reducible apply mVar_ok) | (with_reducible apply mC_ok) | (with_reducible apply mOp_ok) | (with_reducible apply mTest_ok) | (with_reducible apply mCons_ok) | (with_reducible apply mNil_ok) | (with_reducible apply mCall_ok) | (with_reducible apply mCallF_ok) | (with_reducible apply mSeq_eq) | (with_reducible apply seqNx) | (with_reducible apply seqRt) | (with_reducible apply mSkip_ok) | (with_reducible apply mRet_ok) | (with_reducible apply mRetN_ok) | (with_reducible apply mExpr_ok) | (with_reducible apply mAsg_ok) | (with_reducible apply mGName_ok) | (with_reducible apply mIfS_ok) | (with_reducible apply mTAnd_ok) | (with_reducible apply mTOr_ok) | (with_reducible apply mTNot_ok) | (with_reducible apply mAnd_ok) | (with_reducible apply mOr_ok) | (with_reducible apply mNot_ok) | (with_reducible apply mIf_ok) | (with_reducible apply mChain_ok) | (with_reducible apply bindO_ok) | (with_reducible apply mTup_ok) | (with_reducible apply mLst_ok) | (with_reducible apply mLst_okC) | (with_reducible apply mUn_ok) | (with_reducible apply mMet_ok) | (with_reducible apply mMetC_ok) | (with_reducible apply mGTup_ok) | (with_reducible apply mGCons_ok) | (with_reducible apply mGNil_ok) | (with_reducible apply mPar_ok) | (with_reducible apply mPar3_ok) | (with_reducible apply mSet_ok) | (with_reducible apply mSeqI_ok) | (with_reducible apply mRange1_ok) | (with_reducible apply mZip_ok) | (with_reducible apply mFrz_ok) | (with_reducible apply mFor_ok) | (with_reducible apply mCallV_ok) | (with_reducible apply gAddL) | (with_reducible apply gSumL) | (with_reducible apply gMax0) | (with_reducible apply gMax2) | (with_reducible apply gMaxP) | (with_reducible apply gAllL) | (with_reducible apply gTupL) | (with_reducible apply gTupT) | (with_reducible apply gListT) | (with_reducible apply gLenT) | (with_reducible apply gIsiT) | (with_reducible apply gIsNT) | (with_reducible apply gEqL0) | (with_reducible apply gNeL0) | (with_reducible apply gMul_ok) | (with_reducible apply gAdd_ok) | (with_reducible apply gSub_ok) | (with_reducible apply gEqI) | (with_reducible apply gNeI) | (with_reducible apply gLt_ok) | (with_reducible apply gLe_ok) | (with_reducible apply gGt_ok) | (with_reducible apply gGe_ok) | (with_reducible apply gInt_ok) | (with_reducible apply mulB_ok) | (with_reducible apply lim_ok) | ((with_reducible apply ite_t); (first | assumption | (exact decide_eq_true (by omega)) | (exact decide_eq_false (by omega)) | (simp only [Bool.not_eq_true', Bool.not_eq_false', Bool.not_not, decide_eq_false_iff_not, decide_eq_true_eq, Bool.false_eq_true, if_true, if_false, Bool.not_false, Bool.not_true, reduceIte]; omega) | exact rfl)) | ((with_reducible apply ite_f); (first | assumption | (exact decide_eq_true (by omega)) | (exact decide_eq_false (by omega)) | (simp only [Bool.not_eq_true', Bool.not_eq_false', Bool.not_not, decide_eq_false_iff_not, decide_eq_true_eq, Bool.false_eq_true, if_true, if_false, Bool.not_false, Bool.not_true, reduceIte]; omega) | exact rfl)) | (simp only [List.set_cons_succ, List.set_cons_zero, wipeD]; exact rfl) | (simp only [List.length_cons, List.length_nil, List.length_map, List.length_append]; omega) | (exact rfl) | (omega)))
      · (repeat' (first | (with_reducible assumption) | (with_reducible exact e_zero hx0) | (with_reducible apply mVar_ok) | (with_reducible apply mC_ok) | (with_reducible apply mOp_ok) | (with_reducible apply mTest_ok) | (with_reducible apply mCons_ok) | (with_reducible apply mNil_ok) | (with_reducible apply mCall_ok) | (with_reducible apply mCallF_ok) | (with_reducible apply mSeq_eq) | (with_reducible apply seqNx) | (with_reducible apply seqRt) | (with_reducible apply mSkip_ok) | (with_reducible apply mRet_ok) | (with_reducible apply mRetN_ok) | (with_reducible apply mExpr_ok) | (with_reducible apply mAsg_ok) | (with_reducible apply mGName_ok) | (with_reducible apply mIfS_ok) | (with_reducible apply mTAnd_ok) | (with_reducible apply mTOr_ok) | (with_reducible apply mTNot_ok) | (with_reducible apply mAnd_ok) | (with_reducible apply mOr_ok) | (with_reducible apply mNot_ok) | (with_reducible apply mIf_ok) | (with_reducible apply mChain_ok) | (with_reducible apply bindO_ok) | (with_reducible apply mTup_ok) | (with_reducible apply mLst_ok) | (with_reducible apply mLst_okC) | (with_reducible apply mUn_ok) | (with_reducible apply mMet_ok) | (with_reducible apply mMetC_ok) | (with_reducible apply mGTup_ok) | (with_reducible apply mGCons_ok) | (with_reducible apply mGNil_ok) | (with_reducible apply mPar_ok) | (with_reducible apply mPar3_ok) | (with_reducible apply mSet_ok) | (with_reducible apply mSeqI_ok) | (with_reducible apply mRange1_ok) | (with_reducible apply mZip_ok) | (with_reducible apply mFrz_ok) | (with_reducible apply mFor_ok) | (with_reducible apply mCallV_ok) | (with_reducible apply gAddL) | (with_reducible apply gSumL) | (with_reducible apply gMax0) | (with_reducible apply gMax2) | (with_reducible apply gMaxP) | (with_reducible apply gAllL) | (with_reducible apply gTupL) | (with_reducible apply gTupT) | (with_reducible apply gListT) | (with_reducible apply gLenT) | (with_reducible apply gIsiT) | (with_reducible apply gIsNT) | (with_reducible apply gEqL0) | (with_reducible apply gNeL0) | (with_reducible apply gMul_ok) | (with_reducible apply gAdd_ok) | (with_reducible apply gSub_ok) | (with_reducible apply gEqI) | (with_reducible apply gNeI) | (with_reducible apply gLt_ok) | (with_reducible apply gLe_ok) | (with_reducible apply gGt_ok) | (with_reducible apply gGe_ok) | (with_reducible apply gInt_ok) | (with_reducible apply mulB_ok) | (with_reducible apply lim_ok) | ((with_reducible apply ite_t); (first | assumption | (exact decide_eq_true (by omega)) | (exact decide_eq_false (by omega)) | (simp only [Bool.not_eq_true', Bool.not_eq_false', Bool.not_not, decide_eq_false_iff_not, decide_eq_true_eq, Bool.false_eq_true, if_true, if_false, Bool.not_false, Bool.not_true, reduceIte]; omega) | exact rfl)) | ((with_reducible apply ite_f); (first | assumption | (exact decide_eq_true (by omega)) | (exact decide_eq_false (by omega)) | (simp only [Bool.not_eq_true', Bool.not_eq_false', Bool.not_not, decide_eq_false_iff_not, decide_eq_true_eq, Bool.false_eq_true, if_true, if_false, Bool.not_false, Bool.not_true, reduceIte]; omega) | exact rfl)) | (simp only [List.set_cons_succ, List.set_cons_zero, wipeD]; exact rfl) | (simp only [List.length_cons, List.length_nil, List.length_map, List.length_append]; omega) | (exact rfl) | (omega)))
  unfold m_need_told
  (repeat' (first | (with_reducible assumption) | (with_reducible exact e_num) | (with_reducible exact q1) | (with_reducible apply mVar_ok) | (with_reducible apply mC_ok) | (with_reducible apply mOp_ok) | (with_reducible apply mTest_ok) | (with_reducible apply mCons_ok) | (with_reducible apply mNil_ok) | (with_reducible apply mCall_ok) | (with_reducible apply mCallF_ok) | (with_reducible apply mSeq_eq) | (with_reducible apply seqNx) | (with_reducible apply seqRt) | (with_reducible apply mSkip_ok) | (with_reducible apply mRet_ok) | (with_reducible apply mRetN_ok) | (with_reducible apply mExpr_ok) | (with_reducible apply mAsg_ok) | (with_reducible apply mGName_ok) | (with_reducible apply mIfS_ok) | (with_reducible apply mTAnd_ok) | (with_reducible apply mTOr_ok) | (with_reducible apply mTNot_ok) | (with_reducible apply mAnd_ok) | (with_reducible apply mOr_ok) | (with_reducible apply mNot_ok) | (with_reducible apply mIf_ok) | (with_reducible apply mChain_ok) | (with_reducible apply bindO_ok) | (with_reducible apply mTup_ok) | (with_reducible apply mLst_ok) | (with_reducible apply mLst_okC) | (with_reducible apply mUn_ok) | (with_reducible apply mMet_ok) | (with_reducible apply mMetC_ok) | (with_reducible apply mGTup_ok) | (with_reducible apply mGCons_ok) | (with_reducible apply mGNil_ok) | (with_reducible apply mPar_ok) | (with_reducible apply mPar3_ok) | (with_reducible apply mSet_ok) | (with_reducible apply mSeqI_ok) | (with_reducible apply mRange1_ok) | (with_reducible apply mZip_ok) | (with_reducible apply mFrz_ok) | (with_reducible apply mFor_ok) | (with_reducible apply mCallV_ok) | (with_reducible apply gAddL) | (with_reducible apply gSumL) | (with_reducible apply gMax0) | (with_reducible apply gMax2) | (with_reducible apply gMaxP) | (with_reducible apply gAllL) | (with_reducible apply gTupL) | (with_reducible apply gTupT) | (with_reducible apply gListT) | (with_reducible apply gLenT) | (with_reducible apply gIsiT) | (with_reducible apply gIsNT) | (with_reducible apply gEqL0) | (with_reducible apply gNeL0) | (with_reducible apply gMul_ok) | (with_reducible apply gAdd_ok) | (with_reducible apply gSub_ok) | (with_reducible apply gEqI) | (with_reducible apply gNeI) | (with_reducible apply gLt_ok) | (with_reducible apply gLe_ok) | (with_reducible apply gGt_ok) | (with_reducible apply gGe_ok) | (with_reducible apply gInt_ok) | (with_reducible apply mulB_ok) | (with_reducible apply lim_ok) | ((with_reducible apply ite_t); (first | assumption | (exact decide_eq_true (by omega)) | (exact decide_eq_false (by omega)) | (simp only [Bool.not_eq_true', Bool.not_eq_false', Bool.not_not, decide_eq_false_iff_not, decide_eq_true_eq, Bool.false_eq_true, if_true, if_false, Bool.not_false, Bool.not_true, reduceIte]; omega) | exact rfl)) | ((with_reducible apply ite_f); (first | assumption | (exact decide_eq_true (by omega)) | (exact decide_eq_false (by omega)) | (simp only [Bool.not_eq_true', Bool.not_eq_false', Bool.not_not, decide_eq_false_iff_not, decide_eq_true_eq, Bool.false_eq_true, if_true, if_false, Bool.not_false, Bool.not_true, reduceIte]; omega) | exact rfl)) | (simp only [List.set_cons_succ, List.set_cons_zero, wipeD]; exact rfl) | (simp only [List.length_cons, List.length_nil, List.length_map, List.length_append]; omega) | (exact rfl) | (omega)))
def factsOf (n : Int) (k : Str) : List Fact := if n = 1 then fOne else if k = "one" then fK1 else fK2
theorem e_facts {n : Int} {k : Str} (hn : n = 1 ∨ (n = 2 ∧ (k = "one" ∨ k = "two"))) : d_list_facts A [.int n, .str k] mu = .ok (.tup ((factsOf n k).map encF)) mu := by
  refine denF_rt (env0 := [some (.int n), some (.str k)]) rfl ?_
  unfold m_list_facts
  rcases hn with rfl | ⟨rfl, rfl | rfl⟩
  · show _ = SR.rt c_ONE_BOX mu
    (repeat' (first | (with_reducible assumption) | (with_reducible apply mVar_ok) | (with_reducible apply mC_ok) | (with_reducible apply mOp_ok) | (with_reducible apply mTest_ok) | (with_reducible apply mCons_ok) | (with_reducible apply mNil_ok) | (with_reducible apply mCall_ok) | (with_reducible apply mCallF_ok) | (with_reducible apply mSeq_eq) | (with_reducible apply seqNx) | (with_reducible apply seqRt) | (with_reducible apply mSkip_ok) | (with_reducible apply mRet_ok) | (with_reducible apply mRetN_ok) | (with_reducible apply mExpr_ok) | (with_reducible apply mAsg_ok) | (with_reducible apply mGName_ok) | (with_reducible apply mIfS_ok) | (with_reducible apply mTAnd_ok) | (with_reducible apply mTOr_ok) | (with_reducible apply mTNot_ok) | (with_reducible apply mAnd_ok) | (with_reducible apply mOr_ok) | (with_reducible apply mNot_ok) | (with_reducible apply mIf_ok) | (with_reducible apply mChain_ok) | (with_reducible apply bindO_ok) | (with_reducible apply mTup_ok) | (with_reducible apply mLst_ok) | (with_reducible apply mLst_okC) | (with_reducible apply mUn_ok) | (with_reducible apply mMet_ok) | (with_reducible apply mMetC_ok) | (with_reducible apply mGTup_ok) | (with_reducible apply mGCons_ok) | (with_reducible apply mGNil_ok) | (with_reducible apply mPar_ok) | (with_reducible apply mPar3_ok) | (with_reducible apply mSet_ok) | (with_reducible apply mSeqI_ok) | (with_reducible apply mRange1_ok) | (with_reducible apply mZip_ok) | (with_reducible apply mFrz_ok) | (with_reducible apply mFor_ok) | (with_reducible apply mCallV_ok) | (with_reducible apply gAddL) | (with_reducible apply gSumL) | (with_reducible apply gMax0) | (with_reducible apply gMax2) | (with_reducible apply gMaxP) | (with_reducible apply gAllL) | (with_reducible apply gTupL) | (with_reducible apply gTupT) | (with_reducible apply gListT) | (with_reducible apply gLenT) | (with_reducible apply gIsiT) | (with_reducible apply gIsNT) | (with_reducible apply gEqL0) | (with_reducible apply gNeL0) | (with_reducible apply gMul_ok) | (with_reducible apply gAdd_ok) | (with_reducible apply gSub_ok) | (with_reducible apply gEqI) | (with_reducible apply gNeI) | (with_reducible apply gLt_ok) | (with_reducible apply gLe_ok) | (with_reducible apply gGt_ok) | (with_reducible apply gGe_ok) | (with_reducible apply gInt_ok) | (with_reducible apply mulB_ok) | (with_reducible apply lim_ok) | ((with_reducible apply ite_t); (first | assumption | (exact decide_eq_true (by omega)) | (exact decide_eq_false (by omega)) | (simp only [Bool.not_eq_true', Bool.not_eq_false', Bool.not_not, decide_eq_false_iff_not, decide_eq_true_eq, Bool.false_eq_true, if_true, if_false, Bool.not_false, Bool.not_true, reduceIte]; omega) | exact rfl)) | ((with_reducible apply ite_f); (first | assumption | (exact decide_eq_true (by omega)) | (exact decide_eq_false (by omega)) | (simp only [Bool.not_eq_true', Bool.not_eq_false', Bool.not_not, decide_eq_false_iff_not, decide_eq_true_eq, Bool.false_eq_true, if_true, if_false, Bool.not_false, Bool.not_true, reduceIte]; omega) | exact rfl)) | (simp only [List.set_cons_succ, List.set_cons_zero, wipeD]; exact rfl) | (simp only [List.length_cons, List.length_nil, List.length_map, List.length_append]; omega) | (exact rfl) | (omega)))
  · have h : gEq false mu (.str "one") (.str "one") = some (.bl true, mu) := by kernel_rfl
    show _ = SR.rt c_KIND_ONE mu
    (repeat' (first | (with_reducible assumption) | (with_reducible apply mVar_ok) | (with_reducible apply mC_ok) | (with_reducible apply mOp_ok) | (with_reducible apply mTest_ok) | (with_reducible apply mCons_ok) | (with_reducible apply mNil_ok) | (with_reducible apply mCall_ok) | (with_reducible apply mCallF_ok) | (with_reducible apply mSeq_eq) | (with_reducible apply seqNx) | (with_reducible apply seqRt) | (with_reducible apply mSkip_ok) | (with_reducible apply mRet_ok) | (with_reducible apply mRetN_ok) | (with_reducible apply mExpr_ok) | (with_reducible apply mAsg_ok) | (with_reducible apply mGName_ok) | (with_reducible apply mIfS_ok) | (with_reducible apply mTAnd_ok) | (with_reducible apply mTOr_ok) | (with_reducible apply mTNot_ok) | (with_reducible apply mAnd_ok) | (with_reducible apply mOr_ok) | (with_reducible apply mNot_ok) | (with_reducible apply mIf_ok) | (with_reducible apply mChain_ok) | (with_reducible apply bindO_ok) | (with_reducible apply mTup_ok) | (with_reducible apply mLst_ok) | (with_reducible apply mLst_okC) | (with_reducible apply mUn_ok) | (with_reducible apply mMet_ok) | (with_reducible apply mMetC_ok) | (with_reducible apply mGTup_ok) | (with_reducible apply mGCons_ok) | (with_reducible apply mGNil_ok) | (with_reducible apply mPar_ok) | (with_reducible apply mPar3_ok) | (with_reducible apply mSet_ok) | (with_reducible apply mSeqI_ok) | (with_reducible apply mRange1_ok) | (with_reducible apply mZip_ok) | (with_reducible apply mFrz_ok) | (with_reducible apply mFor_ok) | (with_reducible apply mCallV_ok) | (with_reducible apply gAddL) | (with_reducible apply gSumL) | (with_reducible apply gMax0) | (with_reducible apply gMax2) | (with_reducible apply gMaxP) | (with_reducible apply gAllL) | (with_reducible apply gTupL) | (with_reducible apply gTupT) | (with_reducible apply gListT) | (with_reducible apply gLenT) | (with_reducible apply gIsiT) | (with_reducible apply gIsNT) | (with_reducible apply gEqL0) | (with_reducible apply gNeL0) | (with_reducible apply gMul_ok) | (with_reducible apply gAdd_ok) | (with_reducible apply gSub_ok) | (with_reducible apply gEqI) | (with_reducible apply gNeI) | (with_reducible apply gLt_ok) | (with_reducible apply gLe_ok) | (with_reducible apply gGt_ok) | (with_reducible apply gGe_ok) | (with_reducible apply gInt_ok) | (with_reducible apply mulB_ok) | (with_reducible apply lim_ok) | ((with_reducible apply ite_t); (first | assumption | (exact decide_eq_true (by omega)) | (exact decide_eq_false (by omega)) | (simp only [Bool.not_eq_true', Bool.not_eq_false', Bool.not_not, decide_eq_false_iff_not, decide_eq_true_eq, Bool.false_eq_true, if_true, if_false, Bool.not_false, Bool.not_true, reduceIte]; omega) | exact rfl)) | ((with_reducible apply ite_f); (first | assumption | (exact decide_eq_true (by omega)) | (exact decide_eq_false (by omega)) | (simp only [Bool.not_eq_true', Bool.not_eq_false', Bool.not_not, decide_eq_false_iff_not, decide_eq_true_eq, Bool.false_eq_true, if_true, if_false, Bool.not_false, Bool.not_true, reduceIte]; omega) | exact rfl)) | (simp only [List.set_cons_succ, List.set_cons_zero, wipeD]; exact rfl) | (simp only [List.length_cons, List.length_nil, List.length_map, List.length_append]; omega) | (exact rfl) | (omega)))
  · have h : gEq false mu (.str "two") (.str "one") = some (.bl false, mu) := by kernel_rfl
    show _ = SR.rt c_KIND_TWO mu
    (repeat' (first | (with_reducible assumption) | (with_reducible apply mVar_ok) | (with_reducible apply mC_ok) | (with_reducible apply mOp_ok) | (with_reducible apply mTest_ok) | (with_reducible apply mCons_ok) | (with_reducible apply mNil_ok) | (with_reducible apply mCall_ok) | (with_reducible apply mCallF_ok) | (with_reducible apply mSeq_eq) | (with_reducible apply seqNx) | (with_reducible apply seqRt) | (with_reducible apply mSkip_ok) | (with_reducible apply mRet_ok) | (with_reducible apply mRetN_ok) | (with_reducible apply mExpr_ok) | (with_reducible apply mAsg_ok) | (with_reducible apply mGName_ok) | (with_reducible apply mIfS_ok) | (with_reducible apply mTAnd_ok) | (with_reducible apply mTOr_ok) | (with_reducible apply mTNot_ok) | (with_reducible apply mAnd_ok) | (with_reducible apply mOr_ok) | (with_reducible apply mNot_ok) | (with_reducible apply mIf_ok) | (with_reducible apply mChain_ok) | (with_reducible apply bindO_ok) | (with_reducible apply mTup_ok) | (with_reducible apply mLst_ok) | (with_reducible apply mLst_okC) | (with_reducible apply mUn_ok) | (with_reducible apply mMet_ok) | (with_reducible apply mMetC_ok) | (with_reducible apply mGTup_ok) | (with_reducible apply mGCons_ok) | (with_reducible apply mGNil_ok) | (with_reducible apply mPar_ok) | (with_reducible apply mPar3_ok) | (with_reducible apply mSet_ok) | (with_reducible apply mSeqI_ok) | (with_reducible apply mRange1_ok) | (with_reducible apply mZip_ok) | (with_reducible apply mFrz_ok) | (with_reducible apply mFor_ok) | (with_reducible apply mCallV_ok) | (with_reducible apply gAddL) | (with_reducible apply gSumL) | (with_reducible apply gMax0) | (with_reducible apply gMax2) | (with_reducible apply gMaxP) | (with_reducible apply gAllL) | (with_reducible apply gTupL) | (with_reducible apply gTupT) | (with_reducible apply gListT) | (with_reducible apply gLenT) | (with_reducible apply gIsiT) | (with_reducible apply gIsNT) | (with_reducible apply gEqL0) | (with_reducible apply gNeL0) | (with_reducible apply gMul_ok) | (with_reducible apply gAdd_ok) | (with_reducible apply gSub_ok) | (with_reducible apply gEqI) | (with_reducible apply gNeI) | (with_reducible apply gLt_ok) | (with_reducible apply gLe_ok) | (with_reducible apply gGt_ok) | (with_reducible apply gGe_ok) | (with_reducible apply gInt_ok) | (with_reducible apply mulB_ok) | (with_reducible apply lim_ok) | ((with_reducible apply ite_t); (first | assumption | (exact decide_eq_true (by omega)) | (exact decide_eq_false (by omega)) | (simp only [Bool.not_eq_true', Bool.not_eq_false', Bool.not_not, decide_eq_false_iff_not, decide_eq_true_eq, Bool.false_eq_true, if_true, if_false, Bool.not_false, Bool.not_true, reduceIte]; omega) | exact rfl)) | ((with_reducible apply ite_f); (first | assumption | (exact decide_eq_true (by omega)) | (exact decide_eq_false (by omega)) | (simp only [Bool.not_eq_true', Bool.not_eq_false', Bool.not_not, decide_eq_false_iff_not, decide_eq_true_eq, Bool.false_eq_true, if_true, if_false, Bool.not_false, Bool.not_true, reduceIte]; omega) | exact rfl)) | (simp only [List.set_cons_succ, List.set_cons_zero, wipeD]; exact rfl) | (simp only [List.length_cons, List.length_nil, List.length_map, List.length_append]; omega) | (exact rfl) | (omega)))
theorem factsOk (n : Int) (k : Str) : (∀ f ∈ factsOf n k, okF f) ∧ (factsOf n k).length ≤ 1000 := by
  unfold factsOf
  split
  · exact ⟨okOne, by decide⟩
  · split
    · exact ⟨okK1, by decide⟩
    · exact ⟨okK2, by decide⟩
theorem e_keeps (a : Am e r i m t) {n : Int} {k : Str} (hn : n = 1 ∨ (n = 2 ∧ (k = "one" ∨ k = "two"))) : d_keeps A [.int n, .str k, five e r i m t] mu = .ok (.bl ((factsOf n k).all (holdsF e r i m t))) mu := by
  refine denF_rt (env0 := [some (.int n), some (.str k), some (five e r i m t), none, none]) rfl ?_
  obtain ⟨ok, len⟩ := factsOk n k
  have q1 : q_keeps_1 A [some (.int n), some (.str k), some (five e r i m t), none, none] mu = .ok (.lst (((factsOf n k).map (holdsF e r i m t)).map D.bl)) mu := by
    unfold q_keeps_1
    rw [mLc_map (enc := encF) (f := fun f => D.bl (holdsF e r i m t f)) (factsOf n k) ?_ ?_ (by omega), List.map_map]
    · rfl
    · (repeat' (first | (with_reducible assumption) | (with_reducible exact e_facts hn) | (with_reducible apply mVar_ok) | (with_reducible apply mC_ok) | (with_reducible apply mOp_ok) | (with_reducible apply mTest_ok) | (with_reducible apply mCons_ok) | (with_reducible apply mNil_ok) | (with_reducible apply mCall_ok) | (with_reducible apply mCallF_ok) | (with_reducible apply mSeq_eq) | (with_reducible apply seqNx) | (with_reducible apply seqRt) | (with_reducible apply mSkip_ok) | (with_reducible apply mRet_ok) | (with_reducible apply mRetN_ok) | (with_reducible apply mExpr_ok) | (with_reducible apply mAsg_ok) | (with_reducible apply mGName_ok) | (with_reducible apply mIfS_ok) | (with_reducible apply mTAnd_ok) | (with_reducible apply mTOr_ok) | (with_reducible apply mTNot_ok) | (with_reducible apply mAnd_ok) | (with_reducible apply mOr_ok) | (with_reducible apply mNot_ok) | (with_reducible apply mIf_ok) | (with_reducible apply mChain_ok) | (with_reducible apply bindO_ok) | (with_reducible apply mTup_ok) | (with_reducible apply mLst_ok) | (with_reducible apply mLst_okC) | (with_reducible apply mUn_ok) | (with_reducible apply mMet_ok) | (with_reducible apply mMetC_ok) | (with_reducible apply mGTup_ok) | (with_reducible apply mGCons_ok) | (with_reducible apply mGNil_ok) | (with_reducible apply mPar_ok) | (with_reducible apply mPar3_ok) | (with_reducible apply mSet_ok) | (with_reducible apply mSeqI_ok) | (with_reducible apply mRange1_ok) | (with_reducible apply mZip_ok) | (with_reducible apply mFrz_ok) | (with_reducible apply mFor_ok) | (with_reducible apply mCallV_ok) | (with_reducible apply gAddL) | (with_reducible apply gSumL) | (with_reducible apply gMax0) | (with_reducible apply gMax2) | (with_reducible apply gMaxP) | (with_reducible apply gAllL) | (with_reducible apply gTupL) | (with_reducible apply gTupT) | (with_reducible apply gListT) | (with_reducible apply gLenT) | (with_reducible apply gIsiT) | (with_reducible apply gIsNT) | (with_reducible apply gEqL0) | (with_reducible apply gNeL0) | (with_reducible apply gMul_ok) | (with_reducible apply gAdd_ok) | (with_reducible apply gSub_ok) | (with_reducible apply gEqI) | (with_reducible apply gNeI) | (with_reducible apply gLt_ok) | (with_reducible apply gLe_ok) | (with_reducible apply gGt_ok) | (with_reducible apply gGe_ok) | (with_reducible apply gInt_ok) | (with_reducible apply mulB_ok) | (with_reducible apply lim_ok) | ((with_reducible apply ite_t); (first | assumption | (exact decide_eq_true (by omega)) | (exact decide_eq_false (by omega)) | (simp only [Bool.not_eq_true', Bool.not_eq_false', Bool.not_not, decide_eq_false_iff_not, decide_eq_true_eq, Bool.false_eq_true, if_true, if_false, Bool.not_false, Bool.not_true, reduceIte]; omega) | exact rfl)) | ((with_reducible apply ite_f); (first | assumption | (exact decide_eq_true (by omega)) | (exact decide_eq_false (by omega)) | (simp only [Bool.not_eq_true', Bool.not_eq_false', Bool.not_not, decide_eq_false_iff_not, decide_eq_true_eq, Bool.false_eq_true, if_true, if_false, Bool.not_false, Bool.not_true, reduceIte]; omega) | exact rfl)) | (simp only [List.set_cons_succ, List.set_cons_zero, wipeD]; exact rfl) | (simp only [List.length_cons, List.length_nil, List.length_map, List.length_append]; omega) | (exact rfl) | (omega)))
    · intro f hf
      obtain ⟨o1, o2, o3, o4⟩ := ok f hf
      have w1 := e_worth (A := A) (mu := mu) a f.1 o1 o3
      have w2 := e_worth (A := A) (mu := mu) a f.2 o2 o4
      refine ⟨[some (.int n), some (.str k), some (five e r i m t), some (.tup (f.1.map encT)), some (.tup (f.2.map encT))], ?_, rfl, ?_⟩
      · (repeat' (first | (with_reducible assumption) | (with_reducible apply mVar_ok) | (with_reducible apply mC_ok) | (with_reducible apply mOp_ok) | (with_reducible apply mTest_ok) | (with_reducible apply mCons_ok) | (with_reducible apply mNil_ok) | (with_reducible apply mCall_ok) | (with_reducible apply mCallF_ok) | (with_reducible apply mSeq_eq) | (with_reducible apply seqNx) | (with_reducible apply seqRt) | (with_reducible apply mSkip_ok) | (with_reducible apply mRet_ok) | (with_reducible apply mRetN_ok) | (with_reducible apply mExpr_ok) | (with_reducible apply mAsg_ok) | (with_reducible apply mGName_ok) | (with_reducible apply mIfS_ok) | (with_reducible apply mTAnd_ok) | (with_reducible apply mTOr_ok) | (with_reducible apply mTNot_ok) | (with_reducible apply mAnd_ok) | (with_reducible apply mOr_ok) | (with_reducible apply mNot_ok) | (with_reducible apply mIf_ok) | (with_reducible apply mChain_ok) | (with_reducible apply bindO_ok) | (with_reducible apply mTup_ok) | (with_reducible apply mLst_ok) | (with_reducible apply mLst_okC) | (with_reducible apply mUn_ok) | (with_reducible apply mMet_ok) | (with_reducible apply mMetC_ok) | (with_reducible apply mGTup_ok) | (with_reducible apply mGCons_ok) | (with_reducible apply mGNil_ok) | (with_reducible apply mPar_ok) | (with_reducible apply mPar3_ok) | (with_reducible apply mSet_ok) | (with_reducible apply mSeqI_ok) | (with_reducible apply mRange1_ok) | (with_reducible apply mZip_ok) | (with_reducible apply mFrz_ok) | (with_reducible apply mFor_ok) | (with_reducible apply mCallV_ok) | (with_reducible apply gAddL) | (with_reducible apply gSumL) | (with_reducible apply gMax0) | (with_reducible apply gMax2) | (with_reducible apply gMaxP) | (with_reducible apply gAllL) | (with_reducible apply gTupL) | (with_reducible apply gTupT) | (with_reducible apply gListT) | (with_reducible apply gLenT) | (with_reducible apply gIsiT) | (with_reducible apply gIsNT) | (with_reducible apply gEqL0) | (with_reducible apply gNeL0) | (with_reducible apply gMul_ok) | (with_reducible apply gAdd_ok) | (with_reducible apply gSub_ok) | (with_reducible apply gEqI) | (with_reducible apply gNeI) | (with_reducible apply gLt_ok) | (with_reducible apply gLe_ok) | (with_reducible apply gGt_ok) | (with_reducible apply gGe_ok) | (with_reducible apply gInt_ok) | (with_reducible apply mulB_ok) | (with_reducible apply lim_ok) | ((with_reducible apply ite_t); (first | assumption | (exact decide_eq_true (by omega)) | (exact decide_eq_false (by omega)) | (simp only [Bool.not_eq_true', Bool.not_eq_false', Bool.not_not, decide_eq_false_iff_not, decide_eq_true_eq, Bool.false_eq_true, if_true, if_false, Bool.not_false, Bool.not_true, reduceIte]; omega) | exact rfl)) | ((with_reducible apply ite_f); (first | assumption | (exact decide_eq_true (by omega)) | (exact decide_eq_false (by omega)) | (simp only [Bool.not_eq_true', Bool.not_eq_false', Bool.not_not, decide_eq_false_iff_not, decide_eq_true_eq, Bool.false_eq_true, if_true, if_false, Bool.not_false, Bool.not_true, reduceIte]; omega) | exact rfl)) | (simp only [List.set_cons_succ, List.set_cons_zero, wipeD]; exact rfl) | (simp only [List.length_cons, List.length_nil, List.length_map, List.length_append]; omega) | (exact rfl) | (omega)))
      · show _ = Res.ok (D.bl (decide (wSum e r i m t f.1 ≤ wSum e r i m t f.2))) mu
        (repeat' (first | (with_reducible assumption) | (with_reducible apply mVar_ok) | (with_reducible apply mC_ok) | (with_reducible apply mOp_ok) | (with_reducible apply mTest_ok) | (with_reducible apply mCons_ok) | (with_reducible apply mNil_ok) | (with_reducible apply mCall_ok) | (with_reducible apply mCallF_ok) | (with_reducible apply mSeq_eq) | (with_reducible apply seqNx) | (with_reducible apply seqRt) | (with_reducible apply mSkip_ok) | (with_reducible apply mRet_ok) | (with_reducible apply mRetN_ok) | (with_reducible apply mExpr_ok) | (with_reducible apply mAsg_ok) | (with_reducible apply mGName_ok) | (with_reducible apply mIfS_ok) | (with_reducible apply mTAnd_ok) | (with_reducible apply mTOr_ok) | (with_reducible apply mTNot_ok) | (with_reducible apply mAnd_ok) | (with_reducible apply mOr_ok) | (with_reducible apply mNot_ok) | (with_reducible apply mIf_ok) | (with_reducible apply mChain_ok) | (with_reducible apply bindO_ok) | (with_reducible apply mTup_ok) | (with_reducible apply mLst_ok) | (with_reducible apply mLst_okC) | (with_reducible apply mUn_ok) | (with_reducible apply mMet_ok) | (with_reducible apply mMetC_ok) | (with_reducible apply mGTup_ok) | (with_reducible apply mGCons_ok) | (with_reducible apply mGNil_ok) | (with_reducible apply mPar_ok) | (with_reducible apply mPar3_ok) | (with_reducible apply mSet_ok) | (with_reducible apply mSeqI_ok) | (with_reducible apply mRange1_ok) | (with_reducible apply mZip_ok) | (with_reducible apply mFrz_ok) | (with_reducible apply mFor_ok) | (with_reducible apply mCallV_ok) | (with_reducible apply gAddL) | (with_reducible apply gSumL) | (with_reducible apply gMax0) | (with_reducible apply gMax2) | (with_reducible apply gMaxP) | (with_reducible apply gAllL) | (with_reducible apply gTupL) | (with_reducible apply gTupT) | (with_reducible apply gListT) | (with_reducible apply gLenT) | (with_reducible apply gIsiT) | (with_reducible apply gIsNT) | (with_reducible apply gEqL0) | (with_reducible apply gNeL0) | (with_reducible apply gMul_ok) | (with_reducible apply gAdd_ok) | (with_reducible apply gSub_ok) | (with_reducible apply gEqI) | (with_reducible apply gNeI) | (with_reducible apply gLt_ok) | (with_reducible apply gLe_ok) | (with_reducible apply gGt_ok) | (with_reducible apply gGe_ok) | (with_reducible apply gInt_ok) | (with_reducible apply mulB_ok) | (with_reducible apply lim_ok) | ((with_reducible apply ite_t); (first | assumption | (exact decide_eq_true (by omega)) | (exact decide_eq_false (by omega)) | (simp only [Bool.not_eq_true', Bool.not_eq_false', Bool.not_not, decide_eq_false_iff_not, decide_eq_true_eq, Bool.false_eq_true, if_true, if_false, Bool.not_false, Bool.not_true, reduceIte]; omega) | exact rfl)) | ((with_reducible apply ite_f); (first | assumption | (exact decide_eq_true (by omega)) | (exact decide_eq_false (by omega)) | (simp only [Bool.not_eq_true', Bool.not_eq_false', Bool.not_not, decide_eq_false_iff_not, decide_eq_true_eq, Bool.false_eq_true, if_true, if_false, Bool.not_false, Bool.not_true, reduceIte]; omega) | exact rfl)) | (simp only [List.set_cons_succ, List.set_cons_zero, wipeD]; exact rfl) | (simp only [List.length_cons, List.length_nil, List.length_map, List.length_append]; omega) | (exact rfl) | (omega)))
  have e1 : gBL (fun l => l.all id) mu [.lst (((factsOf n k).map (holdsF e r i m t)).map D.bl)] = some (D.bl ((factsOf n k).all (holdsF e r i m t)), mu) := by
    rw [gAllL, List.all_map]; rfl
  unfold m_keeps
  (repeat' (first | (with_reducible assumption) | (with_reducible exact q1) | (with_reducible apply mVar_ok) | (with_reducible apply mC_ok) | (with_reducible apply mOp_ok) | (with_reducible apply mTest_ok) | (with_reducible apply mCons_ok) | (with_reducible apply mNil_ok) | (with_reducible apply mCall_ok) | (with_reducible apply mCallF_ok) | (with_reducible apply mSeq_eq) | (with_reducible apply seqNx) | (with_reducible apply seqRt) | (with_reducible apply mSkip_ok) | (with_reducible apply mRet_ok) | (with_reducible apply mRetN_ok) | (with_reducible apply mExpr_ok) | (with_reducible apply mAsg_ok) | (with_reducible apply mGName_ok) | (with_reducible apply mIfS_ok) | (with_reducible apply mTAnd_ok) | (with_reducible apply mTOr_ok) | (with_reducible apply mTNot_ok) | (with_reducible apply mAnd_ok) | (with_reducible apply mOr_ok) | (with_reducible apply mNot_ok) | (with_reducible apply mIf_ok) | (with_reducible apply mChain_ok) | (with_reducible apply bindO_ok) | (with_reducible apply mTup_ok) | (with_reducible apply mLst_ok) | (with_reducible apply mLst_okC) | (with_reducible apply mUn_ok) | (with_reducible apply mMet_ok) | (with_reducible apply mMetC_ok) | (with_reducible apply mGTup_ok) | (with_reducible apply mGCons_ok) | (with_reducible apply mGNil_ok) | (with_reducible apply mPar_ok) | (with_reducible apply mPar3_ok) | (with_reducible apply mSet_ok) | (with_reducible apply mSeqI_ok) | (with_reducible apply mRange1_ok) | (with_reducible apply mZip_ok) | (with_reducible apply mFrz_ok) | (with_reducible apply mFor_ok) | (with_reducible apply mCallV_ok) | (with_reducible apply gAddL) | (with_reducible apply gSumL) | (with_reducible apply gMax0) | (with_reducible apply gMax2) | (with_reducible apply gMaxP) | (with_reducible apply gAllL) | (with_reducible apply gTupL) | (with_reducible apply gTupT) | (with_reducible apply gListT) | (with_reducible apply gLenT) | (with_reducible apply gIsiT) | (with_reducible apply gIsNT) | (with_reducible apply gEqL0) | (with_reducible apply gNeL0) | (with_reducible apply gMul_ok) | (with_reducible apply gAdd_ok) | (with_reducible apply gSub_ok) | (with_reducible apply gEqI) | (with_reducible apply gNeI) | (with_reducible apply gLt_ok) | (with_reducible apply gLe_ok) | (with_reducible apply gGt_ok) | (with_reducible apply gGe_ok) | (with_reducible apply gInt_ok) | (with_reducible apply mulB_ok) | (with_reducible apply lim_ok) | ((with_reducible apply ite_t); (first | assumption | (exact decide_eq_true (by omega)) | (exact decide_eq_false (by omega)) | (simp only [Bool.not_eq_true', Bool.not_eq_false', Bool.not_not, decide_eq_false_iff_not, decide_eq_true_eq, Bool.false_eq_true, if_true, if_false, Bool.not_false, Bool.not_true, reduceIte]; omega) | exact rfl)) | ((with_reducible apply ite_f); (first | assumption | (exact decide_eq_true (by omega)) | (exact decide_eq_false (by omega)) | (simp only [Bool.not_eq_true', Bool.not_eq_false', Bool.not_not, decide_eq_false_iff_not, decide_eq_true_eq, Bool.false_eq_true, if_true, if_false, Bool.not_false, Bool.not_true, reduceIte]; omega) | exact rfl)) | (simp only [List.set_cons_succ, List.set_cons_zero, wipeD]; exact rfl) | (simp only [List.length_cons, List.length_nil, List.length_map, List.length_append]; omega) | (exact rfl) | (omega)))
abbrev KD1 (e r i m t : Int) : List Str := if B1 e r i m t then ["one"] else []
abbrev KD2 (e r i m t : Int) : List Str := (if K1 e r i m t then (["one"] : List Str) else []) ++ (if K2 e r i m t then (["two"] : List Str) else [])
theorem e_kinds1 (a : Am e r i m t) : d_kinds A [.int 1, five e r i m t] mu = .ok (.lst ((KD1 e r i m t).map D.str)) mu := by
  refine denF_rt (env0 := [some (.int 1), some (five e r i m t), none]) rfl ?_
  have kw : d_kind_words A [.int 1] mu = .ok (.tup ((["one"] : List Str).map D.str)) mu := by
    refine denF_rt (env0 := [some (.int 1)]) rfl ?_
    unfold m_kind_words
    (repeat' (first | (with_reducible assumption) | (with_reducible apply mVar_ok) | (with_reducible apply mC_ok) | (with_reducible apply mOp_ok) | (with_reducible apply mTest_ok) | (with_reducible apply mCons_ok) | (with_reducible apply mNil_ok) | (with_reducible apply mCall_ok) | (with_reducible apply mCallF_ok) | (with_reducible apply mSeq_eq) | (with_reducible apply seqNx) | (with_reducible apply seqRt) | (with_reducible apply mSkip_ok) | (with_reducible apply mRet_ok) | (with_reducible apply mRetN_ok) | (with_reducible apply mExpr_ok) | (with_reducible apply mAsg_ok) | (with_reducible apply mGName_ok) | (with_reducible apply mIfS_ok) | (with_reducible apply mTAnd_ok) | (with_reducible apply mTOr_ok) | (with_reducible apply mTNot_ok) | (with_reducible apply mAnd_ok) | (with_reducible apply mOr_ok) | (with_reducible apply mNot_ok) | (with_reducible apply mIf_ok) | (with_reducible apply mChain_ok) | (with_reducible apply bindO_ok) | (with_reducible apply mTup_ok) | (with_reducible apply mLst_ok) | (with_reducible apply mLst_okC) | (with_reducible apply mUn_ok) | (with_reducible apply mMet_ok) | (with_reducible apply mMetC_ok) | (with_reducible apply mGTup_ok) | (with_reducible apply mGCons_ok) | (with_reducible apply mGNil_ok) | (with_reducible apply mPar_ok) | (with_reducible apply mPar3_ok) | (with_reducible apply mSet_ok) | (with_reducible apply mSeqI_ok) | (with_reducible apply mRange1_ok) | (with_reducible apply mZip_ok) | (with_reducible apply mFrz_ok) | (with_reducible apply mFor_ok) | (with_reducible apply mCallV_ok) | (with_reducible apply gAddL) | (with_reducible apply gSumL) | (with_reducible apply gMax0) | (with_reducible apply gMax2) | (with_reducible apply gMaxP) | (with_reducible apply gAllL) | (with_reducible apply gTupL) | (with_reducible apply gTupT) | (with_reducible apply gListT) | (with_reducible apply gLenT) | (with_reducible apply gIsiT) | (with_reducible apply gIsNT) | (with_reducible apply gEqL0) | (with_reducible apply gNeL0) | (with_reducible apply gMul_ok) | (with_reducible apply gAdd_ok) | (with_reducible apply gSub_ok) | (with_reducible apply gEqI) | (with_reducible apply gNeI) | (with_reducible apply gLt_ok) | (with_reducible apply gLe_ok) | (with_reducible apply gGt_ok) | (with_reducible apply gGe_ok) | (with_reducible apply gInt_ok) | (with_reducible apply mulB_ok) | (with_reducible apply lim_ok) | ((with_reducible apply ite_t); (first | assumption | (exact decide_eq_true (by omega)) | (exact decide_eq_false (by omega)) | (simp only [Bool.not_eq_true', Bool.not_eq_false', Bool.not_not, decide_eq_false_iff_not, decide_eq_true_eq, Bool.false_eq_true, if_true, if_false, Bool.not_false, Bool.not_true, reduceIte]; omega) | exact rfl)) | ((with_reducible apply ite_f); (first | assumption | (exact decide_eq_true (by omega)) | (exact decide_eq_false (by omega)) | (simp only [Bool.not_eq_true', Bool.not_eq_false', Bool.not_not, decide_eq_false_iff_not, decide_eq_true_eq, Bool.false_eq_true, if_true, if_false, Bool.not_false, Bool.not_true, reduceIte]; omega) | exact rfl)) | (simp only [List.set_cons_succ, List.set_cons_zero, wipeD]; exact rfl) | (simp only [List.length_cons, List.length_nil, List.length_map, List.length_append]; omega) | (exact rfl) | (omega)))
  have q1 : q_kinds_1 A [some (.int 1), some (five e r i m t), none] mu = .ok (.lst ((KD1 e r i m t).map D.str)) mu := by
    unfold q_kinds_1
    rw [mLc_filter (enc := D.str) (p := fun _ => B1 e r i m t) (f := D.str) ["one"] ?_ ?_ (by decide)]
    · congr 3
      unfold KD1
      cases B1 e r i m t <;> rfl
    · (repeat' (first | (with_reducible assumption) | (with_reducible apply mVar_ok) | (with_reducible apply mC_ok) | (with_reducible apply mOp_ok) | (with_reducible apply mTest_ok) | (with_reducible apply mCons_ok) | (with_reducible apply mNil_ok) | (with_reducible apply mCall_ok) | (with_reducible apply mCallF_ok) | (with_reducible apply mSeq_eq) | (with_reducible apply seqNx) | (with_reducible apply seqRt) | (with_reducible apply mSkip_ok) | (with_reducible apply mRet_ok) | (with_reducible apply mRetN_ok) | (with_reducible apply mExpr_ok) | (with_reducible apply mAsg_ok) | (with_reducible apply mGName_ok) | (with_reducible apply mIfS_ok) | (with_reducible apply mTAnd_ok) | (with_reducible apply mTOr_ok) | (with_reducible apply mTNot_ok) | (with_reducible apply mAnd_ok) | (with_reducible apply mOr_ok) | (with_reducible apply mNot_ok) | (with_reducible apply mIf_ok) | (with_reducible apply mChain_ok) | (with_reducible apply bindO_ok) | (with_reducible apply mTup_ok) | (with_reducible apply mLst_ok) | (with_reducible apply mLst_okC) | (with_reducible apply mUn_ok) | (with_reducible apply mMet_ok) | (with_reducible apply mMetC_ok) | (with_reducible apply mGTup_ok) | (with_reducible apply mGCons_ok) | (with_reducible apply mGNil_ok) | (with_reducible apply mPar_ok) | (with_reducible apply mPar3_ok) | (with_reducible apply mSet_ok) | (with_reducible apply mSeqI_ok) | (with_reducible apply mRange1_ok) | (with_reducible apply mZip_ok) | (with_reducible apply mFrz_ok) | (with_reducible apply mFor_ok) | (with_reducible apply mCallV_ok) | (with_reducible apply gAddL) | (with_reducible apply gSumL) | (with_reducible apply gMax0) | (with_reducible apply gMax2) | (with_reducible apply gMaxP) | (with_reducible apply gAllL) | (with_reducible apply gTupL) | (with_reducible apply gTupT) | (with_reducible apply gListT) | (with_reducible apply gLenT) | (with_reducible apply gIsiT) | (with_reducible apply gIsNT) | (with_reducible apply gEqL0) | (with_reducible apply gNeL0) | (with_reducible apply gMul_ok) | (with_reducible apply gAdd_ok) | (with_reducible apply gSub_ok) | (with_reducible apply gEqI) | (with_reducible apply gNeI) | (with_reducible apply gLt_ok) | (with_reducible apply gLe_ok) | (with_reducible apply gGt_ok) | (with_reducible apply gGe_ok) | (with_reducible apply gInt_ok) | (with_reducible apply mulB_ok) | (with_reducible apply lim_ok) | ((with_reducible apply ite_t); (first | assumption | (exact decide_eq_true (by omega)) | (exact decide_eq_false (by omega)) | (simp only [Bool.not_eq_true', Bool.not_eq_false', Bool.not_not, decide_eq_false_iff_not, decide_eq_true_eq, Bool.false_eq_true, if_true, if_false, Bool.not_false, Bool.not_true, reduceIte]; omega) | exact rfl)) | ((with_reducible apply ite_f); (first | assumption | (exact decide_eq_true (by omega)) | (exact decide_eq_false (by omega)) | (simp only [Bool.not_eq_true', Bool.not_eq_false', Bool.not_not, decide_eq_false_iff_not, decide_eq_true_eq, Bool.false_eq_true, if_true, if_false, Bool.not_false, Bool.not_true, reduceIte]; omega) | exact rfl)) | (simp only [List.set_cons_succ, List.set_cons_zero, wipeD]; exact rfl) | (simp only [List.length_cons, List.length_nil, List.length_map, List.length_append]; omega) | (exact rfl) | (omega)))
    · intro k hk
      have w := e_keeps (A := A) (mu := mu) a (n := 1) (k := k) (.inl rfl)
      have w : d_keeps A [.int 1, .str k, five e r i m t] mu = .ok (.bl (B1 e r i m t)) mu := w
      refine ⟨[some (.int 1), some (five e r i m t), some (.str k)], ?_, ?_, fun _ => ?_⟩
      · (repeat' (first | (with_reducible assumption) | (with_reducible apply mVar_ok) | (with_reducible apply mC_ok) | (with_reducible apply mOp_ok) | (with_reducible apply mTest_ok) | (with_reducible apply mCons_ok) | (with_reducible apply mNil_ok) | (with_reducible apply mCall_ok) | (with_reducible apply mCallF_ok) | (with_reducible apply mSeq_eq) | (with_reducible apply seqNx) | (with_reducible apply seqRt) | (with_reducible apply mSkip_ok) | (with_reducible apply mRet_ok) | (with_reducible apply mRetN_ok) | (with_reducible apply mExpr_ok) | (with_reducible apply mAsg_ok) | (with_reducible apply mGName_ok) | (with_reducible apply mIfS_ok) | (with_reducible apply mTAnd_ok) | (with_reducible apply mTOr_ok) | (with_reducible apply mTNot_ok) | (with_reducible apply mAnd_ok) | (with_reducible apply mOr_ok) | (with_reducible apply mNot_ok) | (with_reducible apply mIf_ok) | (with_reducible apply mChain_ok) | (with_reducible apply bindO_ok) | (with_reducible apply mTup_ok) | (with_reducible apply mLst_ok) | (with_reducible apply mLst_okC) | (with_reducible apply mUn_ok) | (with_reducible apply mMet_ok) | (with_reducible apply mMetC_ok) | (with_reducible apply mGTup_ok) | (with_reducible apply mGCons_ok) | (with_reducible apply mGNil_ok) | (with_reducible apply mPar_ok) | (with_reducible apply mPar3_ok) | (with_reducible apply mSet_ok) | (with_reducible apply mSeqI_ok) | (with_reducible apply mRange1_ok) | (with_reducible apply mZip_ok) | (with_reducible apply mFrz_ok) | (with_reducible apply mFor_ok) | (with_reducible apply mCallV_ok) | (with_reducible apply gAddL) | (with_reducible apply gSumL) | (with_reducible apply gMax0) | (with_reducible apply gMax2) | (with_reducible apply gMaxP) | (with_reducible apply gAllL) | (with_reducible apply gTupL) | (with_reducible apply gTupT) | (with_reducible apply gListT) | (with_reducible apply gLenT) | (with_reducible apply gIsiT) | (with_reducible apply gIsNT) | (with_reducible apply gEqL0) | (with_reducible apply gNeL0) | (with_reducible apply gMul_ok) | (with_reducible apply gAdd_ok) | (with_reducible apply gSub_ok) | (with_reducible apply gEqI) | (with_reducible apply gNeI) | (with_reducible apply gLt_ok) | (with_reducible apply gLe_ok) | (with_reducible apply gGt_ok) | (with_reducible apply gGe_ok) | (with_reducible apply gInt_ok) | (with_reducible apply mulB_ok) | (with_reducible apply lim_ok) | ((with_reducible apply ite_t); (first | assumption | (exact decide_eq_true (by omega)) | (exact decide_eq_false (by omega)) | (simp only [Bool.not_eq_true', Bool.not_eq_false', Bool.not_not, decide_eq_false_iff_not, decide_eq_true_eq, Bool.false_eq_true, if_true, if_false, Bool.not_false, Bool.not_true, reduceIte]; omega) | exact rfl)) | ((with_reducible apply ite_f); (first | assumption | (exact decide_eq_true (by omega)) | (exact decide_eq_false (by omega)) | (simp only [Bool.not_eq_true', Bool.not_eq_false', Bool.not_not, decide_eq_false_iff_not, decide_eq_true_eq, Bool.false_eq_true, if_true, if_false, Bool.not_false, Bool.not_true, reduceIte]; omega) | exact rfl)) | (simp only [List.set_cons_succ, List.set_cons_zero, wipeD]; exact rfl) | (simp only [List.length_cons, List.length_nil, List.length_map, List.length_append]; omega) | (exact rfl) | (omega)))
      · (repeat' (first | (with_reducible assumption) | (with_reducible apply mVar_ok) | (with_reducible apply mC_ok) | (with_reducible apply mOp_ok) | (with_reducible apply mTest_ok) | (with_reducible apply mCons_ok) | (with_reducible apply mNil_ok) | (with_reducible apply mCall_ok) | (with_reducible apply mCallF_ok) | (with_reducible apply mSeq_eq) | (with_reducible apply seqNx) | (with_reducible apply seqRt) | (with_reducible apply mSkip_ok) | (with_reducible apply mRet_ok) | (with_reducible apply mRetN_ok) | (with_reducible apply mExpr_ok) | (with_reducible apply mAsg_ok) | (with_reducible apply mGName_ok) | (with_reducible apply mIfS_ok) | (with_reducible apply mTAnd_ok) | (with_reducible apply mTOr_ok) | (with_reducible apply mTNot_ok) | (with_reducible apply mAnd_ok) | (with_reducible apply mOr_ok) | (with_reducible apply mNot_ok) | (with_reducible apply mIf_ok) | (with_reducible apply mChain_ok) | (with_reducible apply bindO_ok) | (with_reducible apply mTup_ok) | (with_reducible apply mLst_ok) | (with_reducible apply mLst_okC) | (with_reducible apply mUn_ok) | (with_reducible apply mMet_ok) | (with_reducible apply mMetC_ok) | (with_reducible apply mGTup_ok) | (with_reducible apply mGCons_ok) | (with_reducible apply mGNil_ok) | (with_reducible apply mPar_ok) | (with_reducible apply mPar3_ok) | (with_reducible apply mSet_ok) | (with_reducible apply mSeqI_ok) | (with_reducible apply mRange1_ok) | (with_reducible apply mZip_ok) | (with_reducible apply mFrz_ok) | (with_reducible apply mFor_ok) | (with_reducible apply mCallV_ok) | (with_reducible apply gAddL) | (with_reducible apply gSumL) | (with_reducible apply gMax0) | (with_reducible apply gMax2) | (with_reducible apply gMaxP) | (with_reducible apply gAllL) | (with_reducible apply gTupL) | (with_reducible apply gTupT) | (with_reducible apply gListT) | (with_reducible apply gLenT) | (with_reducible apply gIsiT) | (with_reducible apply gIsNT) | (with_reducible apply gEqL0) | (with_reducible apply gNeL0) | (with_reducible apply gMul_ok) | (with_reducible apply gAdd_ok) | (with_reducible apply gSub_ok) | (with_reducible apply gEqI) | (with_reducible apply gNeI) | (with_reducible apply gLt_ok) | (with_reducible apply gLe_ok) | (with_reducible apply gGt_ok) | (with_reducible apply gGe_ok) | (with_reducible apply gInt_ok) | (with_reducible apply mulB_ok) | (with_reducible apply lim_ok) | ((with_reducible apply ite_t); (first | assumption | (exact decide_eq_true (by omega)) | (exact decide_eq_false (by omega)) | (simp only [Bool.not_eq_true', Bool.not_eq_false', Bool.not_not, decide_eq_false_iff_not, decide_eq_true_eq, Bool.false_eq_true, if_true, if_false, Bool.not_false, Bool.not_true, reduceIte]; omega) | exact rfl)) | ((with_reducible apply ite_f); (first | assumption | (exact decide_eq_true (by omega)) | (exact decide_eq_false (by omega)) | (simp only [Bool.not_eq_true', Bool.not_eq_false', Bool.not_not, decide_eq_false_iff_not, decide_eq_true_eq, Bool.false_eq_true, if_true, if_false, Bool.not_false, Bool.not_true, reduceIte]; omega) | exact rfl)) | (simp only [List.set_cons_succ, List.set_cons_zero, wipeD]; exact rfl) | (simp only [List.length_cons, List.length_nil, List.length_map, List.length_append]; omega) | (exact rfl) | (omega)))
      · (repeat' (first | (with_reducible assumption) | (with_reducible apply mVar_ok) | (with_reducible apply mC_ok) | (with_reducible apply mOp_ok) | (with_reducible apply mTest_ok) | (with_reducible apply mCons_ok) | (with_reducible apply mNil_ok) | (with_reducible apply mCall_ok) | (with_reducible apply mCallF_ok) | (with_reducible apply mSeq_eq) | (with_reducible apply seqNx) | (with_reducible apply seqRt) | (with_reducible apply mSkip_ok) | (with_reducible apply mRet_ok) | (with_reducible apply mRetN_ok) | (with_reducible apply mExpr_ok) | (with_reducible apply mAsg_ok) | (with_reducible apply mGName_ok) | (with_reducible apply mIfS_ok) | (with_reducible apply mTAnd_ok) | (with_reducible apply mTOr_ok) | (with_reducible apply mTNot_ok) | (with_reducible apply mAnd_ok) | (with_reducible apply mOr_ok) | (with_reducible apply mNot_ok) | (with_reducible apply mIf_ok) | (with_reducible apply mChain_ok) | (with_reducible apply bindO_ok) | (with_reducible apply mTup_ok) | (with_reducible apply mLst_ok) | (with_reducible apply mLst_okC) | (with_reducible apply mUn_ok) | (with_reducible apply mMet_ok) | (with_reducible apply mMetC_ok) | (with_reducible apply mGTup_ok) | (with_reducible apply mGCons_ok) | (with_reducible apply mGNil_ok) | (with_reducible apply mPar_ok) | (with_reducible apply mPar3_ok) | (with_reducible apply mSet_ok) | (with_reducible apply mSeqI_ok) | (with_reducible apply mRange1_ok) | (with_reducible apply mZip_ok) | (with_reducible apply mFrz_ok) | (with_reducible apply mFor_ok) | (with_reducible apply mCallV_ok) | (with_reducible apply gAddL) | (with_reducible apply gSumL) | (with_reducible apply gMax0) | (with_reducible apply gMax2) | (with_reducible apply gMaxP) | (with_reducible apply gAllL) | (with_reducible apply gTupL) | (with_reducible apply gTupT) | (with_reducible apply gListT) | (with_reducible apply gLenT) | (with_reducible apply gIsiT) | (with_reducible apply gIsNT) | (with_reducible apply gEqL0) | (with_reducible apply gNeL0) | (with_reducible apply gMul_ok) | (with_reducible apply gAdd_ok) | (with_reducible apply gSub_ok) | (with_reducible apply gEqI) | (with_reducible apply gNeI) | (with_reducible apply gLt_ok) | (with_reducible apply gLe_ok) | (with_reducible apply gGt_ok) | (with_reducible apply gGe_ok) | (with_reducible apply gInt_ok) | (with_reducible apply mulB_ok) | (with_reducible apply lim_ok) | ((with_reducible apply ite_t); (first | assumption | (exact decide_eq_true (by omega)) | (exact decide_eq_false (by omega)) | (simp only [Bool.not_eq_true', Bool.not_eq_false', Bool.not_not, decide_eq_false_iff_not, decide_eq_true_eq, Bool.false_eq_true, if_true, if_false, Bool.not_false, Bool.not_true, reduceIte]; omega) | exact rfl)) | ((with_reducible apply ite_f); (first | assumption | (exact decide_eq_true (by omega)) | (exact decide_eq_false (by omega)) | (simp only [Bool.not_eq_true', Bool.not_eq_false', Bool.not_not, decide_eq_false_iff_not, decide_eq_true_eq, Bool.false_eq_true, if_true, if_false, Bool.not_false, Bool.not_true, reduceIte]; omega) | exact rfl)) | (simp only [List.set_cons_succ, List.set_cons_zero, wipeD]; exact rfl) | (simp only [List.length_cons, List.length_nil, List.length_map, List.length_append]; omega) | (exact rfl) | (omega)))
  have nd := e_need (A := A) (mu := mu) a (n := 1) (by decide) (by decide)
  unfold m_kinds
  (repeat' (first | (with_reducible assumption) | (with_reducible exact q1) | (with_reducible apply mVar_ok) | (with_reducible apply mC_ok) | (with_reducible apply mOp_ok) | (with_reducible apply mTest_ok) | (with_reducible apply mCons_ok) | (with_reducible apply mNil_ok) | (with_reducible apply mCall_ok) | (with_reducible apply mCallF_ok) | (with_reducible apply mSeq_eq) | (with_reducible apply seqNx) | (with_reducible apply seqRt) | (with_reducible apply mSkip_ok) | (with_reducible apply mRet_ok) | (with_reducible apply mRetN_ok) | (with_reducible apply mExpr_ok) | (with_reducible apply mAsg_ok) | (with_reducible apply mGName_ok) | (with_reducible apply mIfS_ok) | (with_reducible apply mTAnd_ok) | (with_reducible apply mTOr_ok) | (with_reducible apply mTNot_ok) | (with_reducible apply mAnd_ok) | (with_reducible apply mOr_ok) | (with_reducible apply mNot_ok) | (with_reducible apply mIf_ok) | (with_reducible apply mChain_ok) | (with_reducible apply bindO_ok) | (with_reducible apply mTup_ok) | (with_reducible apply mLst_ok) | (with_reducible apply mLst_okC) | (with_reducible apply mUn_ok) | (with_reducible apply mMet_ok) | (with_reducible apply mMetC_ok) | (with_reducible apply mGTup_ok) | (with_reducible apply mGCons_ok) | (with_reducible apply mGNil_ok) | (with_reducible apply mPar_ok) | (with_reducible apply mPar3_ok) | (with_reducible apply mSet_ok) | (with_reducible apply mSeqI_ok) | (with_reducible apply mRange1_ok) | (with_reducible apply mZip_ok) | (with_reducible apply mFrz_ok) | (with_reducible apply mFor_ok) | (with_reducible apply mCallV_ok) | (with_reducible apply gAddL) | (with_reducible apply gSumL) | (with_reducible apply gMax0) | (with_reducible apply gMax2) | (with_reducible apply gMaxP) | (with_reducible apply gAllL) | (with_reducible apply gTupL) | (with_reducible apply gTupT) | (with_reducible apply gListT) | (with_reducible apply gLenT) | (with_reducible apply gIsiT) | (with_reducible apply gIsNT) | (with_reducible apply gEqL0) | (with_reducible apply gNeL0) | (with_reducible apply gMul_ok) | (with_reducible apply gAdd_ok) | (with_reducible apply gSub_ok) | (with_reducible apply gEqI) | (with_reducible apply gNeI) | (with_reducible apply gLt_ok) | (with_reducible apply gLe_ok) | (with_reducible apply gGt_ok) | (with_reducible apply gGe_ok) | (with_reducible apply gInt_ok) | (with_reducible apply mulB_ok) | (with_reducible apply lim_ok) | ((with_reducible apply ite_t); (first | assumption | (exact decide_eq_true (by omega)) | (exact decide_eq_false (by omega)) | (simp only [Bool.not_eq_true', Bool.not_eq_false', Bool.not_not, decide_eq_false_iff_not, decide_eq_true_eq, Bool.false_eq_true, if_true, if_false, Bool.not_false, Bool.not_true, reduceIte]; omega) | exact rfl)) | ((with_reducible apply ite_f); (first | assumption | (exact decide_eq_true (by omega)) | (exact decide_eq_false (by omega)) | (simp only [Bool.not_eq_true', Bool.not_eq_false', Bool.not_not, decide_eq_false_iff_not, decide_eq_true_eq, Bool.false_eq_true, if_true, if_false, Bool.not_false, Bool.not_true, reduceIte]; omega) | exact rfl)) | (simp only [List.set_cons_succ, List.set_cons_zero, wipeD]; exact rfl) | (simp only [List.length_cons, List.length_nil, List.length_map, List.length_append]; omega) | (exact rfl) | (omega)))
theorem e_kinds2 (a : Am e r i m t) : d_kinds A [.int 2, five e r i m t] mu = .ok (.lst ((KD2 e r i m t).map D.str)) mu := by
  refine denF_rt (env0 := [some (.int 2), some (five e r i m t), none]) rfl ?_
  have kw : d_kind_words A [.int 2] mu = .ok (.tup ((["one", "two"] : List Str).map D.str)) mu := by
    refine denF_rt (env0 := [some (.int 2)]) rfl ?_
    unfold m_kind_words
    (repeat' (first | (with_reducible assumption) | (with_reducible apply mVar_ok) | (with_reducible apply mC_ok) | (with_reducible apply mOp_ok) | (with_reducible apply mTest_ok) | (with_reducible apply mCons_ok) | (with_reducible apply mNil_ok) | (with_reducible apply mCall_ok) | (with_reducible apply mCallF_ok) | (with_reducible apply mSeq_eq) | (with_reducible apply seqNx) | (with_reducible apply seqRt) | (with_reducible apply mSkip_ok) | (with_reducible apply mRet_ok) | (with_reducible apply mRetN_ok) | (with_reducible apply mExpr_ok) | (with_reducible apply mAsg_ok) | (with_reducible apply mGName_ok) | (with_reducible apply mIfS_ok) | (with_reducible apply mTAnd_ok) | (with_reducible apply mTOr_ok) | (with_reducible apply mTNot_ok) | (with_reducible apply mAnd_ok) | (with_reducible apply mOr_ok) | (with_reducible apply mNot_ok) | (with_reducible apply mIf_ok) | (with_reducible apply mChain_ok) | (with_reducible apply bindO_ok) | (with_reducible apply mTup_ok) | (with_reducible apply mLst_ok) | (with_reducible apply mLst_okC) | (with_reducible apply mUn_ok) | (with_reducible apply mMet_ok) | (with_reducible apply mMetC_ok) | (with_reducible apply mGTup_ok) | (with_reducible apply mGCons_ok) | (with_reducible apply mGNil_ok) | (with_reducible apply mPar_ok) | (with_reducible apply mPar3_ok) | (with_reducible apply mSet_ok) | (with_reducible apply mSeqI_ok) | (with_reducible apply mRange1_ok) | (with_reducible apply mZip_ok) | (with_reducible apply mFrz_ok) | (with_reducible apply mFor_ok) | (with_reducible apply mCallV_ok) | (with_reducible apply gAddL) | (with_reducible apply gSumL) | (with_reducible apply gMax0) | (with_reducible apply gMax2) | (with_reducible apply gMaxP) | (with_reducible apply gAllL) | (with_reducible apply gTupL) | (with_reducible apply gTupT) | (with_reducible apply gListT) | (with_reducible apply gLenT) | (with_reducible apply gIsiT) | (with_reducible apply gIsNT) | (with_reducible apply gEqL0) | (with_reducible apply gNeL0) | (with_reducible apply gMul_ok) | (with_reducible apply gAdd_ok) | (with_reducible apply gSub_ok) | (with_reducible apply gEqI) | (with_reducible apply gNeI) | (with_reducible apply gLt_ok) | (with_reducible apply gLe_ok) | (with_reducible apply gGt_ok) | (with_reducible apply gGe_ok) | (with_reducible apply gInt_ok) | (with_reducible apply mulB_ok) | (with_reducible apply lim_ok) | ((with_reducible apply ite_t); (first | assumption | (exact decide_eq_true (by omega)) | (exact decide_eq_false (by omega)) | (simp only [Bool.not_eq_true', Bool.not_eq_false', Bool.not_not, decide_eq_false_iff_not, decide_eq_true_eq, Bool.false_eq_true, if_true, if_false, Bool.not_false, Bool.not_true, reduceIte]; omega) | exact rfl)) | ((with_reducible apply ite_f); (first | assumption | (exact decide_eq_true (by omega)) | (exact decide_eq_false (by omega)) | (simp only [Bool.not_eq_true', Bool.not_eq_false', Bool.not_not, decide_eq_false_iff_not, decide_eq_true_eq, Bool.false_eq_true, if_true, if_false, Bool.not_false, Bool.not_true, reduceIte]; omega) | exact rfl)) | (simp only [List.set_cons_succ, List.set_cons_zero, wipeD]; exact rfl) | (simp only [List.length_cons, List.length_nil, List.length_map, List.length_append]; omega) | (exact rfl) | (omega)))
  have q1 : q_kinds_1 A [some (.int 2), some (five e r i m t), none] mu = .ok (.lst ((KD2 e r i m t).map D.str)) mu := by
    unfold q_kinds_1
    rw [mLc_filter (enc := D.str) (p := fun k => (factsOf 2 k).all (holdsF e r i m t)) (f := D.str) ["one", "two"] ?_ ?_ (by decide)]
    · have h1 : (factsOf 2 "one").all (holdsF e r i m t) = K1 e r i m t := rfl
      have h2 : (factsOf 2 "two").all (holdsF e r i m t) = K2 e r i m t := rfl
      congr 3
      simp only [List.filter_cons, List.filter_nil, h1, h2, KD2]
      cases K1 e r i m t <;> cases K2 e r i m t <;> rfl
    · (repeat' (first | (with_reducible assumption) | (with_reducible apply mVar_ok) | (with_reducible apply mC_ok) | (with_reducible apply mOp_ok) | (with_reducible apply mTest_ok) | (with_reducible apply mCons_ok) | (with_reducible apply mNil_ok) | (with_reducible apply mCall_ok) | (with_reducible apply mCallF_ok) | (with_reducible apply mSeq_eq) | (with_reducible apply seqNx) | (with_reducible apply seqRt) | (with_reducible apply mSkip_ok) | (with_reducible apply mRet_ok) | (with_reducible apply mRetN_ok) | (with_reducible apply mExpr_ok) | (with_reducible apply mAsg_ok) | (with_reducible apply mGName_ok) | (with_reducible apply mIfS_ok) | (with_reducible apply mTAnd_ok) | (with_reducible apply mTOr_ok) | (with_reducible apply mTNot_ok) | (with_reducible apply mAnd_ok) | (with_reducible apply mOr_ok) | (with_reducible apply mNot_ok) | (with_reducible apply mIf_ok) | (with_reducible apply mChain_ok) | (with_reducible apply bindO_ok) | (with_reducible apply mTup_ok) | (with_reducible apply mLst_ok) | (with_reducible apply mLst_okC) | (with_reducible apply mUn_ok) | (with_reducible apply mMet_ok) | (with_reducible apply mMetC_ok) | (with_reducible apply mGTup_ok) | (with_reducible apply mGCons_ok) | (with_reducible apply mGNil_ok) | (with_reducible apply mPar_ok) | (with_reducible apply mPar3_ok) | (with_reducible apply mSet_ok) | (with_reducible apply mSeqI_ok) | (with_reducible apply mRange1_ok) | (with_reducible apply mZip_ok) | (with_reducible apply mFrz_ok) | (with_reducible apply mFor_ok) | (with_reducible apply mCallV_ok) | (with_reducible apply gAddL) | (with_reducible apply gSumL) | (with_reducible apply gMax0) | (with_reducible apply gMax2) | (with_reducible apply gMaxP) | (with_reducible apply gAllL) | (with_reducible apply gTupL) | (with_reducible apply gTupT) | (with_reducible apply gListT) | (with_reducible apply gLenT) | (with_reducible apply gIsiT) | (with_reducible apply gIsNT) | (with_reducible apply gEqL0) | (with_reducible apply gNeL0) | (with_reducible apply gMul_ok) | (with_reducible apply gAdd_ok) | (with_reducible apply gSub_ok) | (with_reducible apply gEqI) | (with_reducible apply gNeI) | (with_reducible apply gLt_ok) | (with_reducible apply gLe_ok) | (with_reducible apply gGt_ok) | (with_reducible apply gGe_ok) | (with_reducible apply gInt_ok) | (with_reducible apply mulB_ok) | (with_reducible apply lim_ok) | ((with_reducible apply ite_t); (first | assumption | (exact decide_eq_true (by omega)) | (exact decide_eq_false (by omega)) | (simp only [Bool.not_eq_true', Bool.not_eq_false', Bool.not_not, decide_eq_false_iff_not, decide_eq_true_eq, Bool.false_eq_true, if_true, if_false, Bool.not_false, Bool.not_true, reduceIte]; omega) | exact rfl)) | ((with_reducible apply ite_f); (first | assumption | (exact decide_eq_true (by omega)) | (exact decide_eq_false (by omega)) | (simp only [Bool.not_eq_true', Bool.not_eq_false', Bool.not_not, decide_eq_false_iff_not, decide_eq_true_eq, Bool.false_eq_true, if_true, if_false, Bool.not_false, Bool.not_true, reduceIte]; omega) | exact rfl)) | (simp only [List.set_cons_succ, List.set_cons_zero, wipeD]; exact rfl) | (simp only [List.length_cons, List.length_nil, List.length_map, List.length_append]; omega) | (exact rfl) | (omega)))
    · intro k hk
      have hk' : k = "one" ∨ k = "two" := by simpa using hk
      have w := e_keeps (A := A) (mu := mu) a (n := 2) (k := k) (.inr ⟨rfl, hk'⟩)
      refine ⟨[some (.int 2), some (five e r i m t), some (.str k)], ?_, ?_, fun _ => ?_⟩
      · (repeat' (first | (with_reducible assumption) | (with_reducible apply mVar_ok) | (with_reducible apply mC_ok) | (with_reducible apply mOp_ok) | (with_reducible apply mTest_ok) | (with_reducible apply mCons_ok) | (with_reducible apply mNil_ok) | (with_reducible apply mCall_ok) | (with_reducible apply mCallF_ok) | (with_reducible apply mSeq_eq) | (with_reducible apply seqNx) | (with_reducible apply seqRt) | (with_reducible apply mSkip_ok) | (with_reducible apply mRet_ok) | (with_reducible apply mRetN_ok) | (with_reducible apply mExpr_ok) | (with_reducible apply mAsg_ok) | (with_reducible apply mGName_ok) | (with_reducible apply mIfS_ok) | (with_reducible apply mTAnd_ok) | (with_reducible apply mTOr_ok) | (with_reducible apply mTNot_ok) | (with_reducible apply mAnd_ok) | (with_reducible apply mOr_ok) | (with_reducible apply mNot_ok) | (with_reducible apply mIf_ok) | (with_reducible apply mChain_ok) | (with_reducible apply bindO_ok) | (with_reducible apply mTup_ok) | (with_reducible apply mLst_ok) | (with_reducible apply mLst_okC) | (with_reducible apply mUn_ok) | (with_reducible apply mMet_ok) | (with_reducible apply mMetC_ok) | (with_reducible apply mGTup_ok) | (with_reducible apply mGCons_ok) | (with_reducible apply mGNil_ok) | (with_reducible apply mPar_ok) | (with_reducible apply mPar3_ok) | (with_reducible apply mSet_ok) | (with_reducible apply mSeqI_ok) | (with_reducible apply mRange1_ok) | (with_reducible apply mZip_ok) | (with_reducible apply mFrz_ok) | (with_reducible apply mFor_ok) | (with_reducible apply mCallV_ok) | (with_reducible apply gAddL) | (with_reducible apply gSumL) | (with_reducible apply gMax0) | (with_reducible apply gMax2) | (with_reducible apply gMaxP) | (with_reducible apply gAllL) | (with_reducible apply gTupL) | (with_reducible apply gTupT) | (with_reducible apply gListT) | (with_reducible apply gLenT) | (with_reducible apply gIsiT) | (with_reducible apply gIsNT) | (with_reducible apply gEqL0) | (with_reducible apply gNeL0) | (with_reducible apply gMul_ok) | (with_reducible apply gAdd_ok) | (with_reducible apply gSub_ok) | (with_reducible apply gEqI) | (with_reducible apply gNeI) | (with_reducible apply gLt_ok) | (with_reducible apply gLe_ok) | (with_reducible apply gGt_ok) | (with_reducible apply gGe_ok) | (with_reducible apply gInt_ok) | (with_reducible apply mulB_ok) | (with_reducible apply lim_ok) | ((with_reducible apply ite_t); (first | assumption | (exact decide_eq_true (by omega)) | (exact decide_eq_false (by omega)) | (simp only [Bool.not_eq_true', Bool.not_eq_false', Bool.not_not, decide_eq_false_iff_not, decide_eq_true_eq, Bool.false_eq_true, if_true, if_false, Bool.not_false, Bool.not_true, reduceIte]; omega) | exact rfl)) | ((with_reducible apply ite_f); (first | assumption | (exact decide_eq_true (by omega)) | (exact decide_eq_false (by omega)) | (simp only [Bool.not_eq_true', Bool.not_eq_false', Bool.not_not, decide_eq_false_iff_not, decide_eq_true_eq, Bool.false_eq_true, if_true, if_false, Bool.not_false, Bool.not_true, reduceIte]; omega) | exact rfl)) | (simp only [List.set_cons_succ, List.set_cons_zero, wipeD]; exact rfl) | (simp only [List.length_cons, List.length_nil, List.length_map, List.length_append]; omega) | (exact rfl) | (omega)))
      · (repeat' (first | (with_reducible assumption) | (with_reducible apply mVar_ok) | (with_reducible apply mC_ok) | (with_reducible apply mOp_ok) | (with_reducible apply mTest_ok) | (with_reducible apply mCons_ok) | (with_reducible apply mNil_ok) | (with_reducible apply mCall_ok) | (with_reducible apply mCallF_ok) | (with_reducible apply mSeq_eq) | (with_reducible apply seqNx) | (with_reducible apply seqRt) | (with_reducible apply mSkip_ok) | (with_reducible apply mRet_ok) | (with_reducible apply mRetN_ok) | (with_reducible apply mExpr_ok) | (with_reducible apply mAsg_ok) | (with_reducible apply mGName_ok) | (with_reducible apply mIfS_ok) | (with_reducible apply mTAnd_ok) | (with_reducible apply mTOr_ok) | (with_reducible apply mTNot_ok) | (with_reducible apply mAnd_ok) | (with_reducible apply mOr_ok) | (with_reducible apply mNot_ok) | (with_reducible apply mIf_ok) | (with_reducible apply mChain_ok) | (with_reducible apply bindO_ok) | (with_reducible apply mTup_ok) | (with_reducible apply mLst_ok) | (with_reducible apply mLst_okC) | (with_reducible apply mUn_ok) | (with_reducible apply mMet_ok) | (with_reducible apply mMetC_ok) | (with_reducible apply mGTup_ok) | (with_reducible apply mGCons_ok) | (with_reducible apply mGNil_ok) | (with_reducible apply mPar_ok) | (with_reducible apply mPar3_ok) | (with_reducible apply mSet_ok) | (with_reducible apply mSeqI_ok) | (with_reducible apply mRange1_ok) | (with_reducible apply mZip_ok) | (with_reducible apply mFrz_ok) | (with_reducible apply mFor_ok) | (with_reducible apply mCallV_ok) | (with_reducible apply gAddL) | (with_reducible apply gSumL) | (with_reducible apply gMax0) | (with_reducible apply gMax2) | (with_reducible apply gMaxP) | (with_reducible apply gAllL) | (with_reducible apply gTupL) | (with_reducible apply gTupT) | (with_reducible apply gListT) | (with_reducible apply gLenT) | (with_reducible apply gIsiT) | (with_reducible apply gIsNT) | (with_reducible apply gEqL0) | (with_reducible apply gNeL0) | (with_reducible apply gMul_ok) | (with_reducible apply gAdd_ok) | (with_reducible apply gSub_ok) | (with_reducible apply gEqI) | (with_reducible apply gNeI) | (with_reducible apply gLt_ok) | (with_reducible apply gLe_ok) | (with_reducible apply gGt_ok) | (with_reducible apply gGe_ok) | (with_reducible apply gInt_ok) | (with_reducible apply mulB_ok) | (with_reducible apply lim_ok) | ((with_reducible apply ite_t); (first | assumption | (exact decide_eq_true (by omega)) | (exact decide_eq_false (by omega)) | (simp only [Bool.not_eq_true', Bool.not_eq_false', Bool.not_not, decide_eq_false_iff_not, decide_eq_true_eq, Bool.false_eq_true, if_true, if_false, Bool.not_false, Bool.not_true, reduceIte]; omega) | exact rfl)) | ((with_reducible apply ite_f); (first | assumption | (exact decide_eq_true (by omega)) | (exact decide_eq_false (by omega)) | (simp only [Bool.not_eq_true', Bool.not_eq_false', Bool.not_not, decide_eq_false_iff_not, decide_eq_true_eq, Bool.false_eq_true, if_true, if_false, Bool.not_false, Bool.not_true, reduceIte]; omega) | exact rfl)) | (simp only [List.set_cons_succ, List.set_cons_zero, wipeD]; exact rfl) | (simp only [List.length_cons, List.length_nil, List.length_map, List.length_append]; omega) | (exact rfl) | (omega)))
      · (repeat' (first | (with_reducible assumption) | (with_reducible apply mVar_ok) | (with_reducible apply mC_ok) | (with_reducible apply mOp_ok) | (with_reducible apply mTest_ok) | (with_reducible apply mCons_ok) | (with_reducible apply mNil_ok) | (with_reducible apply mCall_ok) | (with_reducible apply mCallF_ok) | (with_reducible apply mSeq_eq) | (with_reducible apply seqNx) | (with_reducible apply seqRt) | (with_reducible apply mSkip_ok) | (with_reducible apply mRet_ok) | (with_reducible apply mRetN_ok) | (with_reducible apply mExpr_ok) | (with_reducible apply mAsg_ok) | (with_reducible apply mGName_ok) | (with_reducible apply mIfS_ok) | (with_reducible apply mTAnd_ok) | (with_reducible apply mTOr_ok) | (with_reducible apply mTNot_ok) | (with_reducible apply mAnd_ok) | (with_reducible apply mOr_ok) | (with_reducible apply mNot_ok) | (with_reducible apply mIf_ok) | (with_reducible apply mChain_ok) | (with_reducible apply bindO_ok) | (with_reducible apply mTup_ok) | (with_reducible apply mLst_ok) | (with_reducible apply mLst_okC) | (with_reducible apply mUn_ok) | (with_reducible apply mMet_ok) | (with_reducible apply mMetC_ok) | (with_reducible apply mGTup_ok) | (with_reducible apply mGCons_ok) | (with_reducible apply mGNil_ok) | (with_reducible apply mPar_ok) | (with_reducible apply mPar3_ok) | (with_reducible apply mSet_ok) | (with_reducible apply mSeqI_ok) | (with_reducible apply mRange1_ok) | (with_reducible apply mZip_ok) | (with_reducible apply mFrz_ok) | (with_reducible apply mFor_ok) | (with_reducible apply mCallV_ok) | (with_reducible apply gAddL) | (with_reducible apply gSumL) | (with_reducible apply gMax0) | (with_reducible apply gMax2) | (with_reducible apply gMaxP) | (with_reducible apply gAllL) | (with_reducible apply gTupL) | (with_reducible apply gTupT) | (with_reducible apply gListT) | (with_reducible apply gLenT) | (with_reducible apply gIsiT) | (with_reducible apply gIsNT) | (with_reducible apply gEqL0) | (with_reducible apply gNeL0) | (with_reducible apply gMul_ok) | (with_reducible apply gAdd_ok) | (with_reducible apply gSub_ok) | (with_reducible apply gEqI) | (with_reducible apply gNeI) | (with_reducible apply gLt_ok) | (with_reducible apply gLe_ok) | (with_reducible apply gGt_ok) | (with_reducible apply gGe_ok) | (with_reducible apply gInt_ok) | (with_reducible apply mulB_ok) | (with_reducible apply lim_ok) | ((with_reducible apply ite_t); (first | assumption | (exact decide_eq_true (by omega)) | (exact decide_eq_false (by omega)) | (simp only [Bool.not_eq_true', Bool.not_eq_false', Bool.not_not, decide_eq_false_iff_not, decide_eq_true_eq, Bool.false_eq_true, if_true, if_false, Bool.not_false, Bool.not_true, reduceIte]; omega) | exact rfl)) | ((with_reducible apply ite_f); (first | assumption | (exact decide_eq_true (by omega)) | (exact decide_eq_false (by omega)) | (simp only [Bool.not_eq_true', Bool.not_eq_false', Bool.not_not, decide_eq_false_iff_not, decide_eq_true_eq, Bool.false_eq_true, if_true, if_false, Bool.not_false, Bool.not_true, reduceIte]; omega) | exact rfl)) | (simp only [List.set_cons_succ, List.set_cons_zero, wipeD]; exact rfl) | (simp only [List.length_cons, List.length_nil, List.length_map, List.length_append]; omega) | (exact rfl) | (omega)))
  have nd := e_need (A := A) (mu := mu) a (n := 2) (by decide) (by decide)
  unfold m_kinds
  (repeat' (first | (with_reducible assumption) | (with_reducible exact q1) | (with_reducible apply mVar_ok) | (with_reducible apply mC_ok) | (with_reducible apply mOp_ok) | (with_reducible apply mTest_ok) | (with_reducible apply mCons_ok) | (with_reducible apply mNil_ok) | (with_reducible apply mCall_ok) | (with_reducible apply mCallF_ok) | (with_reducible apply mSeq_eq) | (with_reducible apply seqNx) | (with_reducible apply seqRt) | (with_reducible apply mSkip_ok) | (with_reducible apply mRet_ok) | (with_reducible apply mRetN_ok) | (with_reducible apply mExpr_ok) | (with_reducible apply mAsg_ok) | (with_reducible apply mGName_ok) | (with_reducible apply mIfS_ok) | (with_reducible apply mTAnd_ok) | (with_reducible apply mTOr_ok) | (with_reducible apply mTNot_ok) | (with_reducible apply mAnd_ok) | (with_reducible apply mOr_ok) | (with_reducible apply mNot_ok) | (with_reducible apply mIf_ok) | (with_reducible apply mChain_ok) | (with_reducible apply bindO_ok) | (with_reducible apply mTup_ok) | (with_reducible apply mLst_ok) | (with_reducible apply mLst_okC) | (with_reducible apply mUn_ok) | (with_reducible apply mMet_ok) | (with_reducible apply mMetC_ok) | (with_reducible apply mGTup_ok) | (with_reducible apply mGCons_ok) | (with_reducible apply mGNil_ok) | (with_reducible apply mPar_ok) | (with_reducible apply mPar3_ok) | (with_reducible apply mSet_ok) | (with_reducible apply mSeqI_ok) | (with_reducible apply mRange1_ok) | (with_reducible apply mZip_ok) | (with_reducible apply mFrz_ok) | (with_reducible apply mFor_ok) | (with_reducible apply mCallV_ok) | (with_reducible apply gAddL) | (with_reducible apply gSumL) | (with_reducible apply gMax0) | (with_reducible apply gMax2) | (with_reducible apply gMaxP) | (with_reducible apply gAllL) | (with_reducible apply gTupL) | (with_reducible apply gTupT) | (with_reducible apply gListT) | (with_reducible apply gLenT) | (with_reducible apply gIsiT) | (with_reducible apply gIsNT) | (with_reducible apply gEqL0) | (with_reducible apply gNeL0) | (with_reducible apply gMul_ok) | (with_reducible apply gAdd_ok) | (with_reducible apply gSub_ok) | (with_reducible apply gEqI) | (with_reducible apply gNeI) | (with_reducible apply gLt_ok) | (with_reducible apply gLe_ok) | (with_reducible apply gGt_ok) | (with_reducible apply gGe_ok) | (with_reducible apply gInt_ok) | (with_reducible apply mulB_ok) | (with_reducible apply lim_ok) | ((with_reducible apply ite_t); (first | assumption | (exact decide_eq_true (by omega)) | (exact decide_eq_false (by omega)) | (simp only [Bool.not_eq_true', Bool.not_eq_false', Bool.not_not, decide_eq_false_iff_not, decide_eq_true_eq, Bool.false_eq_true, if_true, if_false, Bool.not_false, Bool.not_true, reduceIte]; omega) | exact rfl)) | ((with_reducible apply ite_f); (first | assumption | (exact decide_eq_true (by omega)) | (exact decide_eq_false (by omega)) | (simp only [Bool.not_eq_true', Bool.not_eq_false', Bool.not_not, decide_eq_false_iff_not, decide_eq_true_eq, Bool.false_eq_true, if_true, if_false, Bool.not_false, Bool.not_true, reduceIte]; omega) | exact rfl)) | (simp only [List.set_cons_succ, List.set_cons_zero, wipeD]; exact rfl) | (simp only [List.length_cons, List.length_nil, List.length_map, List.length_append]; omega) | (exact rfl) | (omega)))
end
end
end K22

namespace K22
open PySem L2 DL
section
variable {A : Ad} {mu : Mu}
section
variable {e r i m t : Int}
/-! items_for -/
abbrev encR (p : Int × D) : D := .tup [.int p.1, p.2]
theorem bmul2 {x : Int} {n : Nat} (h : Builtin.Int.intBits x ≤ n) (hn : n ≤ 40000000) : mulB 2 x = true := mulB_ok (by have := bits2; omega) (by omega)
theorem e_pairs1 {n : Nat} (hn : n ≤ 30000000) (be : Builtin.Int.intBits e ≤ n) (br : Builtin.Int.intBits r ≤ n) (bm : Builtin.Int.intBits m ≤ n) : ∃ rs : List (Int × D), d_pairs_for_one A [five e r i m t] mu = .ok (.lst (rs.map encR)) mu ∧ rs.length ≤ 10 := by
  have hm : mulB 2 (r - m) = true := bmul2 (intBits_sub_le br bm) (by omega)
  have key : d_pairs_for_one A [five e r i m t] mu = .ok (.lst [.tup [.int 1, .tup [.int m, .int (t - m)]], .tup [.int (2 * (r - m) - (e - t)), .tup [.int 1, .int 0]], .tup [.int ((e - t) - (r - m)), .tup [.int 1, .int 1]]]) mu := by
    refine denF_rt (env0 := [some (five e r i m t), none, none, none, none, none, none, none]) rfl ?_
    unfold m_pairs_for_one
    (repeat' (first | (with_reducible assumption) | (with_reducible apply mVar_ok) | (with_reducible apply mC_ok) | (with_reducible apply mOp_ok) | (with_reducible apply mTest_ok) | (with_reducible apply mCons_ok) | (with_reducible apply mNil_ok) | (with_reducible apply mCall_ok) | (with_reducible apply mCallF_ok) | (with_reducible apply mSeq_eq) | (with_reducible apply seqNx) | (with_reducible apply seqRt) | (with_reducible apply mSkip_ok) | (with_reducible apply mRet_ok) | (with_reducible apply mRetN_ok) | (with_reducible apply mExpr_ok) | (with_reducible apply mAsg_ok) | (with_reducible apply mGName_ok) | (with_reducible apply mIfS_ok) | (with_reducible apply mTAnd_ok) | (with_reducible apply mTOr_ok) | (with_reducible apply mTNot_ok) | (with_reducible apply mAnd_ok) | (with_reducible apply mOr_ok) | (with_reducible apply mNot_ok) | (with_reducible apply mIf_ok) | (with_reducible apply mChain_ok) | (with_reducible apply bindO_ok) | (with_reducible apply mTup_ok) | (with_reducible apply mLst_ok) | (with_reducible apply mLst_okC) | (with_reducible apply mUn_ok) | (with_reducible apply mMet_ok) | (with_reducible apply mMetC_ok) | (with_reducible apply mGTup_ok) | (with_reducible apply mGCons_ok) | (with_reducible apply mGNil_ok) | (with_reducible apply mPar_ok) | (with_reducible apply mPar3_ok) | (with_reducible apply mSet_ok) | (with_reducible apply mSeqI_ok) | (with_reducible apply mRange1_ok) | (with_reducible apply mZip_ok) | (with_reducible apply mFrz_ok) | (with_reducible apply mFor_ok) | (with_reducible apply mCallV_ok) | (with_reducible apply gAddL) | (with_reducible apply gSumL) | (with_reducible apply gMax0) | (with_reducible apply gMax2) | (with_reducible apply gMaxP) | (with_reducible apply gAllL) | (with_reducible apply gTupL) | (with_reducible apply gTupT) | (with_reducible apply gListT) | (with_reducible apply gLenT) | (with_reducible apply gIsiT) | (with_reducible apply gIsNT) | (with_reducible apply gEqL0) | (with_reducible apply gNeL0) | (with_reducible apply gMul_ok) | (with_reducible apply gAdd_ok) | (with_reducible apply gSub_ok) | (with_reducible apply gEqI) | (with_reducible apply gNeI) | (with_reducible apply gLt_ok) | (with_reducible apply gLe_ok) | (with_reducible apply gGt_ok) | (with_reducible apply gGe_ok) | (with_reducible apply gInt_ok) | (with_reducible apply mulB_ok) | (with_reducible apply lim_ok) | ((with_reducible apply ite_t); (first | assumption | (exact decide_eq_true (by omega)) | (exact decide_eq_false (by omega)) | (simp only [Bool.not_eq_true', Bool.not_eq_false', Bool.not_not, decide_eq_false_iff_not, decide_eq_true_eq, Bool.false_eq_true, if_true, if_false, Bool.not_false, Bool.not_true, reduceIte]; omega) | exact rfl)) | ((with_reducible apply ite_f); (first | assumption | (exact decide_eq_true (by omega)) | (exact decide_eq_false (by omega)) | (simp only [Bool.not_eq_true', Bool.not_eq_false', Bool.not_not, decide_eq_false_iff_not, decide_eq_true_eq, Bool.false_eq_true, if_true, if_false, Bool.not_false, Bool.not_true, reduceIte]; omega) | exact rfl)) | (simp only [List.set_cons_succ, List.set_cons_zero, wipeD]; exact rfl) | (simp only [List.length_cons, List.length_nil, List.length_map, List.length_append]; omega) | (exact rfl) | (omega)))
  exact ⟨[(1, .tup [.int m, .int (t - m)]), (2 * (r - m) - (e - t), .tup [.int 1, .int 0]), ((e - t) - (r - m), .tup [.int 1, .int 1])], key, by simp⟩
theorem gMaxQ {x : Int} : gMax mu [.lst [.int 0, .int x]] = some (.int (max 0 x), mu) := rfl
theorem e_pairs2 {n : Nat} (hn : n ≤ 30000000) (be : Builtin.Int.intBits e ≤ n) (br : Builtin.Int.intBits r ≤ n) (bm : Builtin.Int.intBits m ≤ n) (bt : Builtin.Int.intBits t ≤ n) : ∃ rs : List (Int × D), d_pairs_for_two A [five e r i m t] mu = .ok (.lst (rs.map encR)) mu ∧ rs.length ≤ 10 := by
  have hm : mulB 2 (r - t) = true := bmul2 (intBits_sub_le br bt) (by omega)
  have hr : mulB 2 r = true := bmul2 br (by omega)
  have ht : mulB 2 t = true := bmul2 bt (by omega)
  let f := max 0 (e - i - (t - m) - 2 * r + 2 * t)
  have key : d_pairs_for_two A [five e r i m t] mu = .ok (.lst [.tup [.int 1, .tup [.int m, .int (i - m)]], .tup [.int 1, .tup [.int f, .int (t - m)]], .tup [.int (2 * (r - t) - (e - i - (t - m) - f)), .tup [.int 1, .int 0]], .tup [.int ((e - i - (t - m) - f) - (r - t)), .tup [.int 1, .int 1]]]) mu := by
    refine denF_rt (env0 := [some (five e r i m t), none, none, none, none, none, none, none, none, none]) rfl ?_
    unfold m_pairs_for_two
    (repeat' (first | (with_reducible assumption) | (with_reducible exact gMaxQ) | (with_reducible apply mVar_ok) | (with_reducible apply mC_ok) | (with_reducible apply mOp_ok) | (with_reducible apply mTest_ok) | (with_reducible apply mCons_ok) | (with_reducible apply mNil_ok) | (with_reducible apply mCall_ok) | (with_reducible apply mCallF_ok) | (with_reducible apply mSeq_eq) | (with_reducible apply seqNx) | (with_reducible apply seqRt) | (with_reducible apply mSkip_ok) | (with_reducible apply mRet_ok) | (with_reducible apply mRetN_ok) | (with_reducible apply mExpr_ok) | (with_reducible apply mAsg_ok) | (with_reducible apply mGName_ok) | (with_reducible apply mIfS_ok) | (with_reducible apply mTAnd_ok) | (with_reducible apply mTOr_ok) | (with_reducible apply mTNot_ok) | (with_reducible apply mAnd_ok) | (with_reducible apply mOr_ok) | (with_reducible apply mNot_ok) | (with_reducible apply mIf_ok) | (with_reducible apply mChain_ok) | (with_reducible apply bindO_ok) | (with_reducible apply mTup_ok) | (with_reducible apply mLst_ok) | (with_reducible apply mLst_okC) | (with_reducible apply mUn_ok) | (with_reducible apply mMet_ok) | (with_reducible apply mMetC_ok) | (with_reducible apply mGTup_ok) | (with_reducible apply mGCons_ok) | (with_reducible apply mGNil_ok) | (with_reducible apply mPar_ok) | (with_reducible apply mPar3_ok) | (with_reducible apply mSet_ok) | (with_reducible apply mSeqI_ok) | (with_reducible apply mRange1_ok) | (with_reducible apply mZip_ok) | (with_reducible apply mFrz_ok) | (with_reducible apply mFor_ok) | (with_reducible apply mCallV_ok) | (with_reducible apply gAddL) | (with_reducible apply gSumL) | (with_reducible apply gMax0) | (with_reducible apply gMax2) | (with_reducible apply gMaxP) | (with_reducible apply gAllL) | (with_reducible apply gTupL) | (with_reducible apply gTupT) | (with_reducible apply gListT) | (with_reducible apply gLenT) | (with_reducible apply gIsiT) | (with_reducible apply gIsNT) | (with_reducible apply gEqL0) | (with_reducible apply gNeL0) | (with_reducible apply gMul_ok) | (with_reducible apply gAdd_ok) | (with_reducible apply gSub_ok) | (with_reducible apply gEqI) | (with_reducible apply gNeI) | (with_reducible apply gLt_ok) | (with_reducible apply gLe_ok) | (with_reducible apply gGt_ok) | (with_reducible apply gGe_ok) | (with_reducible apply gInt_ok) | (with_reducible apply mulB_ok) | (with_reducible apply lim_ok) | ((with_reducible apply ite_t); (first | assumption | (exact decide_eq_true (by omega)) | (exact decide_eq_false (by omega)) | (simp only [Bool.not_eq_true', Bool.not_eq_false', Bool.not_not, decide_eq_false_iff_not, decide_eq_true_eq, Bool.false_eq_true, if_true, if_false, Bool.not_false, Bool.not_true, reduceIte]; omega) | exact rfl)) | ((with_reducible apply ite_f); (first | assumption | (exact decide_eq_true (by omega)) | (exact decide_eq_false (by omega)) | (simp only [Bool.not_eq_true', Bool.not_eq_false', Bool.not_not, decide_eq_false_iff_not, decide_eq_true_eq, Bool.false_eq_true, if_true, if_false, Bool.not_false, Bool.not_true, reduceIte]; omega) | exact rfl)) | (simp only [List.set_cons_succ, List.set_cons_zero, wipeD]; exact rfl) | (simp only [List.length_cons, List.length_nil, List.length_map, List.length_append]; omega) | (exact rfl) | (omega)))
  exact ⟨[(1, .tup [.int m, .int (i - m)]), (1, .tup [.int f, .int (t - m)]), (2 * (r - t) - (e - i - (t - m) - f), .tup [.int 1, .int 0]), ((e - i - (t - m) - f) - (r - t), .tup [.int 1, .int 1])], key, by simp⟩
theorem e_filter {rs : List (Int × D)} (hl : rs.length ≤ 10) (x0 x1 x2 x3 x4 x5 x6 x7 x8 x9 x10 x11 : Option D) : ∃ l, q_items_for_3 A [x0, x1, x2, x3, x4, x5, x6, x7, x8, x9, x10, x11, some (.lst (rs.map encR))] mu = .ok (.lst l) mu := by
  refine ⟨_, mLc_filter (enc := encR) (p := fun q => decide (0 < q.1)) (f := encR) rs ?_ ?_ (by omega)⟩
  · (repeat' (first | (with_reducible assumption) | (with_reducible apply mVar_ok) | (with_reducible apply mC_ok) | (with_reducible apply mOp_ok) | (with_reducible apply mTest_ok) | (with_reducible apply mCons_ok) | (with_reducible apply mNil_ok) | (with_reducible apply mCall_ok) | (with_reducible apply mCallF_ok) | (with_reducible apply mSeq_eq) | (with_reducible apply seqNx) | (with_reducible apply seqRt) | (with_reducible apply mSkip_ok) | (with_reducible apply mRet_ok) | (with_reducible apply mRetN_ok) | (with_reducible apply mExpr_ok) | (with_reducible apply mAsg_ok) | (with_reducible apply mGName_ok) | (with_reducible apply mIfS_ok) | (with_reducible apply mTAnd_ok) | (with_reducible apply mTOr_ok) | (with_reducible apply mTNot_ok) | (with_reducible apply mAnd_ok) | (with_reducible apply mOr_ok) | (with_reducible apply mNot_ok) | (with_reducible apply mIf_ok) | (with_reducible apply mChain_ok) | (with_reducible apply bindO_ok) | (with_reducible apply mTup_ok) | (with_reducible apply mLst_ok) | (with_reducible apply mLst_okC) | (with_reducible apply mUn_ok) | (with_reducible apply mMet_ok) | (with_reducible apply mMetC_ok) | (with_reducible apply mGTup_ok) | (with_reducible apply mGCons_ok) | (with_reducible apply mGNil_ok) | (with_reducible apply mPar_ok) | (with_reducible apply mPar3_ok) | (with_reducible apply mSet_ok) | (with_reducible apply mSeqI_ok) | (with_reducible apply mRange1_ok) | (with_reducible apply mZip_ok) | (with_reducible apply mFrz_ok) | (with_reducible apply mFor_ok) | (with_reducible apply mCallV_ok) | (with_reducible apply gAddL) | (with_reducible apply gSumL) | (with_reducible apply gMax0) | (with_reducible apply gMax2) | (with_reducible apply gMaxP) | (with_reducible apply gAllL) | (with_reducible apply gTupL) | (with_reducible apply gTupT) | (with_reducible apply gListT) | (with_reducible apply gLenT) | (with_reducible apply gIsiT) | (with_reducible apply gIsNT) | (with_reducible apply gEqL0) | (with_reducible apply gNeL0) | (with_reducible apply gMul_ok) | (with_reducible apply gAdd_ok) | (with_reducible apply gSub_ok) | (with_reducible apply gEqI) | (with_reducible apply gNeI) | (with_reducible apply gLt_ok) | (with_reducible apply gLe_ok) | (with_reducible apply gGt_ok) | (with_reducible apply gGe_ok) | (with_reducible apply gInt_ok) | (with_reducible apply mulB_ok) | (with_reducible apply lim_ok) | ((with_reducible apply ite_t); (first | assumption | (exact decide_eq_true (by omega)) | (exact decide_eq_false (by omega)) | (simp only [Bool.not_eq_true', Bool.not_eq_false', Bool.not_not, decide_eq_false_iff_not, decide_eq_true_eq, Bool.false_eq_true, if_true, if_false, Bool.not_false, Bool.not_true, reduceIte]; omega) | exact rfl)) | ((with_reducible apply ite_f); (first | assumption | (exact decide_eq_true (by omega)) | (exact decide_eq_false (by omega)) | (simp only [Bool.not_eq_true', Bool.not_eq_false', Bool.not_not, decide_eq_false_iff_not, decide_eq_true_eq, Bool.false_eq_true, if_true, if_false, Bool.not_false, Bool.not_true, reduceIte]; omega) | exact rfl)) | (simp only [List.set_cons_succ, List.set_cons_zero, wipeD]; exact rfl) | (simp only [List.length_cons, List.length_nil, List.length_map, List.length_append]; omega) | (exact rfl) | (omega)))
  · intro q hq
    have hi : gIx mu (encR q) (.int 0) = some (.int q.1, mu) := rfl
    refine ⟨[x0, x1, x2, x3, x4, x5, x6, x7, some (encR q), x9, x10, x11, some (.lst (rs.map encR))], ?_, ?_, fun _ => ?_⟩
    · (repeat' (first | (with_reducible assumption) | (with_reducible apply mVar_ok) | (with_reducible apply mC_ok) | (with_reducible apply mOp_ok) | (with_reducible apply mTest_ok) | (with_reducible apply mCons_ok) | (with_reducible apply mNil_ok) | (with_reducible apply mCall_ok) | (with_reducible apply mCallF_ok) | (with_reducible apply mSeq_eq) | (with_reducible apply seqNx) | (with_reducible apply seqRt) | (with_reducible apply mSkip_ok) | (with_reducible apply mRet_ok) | (with_reducible apply mRetN_ok) | (with_reducible apply mExpr_ok) | (with_reducible apply mAsg_ok) | (with_reducible apply mGName_ok) | (with_reducible apply mIfS_ok) | (with_reducible apply mTAnd_ok) | (with_reducible apply mTOr_ok) | (with_reducible apply mTNot_ok) | (with_reducible apply mAnd_ok) | (with_reducible apply mOr_ok) | (with_reducible apply mNot_ok) | (with_reducible apply mIf_ok) | (with_reducible apply mChain_ok) | (with_reducible apply bindO_ok) | (with_reducible apply mTup_ok) | (with_reducible apply mLst_ok) | (with_reducible apply mLst_okC) | (with_reducible apply mUn_ok) | (with_reducible apply mMet_ok) | (with_reducible apply mMetC_ok) | (with_reducible apply mGTup_ok) | (with_reducible apply mGCons_ok) | (with_reducible apply mGNil_ok) | (with_reducible apply mPar_ok) | (with_reducible apply mPar3_ok) | (with_reducible apply mSet_ok) | (with_reducible apply mSeqI_ok) | (with_reducible apply mRange1_ok) | (with_reducible apply mZip_ok) | (with_reducible apply mFrz_ok) | (with_reducible apply mFor_ok) | (with_reducible apply mCallV_ok) | (with_reducible apply gAddL) | (with_reducible apply gSumL) | (with_reducible apply gMax0) | (with_reducible apply gMax2) | (with_reducible apply gMaxP) | (with_reducible apply gAllL) | (with_reducible apply gTupL) | (with_reducible apply gTupT) | (with_reducible apply gListT) | (with_reducible apply gLenT) | (with_reducible apply gIsiT) | (with_reducible apply gIsNT) | (with_reducible apply gEqL0) | (with_reducible apply gNeL0) | (with_reducible apply gMul_ok) | (with_reducible apply gAdd_ok) | (with_reducible apply gSub_ok) | (with_reducible apply gEqI) | (with_reducible apply gNeI) | (with_reducible apply gLt_ok) | (with_reducible apply gLe_ok) | (with_reducible apply gGt_ok) | (with_reducible apply gGe_ok) | (with_reducible apply gInt_ok) | (with_reducible apply mulB_ok) | (with_reducible apply lim_ok) | ((with_reducible apply ite_t); (first | assumption | (exact decide_eq_true (by omega)) | (exact decide_eq_false (by omega)) | (simp only [Bool.not_eq_true', Bool.not_eq_false', Bool.not_not, decide_eq_false_iff_not, decide_eq_true_eq, Bool.false_eq_true, if_true, if_false, Bool.not_false, Bool.not_true, reduceIte]; omega) | exact rfl)) | ((with_reducible apply ite_f); (first | assumption | (exact decide_eq_true (by omega)) | (exact decide_eq_false (by omega)) | (simp only [Bool.not_eq_true', Bool.not_eq_false', Bool.not_not, decide_eq_false_iff_not, decide_eq_true_eq, Bool.false_eq_true, if_true, if_false, Bool.not_false, Bool.not_true, reduceIte]; omega) | exact rfl)) | (simp only [List.set_cons_succ, List.set_cons_zero, wipeD]; exact rfl) | (simp only [List.length_cons, List.length_nil, List.length_map, List.length_append]; omega) | (exact rfl) | (omega)))
    · (repeat' (first | (with_reducible assumption) | (with_reducible exact hi) | (with_reducible apply mVar_ok) | (with_reducible apply mC_ok) | (with_reducible apply mOp_ok) | (with_reducible apply mTest_ok) | (with_reducible apply mCons_ok) | (with_reducible apply mNil_ok) | (with_reducible apply mCall_ok) | (with_reducible apply mCallF_ok) | (with_reducible apply mSeq_eq) | (with_reducible apply seqNx) | (with_reducible apply seqRt) | (with_reducible apply mSkip_ok) | (with_reducible apply mRet_ok) | (with_reducible apply mRetN_ok) | (with_reducible apply mExpr_ok) | (with_reducible apply mAsg_ok) | (with_reducible apply mGName_ok) | (with_reducible apply mIfS_ok) | (with_reducible apply mTAnd_ok) | (with_reducible apply mTOr_ok) | (with_reducible apply mTNot_ok) | (with_reducible apply mAnd_ok) | (with_reducible apply mOr_ok) | (with_reducible apply mNot_ok) | (with_reducible apply mIf_ok) | (with_reducible apply mChain_ok) | (with_reducible apply bindO_ok) | (with_reducible apply mTup_ok) | (with_reducible apply mLst_ok) | (with_reducible apply mLst_okC) | (with_reducible apply mUn_ok) | (with_reducible apply mMet_ok) | (with_reducible apply mMetC_ok) | (with_reducible apply mGTup_ok) | (with_reducible apply mGCons_ok) | (with_reducible apply mGNil_ok) | (with_reducible apply mPar_ok) | (with_reducible apply mPar3_ok) | (with_reducible apply mSet_ok) | (with_reducible apply mSeqI_ok) | (with_reducible apply mRange1_ok) | (with_reducible apply mZip_ok) | (with_reducible apply mFrz_ok) | (with_reducible apply mFor_ok) | (with_reducible apply mCallV_ok) | (with_reducible apply gAddL) | (with_reducible apply gSumL) | (with_reducible apply gMax0) | (with_reducible apply gMax2) | (with_reducible apply gMaxP) | (with_reducible apply gAllL) | (with_reducible apply gTupL) | (with_reducible apply gTupT) | (with_reducible apply gListT) | (with_reducible apply gLenT) | (with_reducible apply gIsiT) | (with_reducible apply gIsNT) | (with_reducible apply gEqL0) | (with_reducible apply gNeL0) | (with_reducible apply gMul_ok) | (with_reducible apply gAdd_ok) | (with_reducible apply gSub_ok) | (with_reducible apply gEqI) | (with_reducible apply gNeI) | (with_reducible apply gLt_ok) | (with_reducible apply gLe_ok) | (with_reducible apply gGt_ok) | (with_reducible apply gGe_ok) | (with_reducible apply gInt_ok) | (with_reducible apply mulB_ok) | (with_reducible apply lim_ok) | ((with_reducible apply ite_t); (first | assumption | (exact decide_eq_true (by omega)) | (exact decide_eq_false (by omega)) | (simp only [Bool.not_eq_true', Bool.not_eq_false', Bool.not_not, decide_eq_false_iff_not, decide_eq_true_eq, Bool.false_eq_true, if_true, if_false, Bool.not_false, Bool.not_true, reduceIte]; omega) | exact rfl)) | ((with_reducible apply ite_f); (first | assumption | (exact decide_eq_true (by omega)) | (exact decide_eq_false (by omega)) | (simp only [Bool.not_eq_true', Bool.not_eq_false', Bool.not_not, decide_eq_false_iff_not, decide_eq_true_eq, Bool.false_eq_true, if_true, if_false, Bool.not_false, Bool.not_true, reduceIte]; omega) | exact rfl)) | (simp only [List.set_cons_succ, List.set_cons_zero, wipeD]; exact rfl) | (simp only [List.length_cons, List.length_nil, List.length_map, List.length_append]; omega) | (exact rfl) | (omega)))
    · (repeat' (first | (with_reducible assumption) | (with_reducible apply mVar_ok) | (with_reducible apply mC_ok) | (with_reducible apply mOp_ok) | (with_reducible apply mTest_ok) | (with_reducible apply mCons_ok) | (with_reducible apply mNil_ok) | (with_reducible apply mCall_ok) | (with_reducible apply mCallF_ok) | (with_reducible apply mSeq_eq) | (with_reducible apply seqNx) | (with_reducible apply seqRt) | (with_reducible apply mSkip_ok) | (with_reducible apply mRet_ok) | (with_reducible apply mRetN_ok) | (with_reducible apply mExpr_ok) | (with_reducible apply mAsg_ok) | (with_reducible apply mGName_ok) | (with_reducible apply mIfS_ok) | (with_reducible apply mTAnd_ok) | (with_reducible apply mTOr_ok) | (with_reducible apply mTNot_ok) | (with_reducible apply mAnd_ok) | (with_reducible apply mOr_ok) | (with_reducible apply mNot_ok) | (with_reducible apply mIf_ok) | (with_reducible apply mChain_ok) | (with_reducible apply bindO_ok) | (with_reducible apply mTup_ok) | (with_reducible apply mLst_ok) | (with_reducible apply mLst_okC) | (with_reducible apply mUn_ok) | (with_reducible apply mMet_ok) | (with_reducible apply mMetC_ok) | (with_reducible apply mGTup_ok) | (with_reducible apply mGCons_ok) | (with_reducible apply mGNil_ok) | (with_reducible apply mPar_ok) | (with_reducible apply mPar3_ok) | (with_reducible apply mSet_ok) | (with_reducible apply mSeqI_ok) | (with_reducible apply mRange1_ok) | (with_reducible apply mZip_ok) | (with_reducible apply mFrz_ok) | (with_reducible apply mFor_ok) | (with_reducible apply mCallV_ok) | (with_reducible apply gAddL) | (with_reducible apply gSumL) | (with_reducible apply gMax0) | (with_reducible apply gMax2) | (with_reducible apply gMaxP) | (with_reducible apply gAllL) | (with_reducible apply gTupL) | (with_reducible apply gTupT) | (with_reducible apply gListT) | (with_reducible apply gLenT) | (with_reducible apply gIsiT) | (with_reducible apply gIsNT) | (with_reducible apply gEqL0) | (with_reducible apply gNeL0) | (with_reducible apply gMul_ok) | (with_reducible apply gAdd_ok) | (with_reducible apply gSub_ok) | (with_reducible apply gEqI) | (with_reducible apply gNeI) | (with_reducible apply gLt_ok) | (with_reducible apply gLe_ok) | (with_reducible apply gGt_ok) | (with_reducible apply gGe_ok) | (with_reducible apply gInt_ok) | (with_reducible apply mulB_ok) | (with_reducible apply lim_ok) | ((with_reducible apply ite_t); (first | assumption | (exact decide_eq_true (by omega)) | (exact decide_eq_false (by omega)) | (simp only [Bool.not_eq_true', Bool.not_eq_false', Bool.not_not, decide_eq_false_iff_not, decide_eq_true_eq, Bool.false_eq_true, if_true, if_false, Bool.not_false, Bool.not_true, reduceIte]; omega) | exact rfl)) | ((with_reducible apply ite_f); (first | assumption | (exact decide_eq_true (by omega)) | (exact decide_eq_false (by omega)) | (simp only [Bool.not_eq_true', Bool.not_eq_false', Bool.not_not, decide_eq_false_iff_not, decide_eq_true_eq, Bool.false_eq_true, if_true, if_false, Bool.not_false, Bool.not_true, reduceIte]; omega) | exact rfl)) | (simp only [List.set_cons_succ, List.set_cons_zero, wipeD]; exact rfl) | (simp only [List.length_cons, List.length_nil, List.length_map, List.length_append]; omega) | (exact rfl) | (omega)))
theorem okStrs : ∀ l : List Str, (∀ x ∈ l, PyData.strOk x = true) → okD 60 (.lst (l.map D.str)) = true := by
  have h : ∀ l : List Str, (∀ x ∈ l, PyData.strOk x = true) → okL 59 (l.map D.str) = true := fun l => by
    induction l with
    | nil => intro _; rfl
    | cons x l ih =>
      intro h
      simp only [List.map_cons, okL, okD, h x List.mem_cons_self, ih (fun y hy => h y (List.mem_cons_of_mem _ hy)), Bool.and_self]
  intro l hl
  simp only [okD]
  exact h l hl
theorem so1 : PyData.strOk "one" = true := by decide +kernel
theorem so2 : PyData.strOk "two" = true := by decide +kernel
theorem kd2_in : ∀ x ∈ KD2 e r i m t, x = "one" ∨ x = "two" := by
  intro x hx
  unfold KD2 at hx
  rcases List.mem_append.mp hx with h | h <;> split at h <;> simp at h <;> simp [h]
theorem ok_kd2 : okD 60 (.lst ((KD2 e r i m t).map D.str)) = true := okStrs _ fun x hx => by
  rcases kd2_in x hx with rfl | rfl
  · exact so1
  · exact so2
theorem ok_kd1 : okD 60 (.lst ((KD1 e r i m t).map D.str)) = true := okStrs _ fun x hx => by
  unfold KD1 at hx
  split at hx <;> simp at hx
  subst hx; exact so1
theorem e_scaled {k : Int} {n : Nat} (a : Am e r i m t) (hk : Builtin.Int.intBits k ≤ 1000) (x0 x2 x3 x4 x5 x6 x7 x8 x10 x11 x12 : Option D) : q_items_for_2 A [x0, some (five e r i m t), x2, x3, x4, x5, x6, x7, x8, some (.int k), x10, none, x12] mu = .ok (.lst [.int (k * e), .int (k * r), .int (k * i), .int (k * m), .int (k * t)]) mu := by
  unfold q_items_for_2
  rw [mLc_map (enc := D.int) (f := fun x => .int (k * x)) [e, r, i, m, t] (by (repeat' (first | (with_reducible assumption) | (with_reducible apply mVar_ok) | (with_reducible apply mC_ok) | (with_reducible apply mOp_ok) | (with_reducible apply mTest_ok) | (with_reducible apply mCons_ok) | (with_reducible apply mNil_ok) | (with_reducible apply mCall_ok) | (with_reducible apply mCallF_ok) | (with_reducible apply mSeq_eq) | (with_reducible apply seqNx) | (with_reducible apply seqRt) | (with_reducible apply mSkip_ok) | (with_reducible apply mRet_ok) | (with_reducible apply mRetN_ok) | (with_reducible apply mExpr_ok) | (with_reducible apply mAsg_ok) | (with_reducible apply mGName_ok) | (with_reducible apply mIfS_ok) | (with_reducible apply mTAnd_ok) | (with_reducible apply mTOr_ok) | (with_reducible apply mTNot_ok) | (with_reducible apply mAnd_ok) | (with_reducible apply mOr_ok) | (with_reducible apply mNot_ok) | (with_reducible apply mIf_ok) | (with_reducible apply mChain_ok) | (with_reducible apply bindO_ok) | (with_reducible apply mTup_ok) | (with_reducible apply mLst_ok) | (with_reducible apply mLst_okC) | (with_reducible apply mUn_ok) | (with_reducible apply mMet_ok) | (with_reducible apply mMetC_ok) | (with_reducible apply mGTup_ok) | (with_reducible apply mGCons_ok) | (with_reducible apply mGNil_ok) | (with_reducible apply mPar_ok) | (with_reducible apply mPar3_ok) | (with_reducible apply mSet_ok) | (with_reducible apply mSeqI_ok) | (with_reducible apply mRange1_ok) | (with_reducible apply mZip_ok) | (with_reducible apply mFrz_ok) | (with_reducible apply mFor_ok) | (with_reducible apply mCallV_ok) | (with_reducible apply gAddL) | (with_reducible apply gSumL) | (with_reducible apply gMax0) | (with_reducible apply gMax2) | (with_reducible apply gMaxP) | (with_reducible apply gAllL) | (with_reducible apply gTupL) | (with_reducible apply gTupT) | (with_reducible apply gListT) | (with_reducible apply gLenT) | (with_reducible apply gIsiT) | (with_reducible apply gIsNT) | (with_reducible apply gEqL0) | (with_reducible apply gNeL0) | (with_reducible apply gMul_ok) | (with_reducible apply gAdd_ok) | (with_reducible apply gSub_ok) | (with_reducible apply gEqI) | (with_reducible apply gNeI) | (with_reducible apply gLt_ok) | (with_reducible apply gLe_ok) | (with_reducible apply gGt_ok) | (with_reducible apply gGe_ok) | (with_reducible apply gInt_ok) | (with_reducible apply mulB_ok) | (with_reducible apply lim_ok) | ((with_reducible apply ite_t); (first | assumption | (exact decide_eq_true (by omega)) | (exact decide_eq_false (by omega)) | (simp only [Bool.not_eq_true', Bool.not_eq_false', Bool.not_not, decide_eq_false_iff_not, decide_eq_true_eq, Bool.false_eq_true, if_true, if_false, Bool.not_false, Bool.not_true, reduceIte]; omega) | exact rfl)) | ((with_reducible apply ite_f); (first | assumption | (exact decide_eq_true (by omega)) | (exact decide_eq_false (by omega)) | (simp only [Bool.not_eq_true', Bool.not_eq_false', Bool.not_not, decide_eq_false_iff_not, decide_eq_true_eq, Bool.false_eq_true, if_true, if_false, Bool.not_false, Bool.not_true, reduceIte]; omega) | exact rfl)) | (simp only [List.set_cons_succ, List.set_cons_zero, wipeD]; exact rfl) | (simp only [List.length_cons, List.length_nil, List.length_map, List.length_append]; omega) | (exact rfl) | (omega)))) ?_ (by simp)]
  · rfl
  · intro x hx
    have hx0 : Builtin.Int.intBits x ≤ 10000000 := by
      have h1 := a.be; have h2 := a.br; have h3 := a.bi; have h4 := a.bm; have h5 := a.bt
      simp only [List.mem_cons, List.not_mem_nil, or_false] at hx
      rcases hx with rfl | rfl | rfl | rfl | rfl <;> assumption
    have hm : mulB k x = true := mulB_ok (by omega) (by omega)
    refine ⟨[x0, some (five e r i m t), x2, x3, x4, x5, x6, x7, x8, some (.int k), x10, some (.int x), x12], ?_, rfl, ?_⟩
    · (repeat' (first | (with_reducible assumption) | (with_reducible apply mVar_ok) | (with_reducible apply mC_ok) | (with_reducible apply mOp_ok) | (with_reducible apply mTest_ok) | (with_reducible apply mCons_ok) | (with_reducible apply mNil_ok) | (with_reducible apply mCall_ok) | (with_reducible apply mCallF_ok) | (with_reducible apply mSeq_eq) | (with_reducible apply seqNx) | (with_reducible apply seqRt) | (with_reducible apply mSkip_ok) | (with_reducible apply mRet_ok) | (with_reducible apply mRetN_ok) | (with_reducible apply mExpr_ok) | (with_reducible apply mAsg_ok) | (with_reducible apply mGName_ok) | (with_reducible apply mIfS_ok) | (with_reducible apply mTAnd_ok) | (with_reducible apply mTOr_ok) | (with_reducible apply mTNot_ok) | (with_reducible apply mAnd_ok) | (with_reducible apply mOr_ok) | (with_reducible apply mNot_ok) | (with_reducible apply mIf_ok) | (with_reducible apply mChain_ok) | (with_reducible apply bindO_ok) | (with_reducible apply mTup_ok) | (with_reducible apply mLst_ok) | (with_reducible apply mLst_okC) | (with_reducible apply mUn_ok) | (with_reducible apply mMet_ok) | (with_reducible apply mMetC_ok) | (with_reducible apply mGTup_ok) | (with_reducible apply mGCons_ok) | (with_reducible apply mGNil_ok) | (with_reducible apply mPar_ok) | (with_reducible apply mPar3_ok) | (with_reducible apply mSet_ok) | (with_reducible apply mSeqI_ok) | (with_reducible apply mRange1_ok) | (with_reducible apply mZip_ok) | (with_reducible apply mFrz_ok) | (with_reducible apply mFor_ok) | (with_reducible apply mCallV_ok) | (with_reducible apply gAddL) | (with_reducible apply gSumL) | (with_reducible apply gMax0) | (with_reducible apply gMax2) | (with_reducible apply gMaxP) | (with_reducible apply gAllL) | (with_reducible apply gTupL) | (with_reducible apply gTupT) | (with_reducible apply gListT) | (with_reducible apply gLenT) | (with_reducible apply gIsiT) | (with_reducible apply gIsNT) | (with_reducible apply gEqL0) | (with_reducible apply gNeL0) | (with_reducible apply gMul_ok) | (with_reducible apply gAdd_ok) | (with_reducible apply gSub_ok) | (with_reducible apply gEqI) | (with_reducible apply gNeI) | (with_reducible apply gLt_ok) | (with_reducible apply gLe_ok) | (with_reducible apply gGt_ok) | (with_reducible apply gGe_ok) | (with_reducible apply gInt_ok) | (with_reducible apply mulB_ok) | (with_reducible apply lim_ok) | ((with_reducible apply ite_t); (first | assumption | (exact decide_eq_true (by omega)) | (exact decide_eq_false (by omega)) | (simp only [Bool.not_eq_true', Bool.not_eq_false', Bool.not_not, decide_eq_false_iff_not, decide_eq_true_eq, Bool.false_eq_true, if_true, if_false, Bool.not_false, Bool.not_true, reduceIte]; omega) | exact rfl)) | ((with_reducible apply ite_f); (first | assumption | (exact decide_eq_true (by omega)) | (exact decide_eq_false (by omega)) | (simp only [Bool.not_eq_true', Bool.not_eq_false', Bool.not_not, decide_eq_false_iff_not, decide_eq_true_eq, Bool.false_eq_true, if_true, if_false, Bool.not_false, Bool.not_true, reduceIte]; omega) | exact rfl)) | (simp only [List.set_cons_succ, List.set_cons_zero, wipeD]; exact rfl) | (simp only [List.length_cons, List.length_nil, List.length_map, List.length_append]; omega) | (exact rfl) | (omega)))
    · (repeat' (first | (with_reducible assumption) | (with_reducible apply mVar_ok) | (with_reducible apply mC_ok) | (with_reducible apply mOp_ok) | (with_reducible apply mTest_ok) | (with_reducible apply mCons_ok) | (with_reducible apply mNil_ok) | (with_reducible apply mCall_ok) | (with_reducible apply mCallF_ok) | (with_reducible apply mSeq_eq) | (with_reducible apply seqNx) | (with_reducible apply seqRt) | (with_reducible apply mSkip_ok) | (with_reducible apply mRet_ok) | (with_reducible apply mRetN_ok) | (with_reducible apply mExpr_ok) | (with_reducible apply mAsg_ok) | (with_reducible apply mGName_ok) | (with_reducible apply mIfS_ok) | (with_reducible apply mTAnd_ok) | (with_reducible apply mTOr_ok) | (with_reducible apply mTNot_ok) | (with_reducible apply mAnd_ok) | (with_reducible apply mOr_ok) | (with_reducible apply mNot_ok) | (with_reducible apply mIf_ok) | (with_reducible apply mChain_ok) | (with_reducible apply bindO_ok) | (with_reducible apply mTup_ok) | (with_reducible apply mLst_ok) | (with_reducible apply mLst_okC) | (with_reducible apply mUn_ok) | (with_reducible apply mMet_ok) | (with_reducible apply mMetC_ok) | (with_reducible apply mGTup_ok) | (with_reducible apply mGCons_ok) | (with_reducible apply mGNil_ok) | (with_reducible apply mPar_ok) | (with_reducible apply mPar3_ok) | (with_reducible apply mSet_ok) | (with_reducible apply mSeqI_ok) | (with_reducible apply mRange1_ok) | (with_reducible apply mZip_ok) | (with_reducible apply mFrz_ok) | (with_reducible apply mFor_ok) | (with_reducible apply mCallV_ok) | (with_reducible apply gAddL) | (with_reducible apply gSumL) | (with_reducible apply gMax0) | (with_reducible apply gMax2) | (with_reducible apply gMaxP) | (with_reducible apply gAllL) | (with_reducible apply gTupL) | (with_reducible apply gTupT) | (with_reducible apply gListT) | (with_reducible apply gLenT) | (with_reducible apply gIsiT) | (with_reducible apply gIsNT) | (with_reducible apply gEqL0) | (with_reducible apply gNeL0) | (with_reducible apply gMul_ok) | (with_reducible apply gAdd_ok) | (with_reducible apply gSub_ok) | (with_reducible apply gEqI) | (with_reducible apply gNeI) | (with_reducible apply gLt_ok) | (with_reducible apply gLe_ok) | (with_reducible apply gGt_ok) | (with_reducible apply gGe_ok) | (with_reducible apply gInt_ok) | (with_reducible apply mulB_ok) | (with_reducible apply lim_ok) | ((with_reducible apply ite_t); (first | assumption | (exact decide_eq_true (by omega)) | (exact decide_eq_false (by omega)) | (simp only [Bool.not_eq_true', Bool.not_eq_false', Bool.not_not, decide_eq_false_iff_not, decide_eq_true_eq, Bool.false_eq_true, if_true, if_false, Bool.not_false, Bool.not_true, reduceIte]; omega) | exact rfl)) | ((with_reducible apply ite_f); (first | assumption | (exact decide_eq_true (by omega)) | (exact decide_eq_false (by omega)) | (simp only [Bool.not_eq_true', Bool.not_eq_false', Bool.not_not, decide_eq_false_iff_not, decide_eq_true_eq, Bool.false_eq_true, if_true, if_false, Bool.not_false, Bool.not_true, reduceIte]; omega) | exact rfl)) | (simp only [List.set_cons_succ, List.set_cons_zero, wipeD]; exact rfl) | (simp only [List.length_cons, List.length_nil, List.length_map, List.length_append]; omega) | (exact rfl) | (omega)))
theorem e_items2 (a : Am e r i m t) (hk : KD2 e r i m t ≠ []) (h1 : m = 0 → e = 0) (h2 : t = m → r = e) : ∃ l, d_items_for A [.int 2, five e r i m t] mu = .ok (.tup l) mu := by
  have kk := e_kinds2 (A := A) (mu := mu) a
  obtain ⟨k0, ks, hks⟩ : ∃ k0 ks, KD2 e r i m t = k0 :: ks := by
    cases h : KD2 e r i m t with
    | nil => exact absurd h hk
    | cons x l => exact ⟨x, l, rfl⟩
  have hf := gEqL0 (mu := mu) (ok_kd2 (e := e) (r := r) (i := i) (m := m) (t := t))
  have he : ((KD2 e r i m t).map D.str).isEmpty = false := by rw [hks]; rfl
  rw [he] at hf
  let E0 : DEnv := [some (.int 2), some (five e r i m t), some (.lst ((KD2 e r i m t).map D.str)), some (.int e), some (.int r), some (.int i), some (.int m), some (.int t), none, none, none, none, none]
  have pe := a.pe
  have pm := a.pm
  by_cases hm : m = 0
  · have hee := h1 hm
    refine ⟨[.int 1, .lst []], denF_rt (env0 := [some (.int 2), some (five e r i m t), none, none, none, none, none, none, none, none, none, none, none]) rfl ?_⟩
    by_cases ht : t = m
    · have hr := h2 ht
      unfold m_items_for
      (repeat' (first | (with_reducible assumption) | (with_reducible apply mVar_ok) | (with_reducible apply mC_ok) | (with_reducible apply mOp_ok) | (with_reducible apply mTest_ok) | (with_reducible apply mCons_ok) | (with_reducible apply mNil_ok) | (with_reducible apply mCall_ok) | (with_reducible apply mCallF_ok) | (with_reducible apply mSeq_eq) | (with_reducible apply seqNx) | (with_reducible apply seqRt) | (with_reducible apply mSkip_ok) | (with_reducible apply mRet_ok) | (with_reducible apply mRetN_ok) | (with_reducible apply mExpr_ok) | (with_reducible apply mAsg_ok) | (with_reducible apply mGName_ok) | (with_reducible apply mIfS_ok) | (with_reducible apply mTAnd_ok) | (with_reducible apply mTOr_ok) | (with_reducible apply mTNot_ok) | (with_reducible apply mAnd_ok) | (with_reducible apply mOr_ok) | (with_reducible apply mNot_ok) | (with_reducible apply mIf_ok) | (with_reducible apply mChain_ok) | (with_reducible apply bindO_ok) | (with_reducible apply mTup_ok) | (with_reducible apply mLst_ok) | (with_reducible apply mLst_okC) | (with_reducible apply mUn_ok) | (with_reducible apply mMet_ok) | (with_reducible apply mMetC_ok) | (with_reducible apply mGTup_ok) | (with_reducible apply mGCons_ok) | (with_reducible apply mGNil_ok) | (with_reducible apply mPar_ok) | (with_reducible apply mPar3_ok) | (with_reducible apply mSet_ok) | (with_reducible apply mSeqI_ok) | (with_reducible apply mRange1_ok) | (with_reducible apply mZip_ok) | (with_reducible apply mFrz_ok) | (with_reducible apply mFor_ok) | (with_reducible apply mCallV_ok) | (with_reducible apply gAddL) | (with_reducible apply gSumL) | (with_reducible apply gMax0) | (with_reducible apply gMax2) | (with_reducible apply gMaxP) | (with_reducible apply gAllL) | (with_reducible apply gTupL) | (with_reducible apply gTupT) | (with_reducible apply gListT) | (with_reducible apply gLenT) | (with_reducible apply gIsiT) | (with_reducible apply gIsNT) | (with_reducible apply gEqL0) | (with_reducible apply gNeL0) | (with_reducible apply gMul_ok) | (with_reducible apply gAdd_ok) | (with_reducible apply gSub_ok) | (with_reducible apply gEqI) | (with_reducible apply gNeI) | (with_reducible apply gLt_ok) | (with_reducible apply gLe_ok) | (with_reducible apply gGt_ok) | (with_reducible apply gGe_ok) | (with_reducible apply gInt_ok) | (with_reducible apply mulB_ok) | (with_reducible apply lim_ok) | ((with_reducible apply ite_t); (first | assumption | (exact decide_eq_true (by omega)) | (exact decide_eq_false (by omega)) | (simp only [Bool.not_eq_true', Bool.not_eq_false', Bool.not_not, decide_eq_false_iff_not, decide_eq_true_eq, Bool.false_eq_true, if_true, if_false, Bool.not_false, Bool.not_true, reduceIte]; omega) | exact rfl)) | ((with_reducible apply ite_f); (first | assumption | (exact decide_eq_true (by omega)) | (exact decide_eq_false (by omega)) | (simp only [Bool.not_eq_true', Bool.not_eq_false', Bool.not_not, decide_eq_false_iff_not, decide_eq_true_eq, Bool.false_eq_true, if_true, if_false, Bool.not_false, Bool.not_true, reduceIte]; omega) | exact rfl)) | (simp only [List.set_cons_succ, List.set_cons_zero, wipeD]; exact rfl) | (simp only [List.length_cons, List.length_nil, List.length_map, List.length_append]; omega) | (exact rfl) | (omega)))
    · unfold m_items_for
      (repeat' (first | (with_reducible assumption) | (with_reducible apply mVar_ok) | (with_reducible apply mC_ok) | (with_reducible apply mOp_ok) | (with_reducible apply mTest_ok) | (with_reducible apply mCons_ok) | (with_reducible apply mNil_ok) | (with_reducible apply mCall_ok) | (with_reducible apply mCallF_ok) | (with_reducible apply mSeq_eq) | (with_reducible apply seqNx) | (with_reducible apply seqRt) | (with_reducible apply mSkip_ok) | (with_reducible apply mRet_ok) | (with_reducible apply mRetN_ok) | (with_reducible apply mExpr_ok) | (with_reducible apply mAsg_ok) | (with_reducible apply mGName_ok) | (with_reducible apply mIfS_ok) | (with_reducible apply mTAnd_ok) | (with_reducible apply mTOr_ok) | (with_reducible apply mTNot_ok) | (with_reducible apply mAnd_ok) | (with_reducible apply mOr_ok) | (with_reducible apply mNot_ok) | (with_reducible apply mIf_ok) | (with_reducible apply mChain_ok) | (with_reducible apply bindO_ok) | (with_reducible apply mTup_ok) | (with_reducible apply mLst_ok) | (with_reducible apply mLst_okC) | (with_reducible apply mUn_ok) | (with_reducible apply mMet_ok) | (with_reducible apply mMetC_ok) | (with_reducible apply mGTup_ok) | (with_reducible apply mGCons_ok) | (with_reducible apply mGNil_ok) | (with_reducible apply mPar_ok) | (with_reducible apply mPar3_ok) | (with_reducible apply mSet_ok) | (with_reducible apply mSeqI_ok) | (with_reducible apply mRange1_ok) | (with_reducible apply mZip_ok) | (with_reducible apply mFrz_ok) | (with_reducible apply mFor_ok) | (with_reducible apply mCallV_ok) | (with_reducible apply gAddL) | (with_reducible apply gSumL) | (with_reducible apply gMax0) | (with_reducible apply gMax2) | (with_reducible apply gMaxP) | (with_reducible apply gAllL) | (with_reducible apply gTupL) | (with_reducible apply gTupT) | (with_reducible apply gListT) | (with_reducible apply gLenT) | (with_reducible apply gIsiT) | (with_reducible apply gIsNT) | (with_reducible apply gEqL0) | (with_reducible apply gNeL0) | (with_reducible apply gMul_ok) | (with_reducible apply gAdd_ok) | (with_reducible apply gSub_ok) | (with_reducible apply gEqI) | (with_reducible apply gNeI) | (with_reducible apply gLt_ok) | (with_reducible apply gLe_ok) | (with_reducible apply gGt_ok) | (with_reducible apply gGe_ok) | (with_reducible apply gInt_ok) | (with_reducible apply mulB_ok) | (with_reducible apply lim_ok) | ((with_reducible apply ite_t); (first | assumption | (exact decide_eq_true (by omega)) | (exact decide_eq_false (by omega)) | (simp only [Bool.not_eq_true', Bool.not_eq_false', Bool.not_not, decide_eq_false_iff_not, decide_eq_true_eq, Bool.false_eq_true, if_true, if_false, Bool.not_false, Bool.not_true, reduceIte]; omega) | exact rfl)) | ((with_reducible apply ite_f); (first | assumption | (exact decide_eq_true (by omega)) | (exact decide_eq_false (by omega)) | (simp only [Bool.not_eq_true', Bool.not_eq_false', Bool.not_not, decide_eq_false_iff_not, decide_eq_true_eq, Bool.false_eq_true, if_true, if_false, Bool.not_false, Bool.not_true, reduceIte]; omega) | exact rfl)) | (simp only [List.set_cons_succ, List.set_cons_zero, wipeD]; exact rfl) | (simp only [List.length_cons, List.length_nil, List.length_map, List.length_append]; omega) | (exact rfl) | (omega)))
  · have hi : ∃ k : Int, (k = 1 ∨ k = 2) ∧ mIf (mTest (mOp (gEq false) (mVar 5) (mC (.int 1)))) (mC (.int 2)) (mC (.int 1)) E0 mu = .ok (.int k) mu := by
      by_cases h : i = 1
      · exact ⟨2, .inr rfl, by (repeat' (first | (with_reducible assumption) | (with_reducible apply mVar_ok) | (with_reducible apply mC_ok) | (with_reducible apply mOp_ok) | (with_reducible apply mTest_ok) | (with_reducible apply mCons_ok) | (with_reducible apply mNil_ok) | (with_reducible apply mCall_ok) | (with_reducible apply mCallF_ok) | (with_reducible apply mSeq_eq) | (with_reducible apply seqNx) | (with_reducible apply seqRt) | (with_reducible apply mSkip_ok) | (with_reducible apply mRet_ok) | (with_reducible apply mRetN_ok) | (with_reducible apply mExpr_ok) | (with_reducible apply mAsg_ok) | (with_reducible apply mGName_ok) | (with_reducible apply mIfS_ok) | (with_reducible apply mTAnd_ok) | (with_reducible apply mTOr_ok) | (with_reducible apply mTNot_ok) | (with_reducible apply mAnd_ok) | (with_reducible apply mOr_ok) | (with_reducible apply mNot_ok) | (with_reducible apply mIf_ok) | (with_reducible apply mChain_ok) | (with_reducible apply bindO_ok) | (with_reducible apply mTup_ok) | (with_reducible apply mLst_ok) | (with_reducible apply mLst_okC) | (with_reducible apply mUn_ok) | (with_reducible apply mMet_ok) | (with_reducible apply mMetC_ok) | (with_reducible apply mGTup_ok) | (with_reducible apply mGCons_ok) | (with_reducible apply mGNil_ok) | (with_reducible apply mPar_ok) | (with_reducible apply mPar3_ok) | (with_reducible apply mSet_ok) | (with_reducible apply mSeqI_ok) | (with_reducible apply mRange1_ok) | (with_reducible apply mZip_ok) | (with_reducible apply mFrz_ok) | (with_reducible apply mFor_ok) | (with_reducible apply mCallV_ok) | (with_reducible apply gAddL) | (with_reducible apply gSumL) | (with_reducible apply gMax0) | (with_reducible apply gMax2) | (with_reducible apply gMaxP) | (with_reducible apply gAllL) | (with_reducible apply gTupL) | (with_reducible apply gTupT) | (with_reducible apply gListT) | (with_reducible apply gLenT) | (with_reducible apply gIsiT) | (with_reducible apply gIsNT) | (with_reducible apply gEqL0) | (with_reducible apply gNeL0) | (with_reducible apply gMul_ok) | (with_reducible apply gAdd_ok) | (with_reducible apply gSub_ok) | (with_reducible apply gEqI) | (with_reducible apply gNeI) | (with_reducible apply gLt_ok) | (with_reducible apply gLe_ok) | (with_reducible apply gGt_ok) | (with_reducible apply gGe_ok) | (with_reducible apply gInt_ok) | (with_reducible apply mulB_ok) | (with_reducible apply lim_ok) | ((with_reducible apply ite_t); (first | assumption | (exact decide_eq_true (by omega)) | (exact decide_eq_false (by omega)) | (simp only [Bool.not_eq_true', Bool.not_eq_false', Bool.not_not, decide_eq_false_iff_not, decide_eq_true_eq, Bool.false_eq_true, if_true, if_false, Bool.not_false, Bool.not_true, reduceIte]; omega) | exact rfl)) | ((with_reducible apply ite_f); (first | assumption | (exact decide_eq_true (by omega)) | (exact decide_eq_false (by omega)) | (simp only [Bool.not_eq_true', Bool.not_eq_false', Bool.not_not, decide_eq_false_iff_not, decide_eq_true_eq, Bool.false_eq_true, if_true, if_false, Bool.not_false, Bool.not_true, reduceIte]; omega) | exact rfl)) | (simp only [List.set_cons_succ, List.set_cons_zero, wipeD]; exact rfl) | (simp only [List.length_cons, List.length_nil, List.length_map, List.length_append]; omega) | (exact rfl) | (omega)))⟩
      · exact ⟨1, .inl rfl, by (repeat' (first | (with_reducible assumption) | (with_reducible apply mVar_ok) | (with_reducible apply mC_ok) | (with_reducible apply mOp_ok) | (with_reducible apply mTest_ok) | (with_reducible apply mCons_ok) | (with_reducible apply mNil_ok) | (with_reducible apply mCall_ok) | (with_reducible apply mCallF_ok) | (with_reducible apply mSeq_eq) | (with_reducible apply seqNx) | (with_reducible apply seqRt) | (with_reducible apply mSkip_ok) | (with_reducible apply mRet_ok) | (with_reducible apply mRetN_ok) | (with_reducible apply mExpr_ok) | (with_reducible apply mAsg_ok) | (with_reducible apply mGName_ok) | (with_reducible apply mIfS_ok) | (with_reducible apply mTAnd_ok) | (with_reducible apply mTOr_ok) | (with_reducible apply mTNot_ok) | (with_reducible apply mAnd_ok) | (with_reducible apply mOr_ok) | (with_reducible apply mNot_ok) | (with_reducible apply mIf_ok) | (with_reducible apply mChain_ok) | (with_reducible apply bindO_ok) | (with_reducible apply mTup_ok) | (with_reducible apply mLst_ok) | (with_reducible apply mLst_okC) | (with_reducible apply mUn_ok) | (with_reducible apply mMet_ok) | (with_reducible apply mMetC_ok) | (with_reducible apply mGTup_ok) | (with_reducible apply mGCons_ok) | (with_reducible apply mGNil_ok) | (with_reducible apply mPar_ok) | (with_reducible apply mPar3_ok) | (with_reducible apply mSet_ok) | (with_reducible apply mSeqI_ok) | (with_reducible apply mRange1_ok) | (with_reducible apply mZip_ok) | (with_reducible apply mFrz_ok) | (with_reducible apply mFor_ok) | (with_reducible apply mCallV_ok) | (with_reducible apply gAddL) | (with_reducible apply gSumL) | (with_reducible apply gMax0) | (with_reducible apply gMax2) | (with_reducible apply gMaxP) | (with_reducible apply gAllL) | (with_reducible apply gTupL) | (with_reducible apply gTupT) | (with_reducible apply gListT) | (with_reducible apply gLenT) | (with_reducible apply gIsiT) | (with_reducible apply gIsNT) | (with_reducible apply gEqL0) | (with_reducible apply gNeL0) | (with_reducible apply gMul_ok) | (with_reducible apply gAdd_ok) | (with_reducible apply gSub_ok) | (with_reducible apply gEqI) | (with_reducible apply gNeI) | (with_reducible apply gLt_ok) | (with_reducible apply gLe_ok) | (with_reducible apply gGt_ok) | (with_reducible apply gGe_ok) | (with_reducible apply gInt_ok) | (with_reducible apply mulB_ok) | (with_reducible apply lim_ok) | ((with_reducible apply ite_t); (first | assumption | (exact decide_eq_true (by omega)) | (exact decide_eq_false (by omega)) | (simp only [Bool.not_eq_true', Bool.not_eq_false', Bool.not_not, decide_eq_false_iff_not, decide_eq_true_eq, Bool.false_eq_true, if_true, if_false, Bool.not_false, Bool.not_true, reduceIte]; omega) | exact rfl)) | ((with_reducible apply ite_f); (first | assumption | (exact decide_eq_true (by omega)) | (exact decide_eq_false (by omega)) | (simp only [Bool.not_eq_true', Bool.not_eq_false', Bool.not_not, decide_eq_false_iff_not, decide_eq_true_eq, Bool.false_eq_true, if_true, if_false, Bool.not_false, Bool.not_true, reduceIte]; omega) | exact rfl)) | (simp only [List.set_cons_succ, List.set_cons_zero, wipeD]; exact rfl) | (simp only [List.length_cons, List.length_nil, List.length_map, List.length_append]; omega) | (exact rfl) | (omega)))⟩
    obtain ⟨k, hk12, hif⟩ := hi
    have bk : Builtin.Int.intBits k ≤ 1000 := by rcases hk12 with rfl | rfl <;> decide
    have b : ∀ x, Builtin.Int.intBits x ≤ 10000000 → Builtin.Int.intBits (k * x) ≤ 20000000 := fun x hx => by
      have := intBits_mul_le bk hx; omega
    obtain ⟨rs, hp, hrs⟩ : ∃ rs : List (Int × D), mIf (mTest (mOp (gEq false) (mOp gIx (mVar 2) (mC (.int 0))) (mC (.str "one")))) (mCallF 1 (d_pairs_for_one A) (mCons (mVar 10) mNil)) (mCallF 1 (d_pairs_for_two A) (mCons (mVar 10) mNil)) [some (.int 2), some (five e r i m t), some (.lst ((KD2 e r i m t).map D.str)), some (.int e), some (.int r), some (.int i), some (.int m), some (.int t), none, some (.int k), some (five (k * e) (k * r) (k * i) (k * m) (k * t)), none, none] mu = .ok (.lst (rs.map encR)) mu ∧ rs.length ≤ 10 := by
      have hix : gIx mu (.lst ((KD2 e r i m t).map D.str)) (.int 0) = some (.str k0, mu) := by
        rw [hks]
        show (atI (D.str k0 :: ks.map D.str) ((0 : Nat) : Int)).map _ = _
        rw [atI_nat (j := 0) (v := D.str k0) rfl]; rfl
      rcases kd2_in (e := e) (r := r) (i := i) (m := m) (t := t) k0 (by rw [hks]; exact List.mem_cons_self) with rfl | rfl
      · have h : gEq false mu (.str "one") (.str "one") = some (.bl true, mu) := by kernel_rfl
        obtain ⟨rs, h3, h4⟩ := e_pairs1 (A := A) (mu := mu) (i := k * i) (t := k * t) (n := 20000000) (by omega) (b _ a.be) (b _ a.br) (b _ a.bm)
        exact ⟨rs, by (repeat' (first | (with_reducible assumption) | (with_reducible apply mVar_ok) | (with_reducible apply mC_ok) | (with_reducible apply mOp_ok) | (with_reducible apply mTest_ok) | (with_reducible apply mCons_ok) | (with_reducible apply mNil_ok) | (with_reducible apply mCall_ok) | (with_reducible apply mCallF_ok) | (with_reducible apply mSeq_eq) | (with_reducible apply seqNx) | (with_reducible apply seqRt) | (with_reducible apply mSkip_ok) | (with_reducible apply mRet_ok) | (with_reducible apply mRetN_ok) | (with_reducible apply mExpr_ok) | (with_reducible apply mAsg_ok) | (with_reducible apply mGName_ok) | (with_reducible apply mIfS_ok) | (with_reducible apply mTAnd_ok) | (with_reducible apply mTOr_ok) | (with_reducible apply mTNot_ok) | (with_reducible apply mAnd_ok) | (with_reducible apply mOr_ok) | (with_reducible apply mNot_ok) | (with_reducible apply mIf_ok) | (with_reducible apply mChain_ok) | (with_reducible apply bindO_ok) | (with_reducible apply mTup_ok) | (with_reducible apply mLst_ok) | (with_reducible apply mLst_okC) | (with_reducible apply mUn_ok) | (with_reducible apply mMet_ok) | (with_reducible apply mMetC_ok) | (with_reducible apply mGTup_ok) | (with_reducible apply mGCons_ok) | (with_reducible apply mGNil_ok) | (with_reducible apply mPar_ok) | (with_reducible apply mPar3_ok) | (with_reducible apply mSet_ok) | (with_reducible apply mSeqI_ok) | (with_reducible apply mRange1_ok) | (with_reducible apply mZip_ok) | (with_reducible apply mFrz_ok) | (with_reducible apply mFor_ok) | (with_reducible apply mCallV_ok) | (with_reducible apply gAddL) | (with_reducible apply gSumL) | (with_reducible apply gMax0) | (with_reducible apply gMax2) | (with_reducible apply gMaxP) | (with_reducible apply gAllL) | (with_reducible apply gTupL) | (with_reducible apply gTupT) | (with_reducible apply gListT) | (with_reducible apply gLenT) | (with_reducible apply gIsiT) | (with_reducible apply gIsNT) | (with_reducible apply gEqL0) | (with_reducible apply gNeL0) | (with_reducible apply gMul_ok) | (with_reducible apply gAdd_ok) | (with_reducible apply gSub_ok) | (with_reducible apply gEqI) | (with_reducible apply gNeI) | (with_reducible apply gLt_ok) | (with_reducible apply gLe_ok) | (with_reducible apply gGt_ok) | (with_reducible apply gGe_ok) | (with_reducible apply gInt_ok) | (with_reducible apply mulB_ok) | (with_reducible apply lim_ok) | ((with_reducible apply ite_t); (first | assumption | (exact decide_eq_true (by omega)) | (exact decide_eq_false (by omega)) | (simp only [Bool.not_eq_true', Bool.not_eq_false', Bool.not_not, decide_eq_false_iff_not, decide_eq_true_eq, Bool.false_eq_true, if_true, if_false, Bool.not_false, Bool.not_true, reduceIte]; omega) | exact rfl)) | ((with_reducible apply ite_f); (first | assumption | (exact decide_eq_true (by omega)) | (exact decide_eq_false (by omega)) | (simp only [Bool.not_eq_true', Bool.not_eq_false', Bool.not_not, decide_eq_false_iff_not, decide_eq_true_eq, Bool.false_eq_true, if_true, if_false, Bool.not_false, Bool.not_true, reduceIte]; omega) | exact rfl)) | (simp only [List.set_cons_succ, List.set_cons_zero, wipeD]; exact rfl) | (simp only [List.length_cons, List.length_nil, List.length_map, List.length_append]; omega) | (exact rfl) | (omega))), h4⟩
      · have h : gEq false mu (.str "two") (.str "one") = some (.bl false, mu) := by kernel_rfl
        obtain ⟨rs, h3, h4⟩ := e_pairs2 (A := A) (mu := mu) (i := k * i) (n := 20000000) (by omega) (b _ a.be) (b _ a.br) (b _ a.bm) (b _ a.bt)
        exact ⟨rs, by (repeat' (first | (with_reducible assumption) | (with_reducible apply mVar_ok) | (with_reducible apply mC_ok) | (with_reducible apply mOp_ok) | (with_reducible apply mTest_ok) | (with_reducible apply mCons_ok) | (with_reducible apply mNil_ok) | (with_reducible apply mCall_ok) | (with_reducible apply mCallF_ok) | (with_reducible apply mSeq_eq) | (with_reducible apply seqNx) | (with_reducible apply seqRt) | (with_reducible apply mSkip_ok) | (with_reducible apply mRet_ok) | (with_reducible apply mRetN_ok) | (with_reducible apply mExpr_ok) | (with_reducible apply mAsg_ok) | (with_reducible apply mGName_ok) | (with_reducible apply mIfS_ok) | (with_reducible apply mTAnd_ok) | (with_reducible apply mTOr_ok) | (with_reducible apply mTNot_ok) | (with_reducible apply mAnd_ok) | (with_reducible apply mOr_ok) | (with_reducible apply mNot_ok) | (with_reducible apply mIf_ok) | (with_reducible apply mChain_ok) | (with_reducible apply bindO_ok) | (with_reducible apply mTup_ok) | (with_reducible apply mLst_ok) | (with_reducible apply mLst_okC) | (with_reducible apply mUn_ok) | (with_reducible apply mMet_ok) | (with_reducible apply mMetC_ok) | (with_reducible apply mGTup_ok) | (with_reducible apply mGCons_ok) | (with_reducible apply mGNil_ok) | (with_reducible apply mPar_ok) | (with_reducible apply mPar3_ok) | (with_reducible apply mSet_ok) | (with_reducible apply mSeqI_ok) | (with_reducible apply mRange1_ok) | (with_reducible apply mZip_ok) | (with_reducible apply mFrz_ok) | (with_reducible apply mFor_ok) | (with_reducible apply mCallV_ok) | (with_reducible apply gAddL) | (with_reducible apply gSumL) | (with_reducible apply gMax0) | (with_reducible apply gMax2) | (with_reducible apply gMaxP) | (with_reducible apply gAllL) | (with_reducible apply gTupL) | (with_reducible apply gTupT) | (with_reducible apply gListT) | (with_reducible apply gLenT) | (with_reducible apply gIsiT) | (with_reducible apply gIsNT) | (with_reducible apply gEqL0) | (with_reducible apply gNeL0) | (with_reducible apply gMul_ok) | (with_reducible apply gAdd_ok) | (with_reducible apply gSub_ok) | (with_reducible apply gEqI) | (with_reducible apply gNeI) | (with_reducible apply gLt_ok) | (with_reducible apply gLe_ok) | (with_reducible apply gGt_ok) | (with_reducible apply gGe_ok) | (with_reducible apply gInt_ok) | (with_reducible apply mulB_ok) | (with_reducible apply lim_ok) | ((with_reducible apply ite_t); (first | assumption | (exact decide_eq_true (by omega)) | (exact decide_eq_false (by omega)) | (simp only [Bool.not_eq_true', Bool.not_eq_false', Bool.not_not, decide_eq_false_iff_not, decide_eq_true_eq, Bool.false_eq_true, if_true, if_false, Bool.not_false, Bool.not_true, reduceIte]; omega) | exact rfl)) | ((with_reducible apply ite_f); (first | assumption | (exact decide_eq_true (by omega)) | (exact decide_eq_false (by omega)) | (simp only [Bool.not_eq_true', Bool.not_eq_false', Bool.not_not, decide_eq_false_iff_not, decide_eq_true_eq, Bool.false_eq_true, if_true, if_false, Bool.not_false, Bool.not_true, reduceIte]; omega) | exact rfl)) | (simp only [List.set_cons_succ, List.set_cons_zero, wipeD]; exact rfl) | (simp only [List.length_cons, List.length_nil, List.length_map, List.length_append]; omega) | (exact rfl) | (omega))), h4⟩
    obtain ⟨l, hl⟩ := e_filter (A := A) (mu := mu) hrs (some (.int 2)) (some (five e r i m t)) (some (.lst ((KD2 e r i m t).map D.str))) (some (.int e)) (some (.int r)) (some (.int i)) (some (.int m)) (some (.int t)) none (some (.int k)) (some (five (k * e) (k * r) (k * i) (k * m) (k * t))) none
    refine ⟨[.int k, .lst l], denF_rt (env0 := [some (.int 2), some (five e r i m t), none, none, none, none, none, none, none, none, none, none, none]) rfl ?_⟩
    have sc := e_scaled (A := A) (mu := mu) (k := k) (n := 0) a bk (some (.int 2)) (some (.lst ((KD2 e r i m t).map D.str))) (some (.int e)) (some (.int r)) (some (.int i)) (some (.int m)) (some (.int t)) none none none none
    by_cases ht : t = m
    · have hr := h2 ht
      unfold m_items_for
      (repeat' (first | (with_reducible assumption) | (with_reducible exact hif) | (with_reducible exact sc) | (with_reducible exact hp) | (with_reducible exact hl) | (with_reducible apply mVar_ok) | (with_reducible apply mC_ok) | (with_reducible apply mOp_ok) | (with_reducible apply mTest_ok) | (with_reducible apply mCons_ok) | (with_reducible apply mNil_ok) | (with_reducible apply mCall_ok) | (with_reducible apply mCallF_ok) | (with_reducible apply mSeq_eq) | (with_reducible apply seqNx) | (with_reducible apply seqRt) | (with_reducible apply mSkip_ok) | (with_reducible apply mRet_ok) | (with_reducible apply mRetN_ok) | (with_reducible apply mExpr_ok) | (with_reducible apply mAsg_ok) | (with_reducible apply mGName_ok) | (with_reducible apply mIfS_ok) | (with_reducible apply mTAnd_ok) | (with_reducible apply mTOr_ok) | (with_reducible apply mTNot_ok) | (with_reducible apply mAnd_ok) | (with_reducible apply mOr_ok) | (with_reducible apply mNot_ok) | (with_reducible apply mIf_ok) | (with_reducible apply mChain_ok) | (with_reducible apply bindO_ok) | (with_reducible apply mTup_ok) | (with_reducible apply mLst_ok) | (with_reducible apply mLst_okC) | (with_reducible apply mUn_ok) | (with_reducible apply mMet_ok) | (with_reducible apply mMetC_ok) | (with_reducible apply mGTup_ok) | (with_reducible apply mGCons_ok) | (with_reducible apply mGNil_ok) | (with_reducible apply mPar_ok) | (with_reducible apply mPar3_ok) | (with_reducible apply mSet_ok) | (with_reducible apply mSeqI_ok) | (with_reducible apply mRange1_ok) | (with_reducible apply mZip_ok) | (with_reducible apply mFrz_ok) | (with_reducible apply mFor_ok) | (with_reducible apply mCallV_ok) | (with_reducible apply gAddL) | (with_reducible apply gSumL) | (with_reducible apply gMax0) | (with_reducible apply gMax2) | (with_reducible apply gMaxP) | (with_reducible apply gAllL) | (with_reducible apply gTupL) | (with_reducible apply gTupT) | (with_reducible apply gListT) | (with_reducible apply gLenT) | (with_reducible apply gIsiT) | (with_reducible apply gIsNT) | (with_reducible apply gEqL0) | (with_reducible apply gNeL0) | (with_reducible apply gMul_ok) | (with_reducible apply gAdd_ok) | (with_reducible apply gSub_ok) | (with_reducible apply gEqI) | (with_reducible apply gNeI) | (with_reducible apply gLt_ok) | (with_reducible apply gLe_ok) | (with_reducible apply gGt_ok) | (with_reducible apply gGe_ok) | (with_reducible apply gInt_ok) | (with_reducible apply mulB_ok) | (with_reducible apply lim_ok) | ((with_reducible apply ite_t); (first | assumption | (exact decide_eq_true (by omega)) | (exact decide_eq_false (by omega)) | (simp only [Bool.not_eq_true', Bool.not_eq_false', Bool.not_not, decide_eq_false_iff_not, decide_eq_true_eq, Bool.false_eq_true, if_true, if_false, Bool.not_false, Bool.not_true, reduceIte]; omega) | exact rfl)) | ((with_reducible apply ite_f); (first | assumption | (exact decide_eq_true (by omega)) | (exact decide_eq_false (by omega)) | (simp only [Bool.not_eq_true', Bool.not_eq_false', Bool.not_not, decide_eq_false_iff_not, decide_eq_true_eq, Bool.false_eq_true, if_true, if_false, Bool.not_false, Bool.not_true, reduceIte]; omega) | exact rfl)) | (simp only [List.set_cons_succ, List.set_cons_zero, wipeD]; exact rfl) | (simp only [List.length_cons, List.length_nil, List.length_map, List.length_append]; omega) | (exact rfl) | (omega)))
    · unfold m_items_for
      (repeat' (first | (with_reducible assumption) | (with_reducible exact hif) | (with_reducible exact sc) | (with_reducible exact hp) | (with_reducible exact hl) | (with_reducible apply mVar_ok) | (with_reducible apply mC_ok) | (with_reducible apply mOp_ok) | (with_reducible apply mTest_ok) | (with_reducible apply mCons_ok) | (with_reducible apply mNil_ok) | (with_reducible apply mCall_ok) | (with_reducible apply mCallF_ok) | (with_reducible apply mSeq_eq) | (with_reducible apply seqNx) | (with_reducible apply seqRt) | (with_reducible apply mSkip_ok) | (with_reducible apply mRet_ok) | (with_reducible apply mRetN_ok) | (with_reducible apply mExpr_ok) | (with_reducible apply mAsg_ok) | (with_reducible apply mGName_ok) | (with_reducible apply mIfS_ok) | (with_reducible apply mTAnd_ok) | (with_reducible apply mTOr_ok) | (with_reducible apply mTNot_ok) | (with_reducible apply mAnd_ok) | (with_reducible apply mOr_ok) | (with_reducible apply mNot_ok) | (with_reducible apply mIf_ok) | (with_reducible apply mChain_ok) | (with_reducible apply bindO_ok) | (with_reducible apply mTup_ok) | (with_reducible apply mLst_ok) | (with_reducible apply mLst_okC) | (with_reducible apply mUn_ok) | (with_reducible apply mMet_ok) | (with_reducible apply mMetC_ok) | (with_reducible apply mGTup_ok) | (with_reducible apply mGCons_ok) | (with_reducible apply mGNil_ok) | (with_reducible apply mPar_ok) | (with_reducible apply mPar3_ok) | (with_reducible apply mSet_ok) | (with_reducible apply mSeqI_ok) | (with_reducible apply mRange1_ok) | (with_reducible apply mZip_ok) | (with_reducible apply mFrz_ok) | (with_reducible apply mFor_ok) | (with_reducible apply mCallV_ok) | (with_reducible apply gAddL) | (with_reducible apply gSumL) | (with_reducible apply gMax0) | (with_reducible apply gMax2) | (with_reducible apply gMaxP) | (with_reducible apply gAllL) | (with_reducible apply gTupL) | (with_reducible apply gTupT) | (with_reducible apply gListT) | (with_reducible apply gLenT) | (with_reducible apply gIsiT) | (with_reducible apply gIsNT) | (with_reducible apply gEqL0) | (with_reducible apply gNeL0) | (with_reducible apply gMul_ok) | (with_reducible apply gAdd_ok) | (with_reducible apply gSub_ok) | (with_reducible apply gEqI) | (with_reducible apply gNeI) | (with_reducible apply gLt_ok) | (with_reducible apply gLe_ok) | (with_reducible apply gGt_ok) | (with_reducible apply gGe_ok) | (with_reducible apply gInt_ok) | (with_reducible apply mulB_ok) | (with_reducible apply lim_ok) | ((with_reducible apply ite_t); (first | assumption | (exact decide_eq_true (by omega)) | (exact decide_eq_false (by omega)) | (simp only [Bool.not_eq_true', Bool.not_eq_false', Bool.not_not, decide_eq_false_iff_not, decide_eq_true_eq, Bool.false_eq_true, if_true, if_false, Bool.not_false, Bool.not_true, reduceIte]; omega) | exact rfl)) | ((with_reducible apply ite_f); (first | assumption | (exact decide_eq_true (by omega)) | (exact decide_eq_false (by omega)) | (simp only [Bool.not_eq_true', Bool.not_eq_false', Bool.not_not, decide_eq_false_iff_not, decide_eq_true_eq, Bool.false_eq_true, if_true, if_false, Bool.not_false, Bool.not_true, reduceIte]; omega) | exact rfl)) | (simp only [List.set_cons_succ, List.set_cons_zero, wipeD]; exact rfl) | (simp only [List.length_cons, List.length_nil, List.length_map, List.length_append]; omega) | (exact rfl) | (omega)))
theorem e_items1 (a : Am e r i m t) (hk : B1 e r i m t = true) (h1 : m = 0 → e = 0) : ∃ l, d_items_for A [.int 1, five e r i m t] mu = .ok (.tup l) mu := by
  have kk := e_kinds1 (A := A) (mu := mu) a
  have hf := gEqL0 (mu := mu) (ok_kd1 (e := e) (r := r) (i := i) (m := m) (t := t))
  have he : ((KD1 e r i m t).map D.str).isEmpty = false := by unfold KD1; rw [hk]; rfl
  rw [he] at hf
  have pe := a.pe
  have pm := a.pm
  by_cases hm : m = 0
  · have hee := h1 hm
    refine ⟨[.int 1, .lst []], denF_rt (env0 := [some (.int 1), some (five e r i m t), none, none, none, none, none, none, none, none, none, none, none]) rfl ?_⟩
    unfold m_items_for
    (repeat' (first | (with_reducible assumption) | (with_reducible apply mVar_ok) | (with_reducible apply mC_ok) | (with_reducible apply mOp_ok) | (with_reducible apply mTest_ok) | (with_reducible apply mCons_ok) | (with_reducible apply mNil_ok) | (with_reducible apply mCall_ok) | (with_reducible apply mCallF_ok) | (with_reducible apply mSeq_eq) | (with_reducible apply seqNx) | (with_reducible apply seqRt) | (with_reducible apply mSkip_ok) | (with_reducible apply mRet_ok) | (with_reducible apply mRetN_ok) | (with_reducible apply mExpr_ok) | (with_reducible apply mAsg_ok) | (with_reducible apply mGName_ok) | (with_reducible apply mIfS_ok) | (with_reducible apply mTAnd_ok) | (with_reducible apply mTOr_ok) | (with_reducible apply mTNot_ok) | (with_reducible apply mAnd_ok) | (with_reducible apply mOr_ok) | (with_reducible apply mNot_ok) | (with_reducible apply mIf_ok) | (with_reducible apply mChain_ok) | (with_reducible apply bindO_ok) | (with_reducible apply mTup_ok) | (with_reducible apply mLst_ok) | (with_reducible apply mLst_okC) | (with_reducible apply mUn_ok) | (with_reducible apply mMet_ok) | (with_reducible apply mMetC_ok) | (with_reducible apply mGTup_ok) | (with_reducible apply mGCons_ok) | (with_reducible apply mGNil_ok) | (with_reducible apply mPar_ok) | (with_reducible apply mPar3_ok) | (with_reducible apply mSet_ok) | (with_reducible apply mSeqI_ok) | (with_reducible apply mRange1_ok) | (with_reducible apply mZip_ok) | (with_reducible apply mFrz_ok) | (with_reducible apply mFor_ok) | (with_reducible apply mCallV_ok) | (with_reducible apply gAddL) | (with_reducible apply gSumL) | (with_reducible apply gMax0) | (with_reducible apply gMax2) | (with_reducible apply gMaxP) | (with_reducible apply gAllL) | (with_reducible apply gTupL) | (with_reducible apply gTupT) | (with_reducible apply gListT) | (with_reducible apply gLenT) | (with_reducible apply gIsiT) | (with_reducible apply gIsNT) | (with_reducible apply gEqL0) | (with_reducible apply gNeL0) | (with_reducible apply gMul_ok) | (with_reducible apply gAdd_ok) | (with_reducible apply gSub_ok) | (with_reducible apply gEqI) | (with_reducible apply gNeI) | (with_reducible apply gLt_ok) | (with_reducible apply gLe_ok) | (with_reducible apply gGt_ok) | (with_reducible apply gGe_ok) | (with_reducible apply gInt_ok) | (with_reducible apply mulB_ok) | (with_reducible apply lim_ok) | ((with_reducible apply ite_t); (first | assumption | (exact decide_eq_true (by omega)) | (exact decide_eq_false (by omega)) | (simp only [Bool.not_eq_true', Bool.not_eq_false', Bool.not_not, decide_eq_false_iff_not, decide_eq_true_eq, Bool.false_eq_true, if_true, if_false, Bool.not_false, Bool.not_true, reduceIte]; omega) | exact rfl)) | ((with_reducible apply ite_f); (first | assumption | (exact decide_eq_true (by omega)) | (exact decide_eq_false (by omega)) | (simp only [Bool.not_eq_true', Bool.not_eq_false', Bool.not_not, decide_eq_false_iff_not, decide_eq_true_eq, Bool.false_eq_true, if_true, if_false, Bool.not_false, Bool.not_true, reduceIte]; omega) | exact rfl)) | (simp only [List.set_cons_succ, List.set_cons_zero, wipeD]; exact rfl) | (simp only [List.length_cons, List.length_nil, List.length_map, List.length_append]; omega) | (exact rfl) | (omega)))
  · have hn : d_numbers_for A [five e r i m t] mu = .ok (.lst (([(1, .int m), (e - m, .int 1)] : List (Int × D)).map encR)) mu := by
      refine denF_rt (env0 := [some (five e r i m t), none, none]) rfl ?_
      unfold m_numbers_for
      (repeat' (first | (with_reducible assumption) | (with_reducible apply mVar_ok) | (with_reducible apply mC_ok) | (with_reducible apply mOp_ok) | (with_reducible apply mTest_ok) | (with_reducible apply mCons_ok) | (with_reducible apply mNil_ok) | (with_reducible apply mCall_ok) | (with_reducible apply mCallF_ok) | (with_reducible apply mSeq_eq) | (with_reducible apply seqNx) | (with_reducible apply seqRt) | (with_reducible apply mSkip_ok) | (with_reducible apply mRet_ok) | (with_reducible apply mRetN_ok) | (with_reducible apply mExpr_ok) | (with_reducible apply mAsg_ok) | (with_reducible apply mGName_ok) | (with_reducible apply mIfS_ok) | (with_reducible apply mTAnd_ok) | (with_reducible apply mTOr_ok) | (with_reducible apply mTNot_ok) | (with_reducible apply mAnd_ok) | (with_reducible apply mOr_ok) | (with_reducible apply mNot_ok) | (with_reducible apply mIf_ok) | (with_reducible apply mChain_ok) | (with_reducible apply bindO_ok) | (with_reducible apply mTup_ok) | (with_reducible apply mLst_ok) | (with_reducible apply mLst_okC) | (with_reducible apply mUn_ok) | (with_reducible apply mMet_ok) | (with_reducible apply mMetC_ok) | (with_reducible apply mGTup_ok) | (with_reducible apply mGCons_ok) | (with_reducible apply mGNil_ok) | (with_reducible apply mPar_ok) | (with_reducible apply mPar3_ok) | (with_reducible apply mSet_ok) | (with_reducible apply mSeqI_ok) | (with_reducible apply mRange1_ok) | (with_reducible apply mZip_ok) | (with_reducible apply mFrz_ok) | (with_reducible apply mFor_ok) | (with_reducible apply mCallV_ok) | (with_reducible apply gAddL) | (with_reducible apply gSumL) | (with_reducible apply gMax0) | (with_reducible apply gMax2) | (with_reducible apply gMaxP) | (with_reducible apply gAllL) | (with_reducible apply gTupL) | (with_reducible apply gTupT) | (with_reducible apply gListT) | (with_reducible apply gLenT) | (with_reducible apply gIsiT) | (with_reducible apply gIsNT) | (with_reducible apply gEqL0) | (with_reducible apply gNeL0) | (with_reducible apply gMul_ok) | (with_reducible apply gAdd_ok) | (with_reducible apply gSub_ok) | (with_reducible apply gEqI) | (with_reducible apply gNeI) | (with_reducible apply gLt_ok) | (with_reducible apply gLe_ok) | (with_reducible apply gGt_ok) | (with_reducible apply gGe_ok) | (with_reducible apply gInt_ok) | (with_reducible apply mulB_ok) | (with_reducible apply lim_ok) | ((with_reducible apply ite_t); (first | assumption | (exact decide_eq_true (by omega)) | (exact decide_eq_false (by omega)) | (simp only [Bool.not_eq_true', Bool.not_eq_false', Bool.not_not, decide_eq_false_iff_not, decide_eq_true_eq, Bool.false_eq_true, if_true, if_false, Bool.not_false, Bool.not_true, reduceIte]; omega) | exact rfl)) | ((with_reducible apply ite_f); (first | assumption | (exact decide_eq_true (by omega)) | (exact decide_eq_false (by omega)) | (simp only [Bool.not_eq_true', Bool.not_eq_false', Bool.not_not, decide_eq_false_iff_not, decide_eq_true_eq, Bool.false_eq_true, if_true, if_false, Bool.not_false, Bool.not_true, reduceIte]; omega) | exact rfl)) | (simp only [List.set_cons_succ, List.set_cons_zero, wipeD]; exact rfl) | (simp only [List.length_cons, List.length_nil, List.length_map, List.length_append]; omega) | (exact rfl) | (omega)))
    have q : ∃ l, q_items_for_1 A [some (.int 1), some (five e r i m t), some (.lst ((KD1 e r i m t).map D.str)), some (.int e), some (.int r), some (.int i), some (.int m), some (.int t), none, none, none, none, none] mu = .ok (.lst l) mu := by
      refine ⟨_, mLc_filter (enc := encR) (p := fun q => decide (0 < q.1)) (f := encR) [(1, .int m), (e - m, .int 1)] ?_ ?_ (by simp)⟩
      · (repeat' (first | (with_reducible assumption) | (with_reducible exact hn) | (with_reducible apply mVar_ok) | (with_reducible apply mC_ok) | (with_reducible apply mOp_ok) | (with_reducible apply mTest_ok) | (with_reducible apply mCons_ok) | (with_reducible apply mNil_ok) | (with_reducible apply mCall_ok) | (with_reducible apply mCallF_ok) | (with_reducible apply mSeq_eq) | (with_reducible apply seqNx) | (with_reducible apply seqRt) | (with_reducible apply mSkip_ok) | (with_reducible apply mRet_ok) | (with_reducible apply mRetN_ok) | (with_reducible apply mExpr_ok) | (with_reducible apply mAsg_ok) | (with_reducible apply mGName_ok) | (with_reducible apply mIfS_ok) | (with_reducible apply mTAnd_ok) | (with_reducible apply mTOr_ok) | (with_reducible apply mTNot_ok) | (with_reducible apply mAnd_ok) | (with_reducible apply mOr_ok) | (with_reducible apply mNot_ok) | (with_reducible apply mIf_ok) | (with_reducible apply mChain_ok) | (with_reducible apply bindO_ok) | (with_reducible apply mTup_ok) | (with_reducible apply mLst_ok) | (with_reducible apply mLst_okC) | (with_reducible apply mUn_ok) | (with_reducible apply mMet_ok) | (with_reducible apply mMetC_ok) | (with_reducible apply mGTup_ok) | (with_reducible apply mGCons_ok) | (with_reducible apply mGNil_ok) | (with_reducible apply mPar_ok) | (with_reducible apply mPar3_ok) | (with_reducible apply mSet_ok) | (with_reducible apply mSeqI_ok) | (with_reducible apply mRange1_ok) | (with_reducible apply mZip_ok) | (with_reducible apply mFrz_ok) | (with_reducible apply mFor_ok) | (with_reducible apply mCallV_ok) | (with_reducible apply gAddL) | (with_reducible apply gSumL) | (with_reducible apply gMax0) | (with_reducible apply gMax2) | (with_reducible apply gMaxP) | (with_reducible apply gAllL) | (with_reducible apply gTupL) | (with_reducible apply gTupT) | (with_reducible apply gListT) | (with_reducible apply gLenT) | (with_reducible apply gIsiT) | (with_reducible apply gIsNT) | (with_reducible apply gEqL0) | (with_reducible apply gNeL0) | (with_reducible apply gMul_ok) | (with_reducible apply gAdd_ok) | (with_reducible apply gSub_ok) | (with_reducible apply gEqI) | (with_reducible apply gNeI) | (with_reducible apply gLt_ok) | (with_reducible apply gLe_ok) | (with_reducible apply gGt_ok) | (with_reducible apply gGe_ok) | (with_reducible apply gInt_ok) | (with_reducible apply mulB_ok) | (with_reducible apply lim_ok) | ((with_reducible apply ite_t); (first | assumption | (exact decide_eq_true (by omega)) | (exact decide_eq_false (by omega)) | (simp only [Bool.not_eq_true', Bool.not_eq_false', Bool.not_not, decide_eq_false_iff_not, decide_eq_true_eq, Bool.false_eq_true, if_true, if_false, Bool.not_false, Bool.not_true, reduceIte]; omega) | exact rfl)) | ((with_reducible apply ite_f); (first | assumption | (exact decide_eq_true (by omega)) | (exact decide_eq_false (by omega)) | (simp only [Bool.not_eq_true', Bool.not_eq_false', Bool.not_not, decide_eq_false_iff_not, decide_eq_true_eq, Bool.false_eq_true, if_true, if_false, Bool.not_false, Bool.not_true, reduceIte]; omega) | exact rfl)) | (simp only [List.set_cons_succ, List.set_cons_zero, wipeD]; exact rfl) | (simp only [List.length_cons, List.length_nil, List.length_map, List.length_append]; omega) | (exact rfl) | (omega)))
      · intro q hq
        have hi : gIx mu (encR q) (.int 0) = some (.int q.1, mu) := rfl
        refine ⟨[some (.int 1), some (five e r i m t), some (.lst ((KD1 e r i m t).map D.str)), some (.int e), some (.int r), some (.int i), some (.int m), some (.int t), some (encR q), none, none, none, none], ?_, ?_, fun _ => ?_⟩
        · (repeat' (first | (with_reducible assumption) | (with_reducible apply mVar_ok) | (with_reducible apply mC_ok) | (with_reducible apply mOp_ok) | (with_reducible apply mTest_ok) | (with_reducible apply mCons_ok) | (with_reducible apply mNil_ok) | (with_reducible apply mCall_ok) | (with_reducible apply mCallF_ok) | (with_reducible apply mSeq_eq) | (with_reducible apply seqNx) | (with_reducible apply seqRt) | (with_reducible apply mSkip_ok) | (with_reducible apply mRet_ok) | (with_reducible apply mRetN_ok) | (with_reducible apply mExpr_ok) | (with_reducible apply mAsg_ok) | (with_reducible apply mGName_ok) | (with_reducible apply mIfS_ok) | (with_reducible apply mTAnd_ok) | (with_reducible apply mTOr_ok) | (with_reducible apply mTNot_ok) | (with_reducible apply mAnd_ok) | (with_reducible apply mOr_ok) | (with_reducible apply mNot_ok) | (with_reducible apply mIf_ok) | (with_reducible apply mChain_ok) | (with_reducible apply bindO_ok) | (with_reducible apply mTup_ok) | (with_reducible apply mLst_ok) | (with_reducible apply mLst_okC) | (with_reducible apply mUn_ok) | (with_reducible apply mMet_ok) | (with_reducible apply mMetC_ok) | (with_reducible apply mGTup_ok) | (with_reducible apply mGCons_ok) | (with_reducible apply mGNil_ok) | (with_reducible apply mPar_ok) | (with_reducible apply mPar3_ok) | (with_reducible apply mSet_ok) | (with_reducible apply mSeqI_ok) | (with_reducible apply mRange1_ok) | (with_reducible apply mZip_ok) | (with_reducible apply mFrz_ok) | (with_reducible apply mFor_ok) | (with_reducible apply mCallV_ok) | (with_reducible apply gAddL) | (with_reducible apply gSumL) | (with_reducible apply gMax0) | (with_reducible apply gMax2) | (with_reducible apply gMaxP) | (with_reducible apply gAllL) | (with_reducible apply gTupL) | (with_reducible apply gTupT) | (with_reducible apply gListT) | (with_reducible apply gLenT) | (with_reducible apply gIsiT) | (with_reducible apply gIsNT) | (with_reducible apply gEqL0) | (with_reducible apply gNeL0) | (with_reducible apply gMul_ok) | (with_reducible apply gAdd_ok) | (with_reducible apply gSub_ok) | (with_reducible apply gEqI) | (with_reducible apply gNeI) | (with_reducible apply gLt_ok) | (with_reducible apply gLe_ok) | (with_reducible apply gGt_ok) | (with_reducible apply gGe_ok) | (with_reducible apply gInt_ok) | (with_reducible apply mulB_ok) | (with_reducible apply lim_ok) | ((with_reducible apply ite_t); (first | assumption | (exact decide_eq_true (by omega)) | (exact decide_eq_false (by omega)) | (simp only [Bool.not_eq_true', Bool.not_eq_false', Bool.not_not, decide_eq_false_iff_not, decide_eq_true_eq, Bool.false_eq_true, if_true, if_false, Bool.not_false, Bool.not_true, reduceIte]; omega) | exact rfl)) | ((with_reducible apply ite_f); (first | assumption | (exact decide_eq_true (by omega)) | (exact decide_eq_false (by omega)) | (simp only [Bool.not_eq_true', Bool.not_eq_false', Bool.not_not, decide_eq_false_iff_not, decide_eq_true_eq, Bool.false_eq_true, if_true, if_false, Bool.not_false, Bool.not_true, reduceIte]; omega) | exact rfl)) | (simp only [List.set_cons_succ, List.set_cons_zero, wipeD]; exact rfl) | (simp only [List.length_cons, List.length_nil, List.length_map, List.length_append]; omega) | (exact rfl) | (omega)))
        · (repeat' (first | (with_reducible assumption) | (with_reducible exact hi) | (with_reducible apply mVar_ok) | (with_reducible apply mC_ok) | (with_reducible apply mOp_ok) | (with_reducible apply mTest_ok) | (with_reducible apply mCons_ok) | (with_reducible apply mNil_ok) | (with_reducible apply mCall_ok) | (with_reducible apply mCallF_ok) | (with_reducible apply mSeq_eq) | (with_reducible apply seqNx) | (with_reducible apply seqRt) | (with_reducible apply mSkip_ok) | (with_reducible apply mRet_ok) | (with_reducible apply mRetN_ok) | (with_reducible apply mExpr_ok) | (with_reducible apply mAsg_ok) | (with_reducible apply mGName_ok) | (with_reducible apply mIfS_ok) | (with_reducible apply mTAnd_ok) | (with_reducible apply mTOr_ok) | (with_reducible apply mTNot_ok) | (with_reducible apply mAnd_ok) | (with_reducible apply mOr_ok) | (with_reducible apply mNot_ok) | (with_reducible apply mIf_ok) | (with_reducible apply mChain_ok) | (with_reducible apply bindO_ok) | (with_reducible apply mTup_ok) | (with_reducible apply mLst_ok) | (with_reducible apply mLst_okC) | (with_reducible apply mUn_ok) | (with_reducible apply mMet_ok) | (with_reducible apply mMetC_ok) | (with_reducible apply mGTup_ok) | (with_reducible apply mGCons_ok) | (with_reducible apply mGNil_ok) | (with_reducible apply mPar_ok) | (with_reducible apply mPar3_ok) | (with_reducible apply mSet_ok) | (with_reducible apply mSeqI_ok) | (with_reducible apply mRange1_ok) | (with_reducible apply mZip_ok) | (with_reducible apply mFrz_ok) | (with_reducible apply mFor_ok) | (with_reducible apply mCallV_ok) | (with_reducible apply gAddL) | (with_reducible apply gSumL) | (with_reducible apply gMax0) | (with_reducible apply gMax2) | (with_reducible apply gMaxP) | (with_reducible apply gAllL) | (with_reducible apply gTupL) | (with_reducible apply gTupT) | (with_reducible apply gListT) | (with_reducible apply gLenT) | (with_reducible apply gIsiT) | (with_reducible apply gIsNT) | (with_reducible apply gEqL0) | (with_reducible apply gNeL0) | (with_reducible apply gMul_ok) | (with_reducible apply gAdd_ok) | (with_reducible apply gSub_ok) | (with_reducible apply gEqI) | (with_reducible apply gNeI) | (with_reducible apply gLt_ok) | (with_reducible apply gLe_ok) | (with_reducible apply gGt_ok) | (with_reducible apply gGe_ok) | (with_reducible apply gInt_ok) | (with_reducible apply mulB_ok) | (with_reducible apply lim_ok) | ((with_reducible apply ite_t); (first | assumption | (exact decide_eq_true (by omega)) | (exact decide_eq_false (by omega)) | (simp only [Bool.not_eq_true', Bool.not_eq_false', Bool.not_not, decide_eq_false_iff_not, decide_eq_true_eq, Bool.false_eq_true, if_true, if_false, Bool.not_false, Bool.not_true, reduceIte]; omega) | exact rfl)) | ((with_reducible apply ite_f); (first | assumption | (exact decide_eq_true (by omega)) | (exact decide_eq_false (by omega)) | (simp only [Bool.not_eq_true', Bool.not_eq_false', Bool.not_not, decide_eq_false_iff_not, decide_eq_true_eq, Bool.false_eq_true, if_true, if_false, Bool.not_false, Bool.not_true, reduceIte]; omega) | exact rfl)) | (simp only [List.set_cons_succ, List.set_cons_zero, wipeD]; exact rfl) | (simp only [List.length_cons, List.length_nil, List.length_map, List.length_append]; omega) | (exact rfl) | (omega)))
        · (repeat' (first | (with_reducible assumption) | (with_reducible apply mVar_ok) | (with_reducible apply mC_ok) | (with_reducible apply mOp_ok) | (with_reducible apply mTest_ok) | (with_reducible apply mCons_ok) | (with_reducible apply mNil_ok) | (with_reducible apply mCall_ok) | (with_reducible apply mCallF_ok) | (with_reducible apply mSeq_eq) | (with_reducible apply seqNx) | (with_reducible apply seqRt) | (with_reducible apply mSkip_ok) | (with_reducible apply mRet_ok) | (with_reducible apply mRetN_ok) | (with_reducible apply mExpr_ok) | (with_reducible apply mAsg_ok) | (with_reducible apply mGName_ok) | (with_reducible apply mIfS_ok) | (with_reducible apply mTAnd_ok) | (with_reducible apply mTOr_ok) | (with_reducible apply mTNot_ok) | (with_reducible apply mAnd_ok) | (with_reducible apply mOr_ok) | (with_reducible apply mNot_ok) | (with_reducible apply mIf_ok) | (with_reducible apply mChain_ok) | (with_reducible apply bindO_ok) | (with_reducible apply mTup_ok) | (with_reducible apply mLst_ok) | (with_reducible apply mLst_okC) | (with_reducible apply mUn_ok) | (with_reducible apply mMet_ok) | (with_reducible apply mMetC_ok) | (with_reducible apply mGTup_ok) | (with_reducible apply mGCons_ok) | (with_reducible apply mGNil_ok) | (with_reducible apply mPar_ok) | (with_reducible apply mPar3_ok) | (with_reducible apply mSet_ok) | (with_reducible apply mSeqI_ok) | (with_reducible apply mRange1_ok) | (with_reducible apply mZip_ok) | (with_reducible apply mFrz_ok) | (with_reducible apply mFor_ok) | (with_reducible apply mCallV_ok) | (with_reducible apply gAddL) | (with_reducible apply gSumL) | (with_reducible apply gMax0) | (with_reducible apply gMax2) | (with_reducible apply gMaxP) | (with_reducible apply gAllL) | (with_reducible apply gTupL) | (with_reducible apply gTupT) | (with_reducible apply gListT) | (with_reducible apply gLenT) | (with_reducible apply gIsiT) | (with_reducible apply gIsNT) | (with_reducible apply gEqL0) | (with_reducible apply gNeL0) | (with_reducible apply gMul_ok) | (with_reducible apply gAdd_ok) | (with_reducible apply gSub_ok) | (with_reducible apply gEqI) | (with_reducible apply gNeI) | (with_reducible apply gLt_ok) | (with_reducible apply gLe_ok) | (with_reducible apply gGt_ok) | (with_reducible apply gGe_ok) | (with_reducible apply gInt_ok) | (with_reducible apply mulB_ok) | (with_reducible apply lim_ok) | ((with_reducible apply ite_t); (first | assumption | (exact decide_eq_true (by omega)) | (exact decide_eq_false (by omega)) | (simp only [Bool.not_eq_true', Bool.not_eq_false', Bool.not_not, decide_eq_false_iff_not, decide_eq_true_eq, Bool.false_eq_true, if_true, if_false, Bool.not_false, Bool.not_true, reduceIte]; omega) | exact rfl)) | ((with_reducible apply ite_f); (first | assumption | (exact decide_eq_true (by omega)) | (exact decide_eq_false (by omega)) | (simp only [Bool.not_eq_true', Bool.not_eq_false', Bool.not_not, decide_eq_false_iff_not, decide_eq_true_eq, Bool.false_eq_true, if_true, if_false, Bool.not_false, Bool.not_true, reduceIte]; omega) | exact rfl)) | (simp only [List.set_cons_succ, List.set_cons_zero, wipeD]; exact rfl) | (simp only [List.length_cons, List.length_nil, List.length_map, List.length_append]; omega) | (exact rfl) | (omega)))
    obtain ⟨l, hl⟩ := q
    refine ⟨[.int 1, .lst l], denF_rt (env0 := [some (.int 1), some (five e r i m t), none, none, none, none, none, none, none, none, none, none, none]) rfl ?_⟩
    unfold m_items_for
    (repeat' (first | (with_reducible assumption) | (with_reducible exact hl) | (with_reducible apply mVar_ok) | (with_reducible apply mC_ok) | (with_reducible apply mOp_ok) | (with_reducible apply mTest_ok) | (with_reducible apply mCons_ok) | (with_reducible apply mNil_ok) | (with_reducible apply mCall_ok) | (with_reducible apply mCallF_ok) | (with_reducible apply mSeq_eq) | (with_reducible apply seqNx) | (with_reducible apply seqRt) | (with_reducible apply mSkip_ok) | (with_reducible apply mRet_ok) | (with_reducible apply mRetN_ok) | (with_reducible apply mExpr_ok) | (with_reducible apply mAsg_ok) | (with_reducible apply mGName_ok) | (with_reducible apply mIfS_ok) | (with_reducible apply mTAnd_ok) | (with_reducible apply mTOr_ok) | (with_reducible apply mTNot_ok) | (with_reducible apply mAnd_ok) | (with_reducible apply mOr_ok) | (with_reducible apply mNot_ok) | (with_reducible apply mIf_ok) | (with_reducible apply mChain_ok) | (with_reducible apply bindO_ok) | (with_reducible apply mTup_ok) | (with_reducible apply mLst_ok) | (with_reducible apply mLst_okC) | (with_reducible apply mUn_ok) | (with_reducible apply mMet_ok) | (with_reducible apply mMetC_ok) | (with_reducible apply mGTup_ok) | (with_reducible apply mGCons_ok) | (with_reducible apply mGNil_ok) | (with_reducible apply mPar_ok) | (with_reducible apply mPar3_ok) | (with_reducible apply mSet_ok) | (with_reducible apply mSeqI_ok) | (with_reducible apply mRange1_ok) | (with_reducible apply mZip_ok) | (with_reducible apply mFrz_ok) | (with_reducible apply mFor_ok) | (with_reducible apply mCallV_ok) | (with_reducible apply gAddL) | (with_reducible apply gSumL) | (with_reducible apply gMax0) | (with_reducible apply gMax2) | (with_reducible apply gMaxP) | (with_reducible apply gAllL) | (with_reducible apply gTupL) | (with_reducible apply gTupT) | (with_reducible apply gListT) | (with_reducible apply gLenT) | (with_reducible apply gIsiT) | (with_reducible apply gIsNT) | (with_reducible apply gEqL0) | (with_reducible apply gNeL0) | (with_reducible apply gMul_ok) | (with_reducible apply gAdd_ok) | (with_reducible apply gSub_ok) | (with_reducible apply gEqI) | (with_reducible apply gNeI) | (with_reducible apply gLt_ok) | (with_reducible apply gLe_ok) | (with_reducible apply gGt_ok) | (with_reducible apply gGe_ok) | (with_reducible apply gInt_ok) | (with_reducible apply mulB_ok) | (with_reducible apply lim_ok) | ((with_reducible apply ite_t); (first | assumption | (exact decide_eq_true (by omega)) | (exact decide_eq_false (by omega)) | (simp only [Bool.not_eq_true', Bool.not_eq_false', Bool.not_not, decide_eq_false_iff_not, decide_eq_true_eq, Bool.false_eq_true, if_true, if_false, Bool.not_false, Bool.not_true, reduceIte]; omega) | exact rfl)) | ((with_reducible apply ite_f); (first | assumption | (exact decide_eq_true (by omega)) | (exact decide_eq_false (by omega)) | (simp only [Bool.not_eq_true', Bool.not_eq_false', Bool.not_not, decide_eq_false_iff_not, decide_eq_true_eq, Bool.false_eq_true, if_true, if_false, Bool.not_false, Bool.not_true, reduceIte]; omega) | exact rfl)) | (simp only [List.set_cons_succ, List.set_cons_zero, wipeD]; exact rfl) | (simp only [List.length_cons, List.length_nil, List.length_map, List.length_append]; omega) | (exact rfl) | (omega)))
end
end
end K22

namespace K22
open PySem L2 DL
/-! the plain law -/
abbrev Rn := Int × Int × Int
def okR (l : List Rn) : Prop := ∀ r ∈ l, 1 ≤ r.1 ∧ 0 ≤ r.2.1 ∧ 0 ≤ r.2.2
theorem sum_nn {g : Rn → Int} : ∀ {l : List Rn}, (∀ x ∈ l, 0 ≤ g x) → 0 ≤ (l.map g).sum
  | [], _ => by simp
  | x :: l, h => by
    have h1 := h x List.mem_cons_self
    have h2 := sum_nn (fun y hy => h y (List.mem_cons_of_mem _ hy))
    simp only [List.map_cons, List.sum_cons]; omega
theorem sum_one {g : Rn → Int} : ∀ {l : List Rn} {x0 : Rn}, (∀ x ∈ l, 0 ≤ g x) → x0 ∈ l → g x0 ≤ (l.map g).sum
  | x :: l, x0, h, m => by
    have h1 := h x List.mem_cons_self
    have hl : ∀ y ∈ l, 0 ≤ g y := fun y hy => h y (List.mem_cons_of_mem _ hy)
    simp only [List.map_cons, List.sum_cons]
    rcases List.mem_cons.mp m with rfl | m
    · have := sum_nn hl; omega
    · have := sum_one hl m; omega
theorem sum_two {g : Rn → Int} : ∀ {l : List Rn} {x0 x1 : Rn}, (∀ x ∈ l, 0 ≤ g x) → x0 ∈ l → x1 ∈ l → x0 ≠ x1 → g x0 + g x1 ≤ (l.map g).sum
  | x :: l, x0, x1, h, m, m1, ne => by
    have h1 := h x List.mem_cons_self
    have hl : ∀ y ∈ l, 0 ≤ g y := fun y hy => h y (List.mem_cons_of_mem _ hy)
    simp only [List.map_cons, List.sum_cons]
    rcases List.mem_cons.mp m with e | k
    · rcases List.mem_cons.mp m1 with e1 | k1
      · exact absurd (e.trans e1.symm) ne
      · have := sum_one hl k1; rw [e]; omega
    · rcases List.mem_cons.mp m1 with e1 | k1
      · have := sum_one hl k; rw [e1]; omega
      · have := sum_two hl k k1 ne; omega
abbrev mx (x : Rn) : Int := max x.2.1 x.2.2
theorem sum_G (p q : Int) : ∀ l : List Rn, (l.map fun x => x.1 * (p * fI x + q * mx x)).sum = p * sE l + q * sR l
  | [] => by simp [sE, sR]
  | x :: l => by
    have ih := sum_G p q l
    simp only [sE, sR, List.map_cons, List.sum_cons] at ih ⊢
    rw [ih]
    grind
theorem le_mul {c z : Int} (hc : 1 ≤ c) (hz : 0 ≤ z) : z ≤ c * z := by
  have := Int.mul_le_mul_of_nonneg_right hc hz
  omega
theorem lin_one (p q : Int) {l : List Rn} {x0 : Rn} (h : okR l) (hz : ∀ x ∈ l, 0 ≤ p * fI x + q * mx x) (m : x0 ∈ l) : p * fI x0 + q * mx x0 ≤ p * sE l + q * sR l := by
  rw [← sum_G p q l]
  refine Int.le_trans (le_mul (h x0 m).1 (hz x0 m)) ?_
  exact sum_one (g := fun x => x.1 * (p * fI x + q * mx x)) (fun x hx => Int.mul_nonneg (by have := (h x hx).1; omega) (hz x hx)) m
theorem lin_two (p q : Int) {l : List Rn} {x0 x1 : Rn} (h : okR l) (hz : ∀ x ∈ l, 0 ≤ p * fI x + q * mx x) (m : x0 ∈ l) (m1 : x1 ∈ l) (ne : x0 ≠ x1) : (p * fI x0 + q * mx x0) + (p * fI x1 + q * mx x1) ≤ p * sE l + q * sR l := by
  rw [← sum_G p q l]
  refine Int.le_trans (Int.add_le_add (le_mul (h x0 m).1 (hz x0 m)) (le_mul (h x1 m1).1 (hz x1 m1))) ?_
  exact sum_two (g := fun x => x.1 * (p * fI x + q * mx x)) (fun x hx => Int.mul_nonneg (by have := (h x hx).1; omega) (hz x hx)) m m1 ne
/-- a maximum over a list: its bound, who has it -/
theorem mx_le {g : Rn → Int} {l : List Rn} {x : Rn} (h : x ∈ l) : g x ≤ maxI (0 :: l.map g) := mx0.2 _ (List.mem_cons_of_mem _ (List.mem_map.mpr ⟨x, h, rfl⟩))
theorem mx_nn {l : List Int} : 0 ≤ maxI (0 :: l) := mx0.2 0 List.mem_cons_self
theorem mx_at {g : Rn → Int} {l : List Rn} (hne : l ≠ []) (h : ∀ x ∈ l, 0 ≤ g x) : ∃ x ∈ l, g x = maxI (0 :: l.map g) := by
  rcases List.mem_cons.mp (mx0 (l := l.map g)).1 with e | m
  · cases l with
    | nil => exact absurd rfl hne
    | cons y l =>
      refine ⟨y, List.mem_cons_self, ?_⟩
      have h1 := h y List.mem_cons_self
      have h2 := mx_le (g := g) (x := y) (l := y :: l) List.mem_cons_self
      omega
  · obtain ⟨x, hx, e⟩ := List.mem_map.mp m
    exact ⟨x, hx, e⟩
section
variable {l : List Rn}
theorem fI_le (h : okR l) (hne : l ≠ []) : mI l ≤ mA l + mB l := by
  obtain ⟨x, hx, e⟩ := mx_at (g := fI) hne (fun x hx => by have := h x hx; show 0 ≤ x.2.1 + x.2.2; omega)
  have h1 : x.2.1 ≤ mA l := mx_le (g := fun r : Rn => r.2.1) hx
  have h2 : x.2.2 ≤ mB l := mx_le (g := fun r : Rn => r.2.2) hx
  unfold mI
  rw [← e]
  show x.2.1 + x.2.2 ≤ _
  omega
theorem k1_of (h : okR l) {x0 : Rn} (m : x0 ∈ l) (ha : x0.2.1 = mA l) (hb : x0.2.2 = mB l) : K1 (sE l) (sR l) (mI l) (max (mA l) (mB l)) (mA l + mB l) = true := by
  have hne : l ≠ [] := fun e => by rw [e] at m; cases m
  have i1 := fI_le h hne
  have i2 : fI x0 ≤ mI l := mx_le (g := fI) m
  have nn : ∀ x ∈ l, 0 ≤ x.2.1 ∧ 0 ≤ x.2.2 := fun x hx => (h x hx).2
  have a1 := lin_one 0 1 h (fun x hx => by have := nn x hx; simp only [fI, mx]; omega) m
  have a2 := lin_one 1 (-1) h (fun x hx => by have := nn x hx; simp only [fI, mx]; omega) m
  have a3 := lin_one (-1) 2 h (fun x hx => by have := nn x hx; simp only [fI, mx]; omega) m
  have n0 := nn x0 m
  simp only [fI, mx, ha, hb] at a1 a2 a3 i2
  rw [ha, hb] at n0
  rw [k1_iff]
  refine ⟨?_, ?_, ?_, ?_, ?_, ?_, ?_⟩ <;> omega
theorem k12_of (h : okR l) : K1 (sE l) (sR l) (mI l) (max (mA l) (mB l)) (mA l + mB l) = true ∨ K2 (sE l) (sR l) (mI l) (max (mA l) (mB l)) (mA l + mB l) = true := by
  by_cases hne : l = []
  · subst hne; left; rw [k1_iff]; decide
  obtain ⟨p, hp, ep⟩ := mx_at (g := fun r : Rn => r.2.1) hne (fun x hx => (h x hx).2.1)
  obtain ⟨q, hq, eq⟩ := mx_at (g := fun r : Rn => r.2.2) hne (fun x hx => (h x hx).2.2)
  have ep : p.2.1 = mA l := ep
  have eq : q.2.2 = mB l := eq
  by_cases c1 : p.2.2 = mB l
  · exact .inl (k1_of h hp ep c1)
  by_cases c2 : q.2.1 = mA l
  · exact .inl (k1_of h hq c2 eq)
  right
  have hpq : p ≠ q := fun e => c1 (by rw [e]; exact eq)
  obtain ⟨z, hz, ez⟩ := mx_at (g := fI) hne (fun x hx => by have := h x hx; show 0 ≤ x.2.1 + x.2.2; omega)
  have ez : fI z = mI l := ez
  have nn : ∀ x ∈ l, 0 ≤ x.2.1 ∧ 0 ≤ x.2.2 := fun x hx => (h x hx).2
  have le : ∀ x ∈ l, x.2.1 ≤ mA l ∧ x.2.2 ≤ mB l ∧ fI x ≤ mI l := fun x hx => ⟨mx_le (g := fun r : Rn => r.2.1) hx, mx_le (g := fun r : Rn => r.2.2) hx, mx_le (g := fI) hx⟩
  have i1 := fI_le h hne
  have b1 := lin_two 0 1 h (fun x hx => by have := nn x hx; simp only [fI, mx]; omega) hp hq hpq
  have b2 := lin_one 1 (-1) h (fun x hx => by have := nn x hx; simp only [fI, mx]; omega) hz
  have b3 := lin_one (-1) 2 h (fun x hx => by have := nn x hx; simp only [fI, mx]; omega) hp
  have b4 := lin_one (-1) 2 h (fun x hx => by have := nn x hx; simp only [fI, mx]; omega) hq
  have b5 := lin_two (-1) 2 h (fun x hx => by have := nn x hx; simp only [fI, mx]; omega) hp hq hpq
  have n1 := nn p hp; have n2 := nn q hq; have n3 := nn z hz
  have l1 := le p hp; have l2 := le q hq; have l3 := le z hz
  simp only [fI, mx] at b1 b2 b3 b4 b5 ez l1 l2 l3
  rw [k2_iff]
  refine ⟨?_, ?_, ?_, ?_, ?_, ?_, ?_⟩ <;> omega
theorem zero_of (h : okR l) (hm : max (mA l) (mB l) = 0) : sE l = 0 := by
  unfold sE
  have : l.map fE = l.map fun _ => (0 : Int) := List.map_congr_left fun x hx => by
    have h1 : x.2.1 ≤ mA l := mx_le (g := fun r : Rn => r.2.1) hx
    have h2 : x.2.2 ≤ mB l := mx_le (g := fun r : Rn => r.2.2) hx
    have h3 := h x hx
    have e1 : x.2.1 = 0 := by omega
    have e2 : x.2.2 = 0 := by omega
    show x.1 * (x.2.1 + x.2.2) = 0
    rw [e1, e2]; simp
  rw [this]
  clear this h hm
  induction l with
  | nil => rfl
  | cons x l ih => simp only [List.map_cons, List.sum_cons, ih]; rfl
theorem flat_of (h : okR l) (hm : mA l + mB l = max (mA l) (mB l)) : sR l = sE l := by
  unfold sE sR
  refine congrArg List.sum (List.map_congr_left fun x hx => ?_)
  have h1 : x.2.1 ≤ mA l := mx_le (g := fun r : Rn => r.2.1) hx
  have h2 : x.2.2 ≤ mB l := mx_le (g := fun r : Rn => r.2.2) hx
  have h3 := h x hx
  show x.1 * max x.2.1 x.2.2 = x.1 * (x.2.1 + x.2.2)
  congr 1
  omega
end
/-! scaling -/
theorem wv_scale (k e r i m t : Int) (w : Str) : wv (k * e) (k * r) (k * i) (k * m) (k * t) w = k * wv e r i m t w := by
  unfold wv
  generalize (idxS w WL).getD 0 = j
  have : [k * e, k * r, k * i, k * m, k * t] = [e, r, i, m, t].map (k * ·) := rfl
  rw [this, List.getElem?_map]
  cases [e, r, i, m, t][j]? <;> simp
theorem wSum_scale (k e r i m t : Int) : ∀ l : List (Str × Int), wSum (k * e) (k * r) (k * i) (k * m) (k * t) l = k * wSum e r i m t l
  | [] => by simp [wSum]
  | q :: l => by
    have ih := wSum_scale k e r i m t l
    simp only [wSum, List.map_cons, List.sum_cons] at ih ⊢
    rw [ih, wv_scale]
    grind
theorem holds_scale {k e r i m t : Int} (hk : 0 < k) : holdsF (k * e) (k * r) (k * i) (k * m) (k * t) = holdsF e r i m t := by
  funext f
  unfold holdsF
  rw [wSum_scale, wSum_scale]
  exact decide_eq_decide.mpr (Int.mul_le_mul_left hk)
theorem kd2_scale {k e r i m t : Int} (hk : 0 < k) : KD2 (k * e) (k * r) (k * i) (k * m) (k * t) = KD2 e r i m t := by
  unfold KD2 K1 K2
  rw [holds_scale hk]
theorem kd2_add {e r i m t e' r' i' m' t' : Int} : ∀ x ∈ KD2 e r i m t, x ∈ KD2 e' r' i' m' t' → x ∈ KD2 (e + e') (r + r') (i + i') (m + m') (t + t') := by
  have d12 : ("one" : Str) ≠ "two" := by decide +kernel
  have d21 : ("two" : Str) ≠ "one" := by decide +kernel
  intro x h1 h2
  have mem1 : ∀ {e r i m t : Int}, ("one" : Str) ∈ KD2 e r i m t ↔ K1 e r i m t = true := by
    intro e r i m t
    unfold KD2
    cases K1 e r i m t <;> cases K2 e r i m t <;> simp [d12]
  have mem2 : ∀ {e r i m t : Int}, ("two" : Str) ∈ KD2 e r i m t ↔ K2 e r i m t = true := by
    intro e r i m t
    unfold KD2
    cases K1 e r i m t <;> cases K2 e r i m t <;> simp [d21]
  rcases kd2_in x h1 with rfl | rfl
  · rw [mem1, k1_iff] at *; omega
  · rw [mem2, k2_iff] at *; omega
theorem kd1_add {e r i m t e' r' i' m' t' : Int} : ∀ x ∈ KD1 e r i m t, x ∈ KD1 e' r' i' m' t' → x ∈ KD1 (e + e') (r + r') (i + i') (m + m') (t + t') := by
  intro x h1 h2
  unfold KD1 at *
  split at h1
  · rename_i a
    split at h2
    · rename_i b
      rw [b1_iff] at a b
      have c : B1 (e + e') (r + r') (i + i') (m + m') (t + t') = true := by rw [b1_iff]; omega
      rw [if_pos c]; exact h1
    · cases h2
  · cases h1
end K22

namespace K22
open PySem L2 DL
/-! small enough amounts -/
structure Sm (e r i m t : Int) : Prop where
  pe : 0 ≤ e
  pr : 0 ≤ r
  pi : 0 ≤ i
  pm : 0 ≤ m
  pt : 0 ≤ t
  be : Builtin.Int.intBits e ≤ 5000
  br : Builtin.Int.intBits r ≤ 5000
  bi : Builtin.Int.intBits i ≤ 5000
  bm : Builtin.Int.intBits m ≤ 5000
  bt : Builtin.Int.intBits t ≤ 5000
theorem Sm.am {e r i m t : Int} (a : Sm e r i m t) : Am e r i m t := ⟨a.pe, a.pr, a.pi, a.pm, a.pt, by have := a.be; omega, by have := a.br; omega, by have := a.bi; omega, by have := a.bm; omega, by have := a.bt; omega⟩
theorem Sm.add {e r i m t e' r' i' m' t' : Int} (a : Sm e r i m t) (b : Sm e' r' i' m' t') : Am (e + e') (r + r') (i + i') (m + m') (t + t') :=
  ⟨Int.add_nonneg a.pe b.pe, Int.add_nonneg a.pr b.pr, Int.add_nonneg a.pi b.pi, Int.add_nonneg a.pm b.pm, Int.add_nonneg a.pt b.pt,
    by have := intBits_add_le a.be b.be; omega, by have := intBits_add_le a.br b.br; omega, by have := intBits_add_le a.bi b.bi; omega, by have := intBits_add_le a.bm b.bm; omega, by have := intBits_add_le a.bt b.bt; omega⟩
theorem Sm.scale {k e r i m t : Int} (a : Sm e r i m t) (hk : 0 < k) (hb : Builtin.Int.intBits k ≤ 1000) : Am (k * e) (k * r) (k * i) (k * m) (k * t) :=
  have k0 : 0 ≤ k := by omega
  ⟨Int.mul_nonneg k0 a.pe, Int.mul_nonneg k0 a.pr, Int.mul_nonneg k0 a.pi, Int.mul_nonneg k0 a.pm, Int.mul_nonneg k0 a.pt,
    by have := intBits_mul_le hb a.be; omega, by have := intBits_mul_le hb a.br; omega, by have := intBits_mul_le hb a.bi; omega, by have := intBits_mul_le hb a.bm; omega, by have := intBits_mul_le hb a.bt; omega⟩
theorem sum_bits {α : Type} {g : α → Int} {B : Nat} : ∀ {l : List α}, (∀ x ∈ l, Builtin.Int.intBits (g x) ≤ B) → Builtin.Int.intBits ((l.map g).sum) ≤ B + l.length
  | [], _ => by simp [Builtin.Int.intBits]
  | x :: l, h => by
    have h1 := h x List.mem_cons_self
    have h2 := sum_bits (fun y hy => h y (List.mem_cons_of_mem _ hy))
    have := intBits_add_le h1 h2
    simp only [List.map_cons, List.sum_cons, List.length_cons]
    omega
theorem mx_bits {α : Type} {g : α → Int} {B : Nat} {l : List α} (h : ∀ x ∈ l, Builtin.Int.intBits (g x) ≤ B) : Builtin.Int.intBits (maxI (0 :: l.map g)) ≤ B := by
  rcases List.mem_cons.mp (mx0 (l := l.map g)).1 with e | m
  · rw [e]; exact Nat.zero_le _
  · obtain ⟨x, hx, e⟩ := List.mem_map.mp m
    rw [← e]; exact h x hx
theorem smP {l : List Rn} (h : okR l) (hb : BP l) (hl : l.length ≤ 1000) : Sm (sE l) (sR l) (mI l) (max (mA l) (mB l)) (mA l + mB l) := by
  have a0 : 0 ≤ mA l := mx_nn
  have b0 : 0 ≤ mB l := mx_nn
  have i0 : 0 ≤ mI l := mx_nn
  have e0 : 0 ≤ sE l := sum_nn fun x hx => Int.mul_nonneg (by have := h x hx; omega) (by have := h x hx; omega)
  have r0 : 0 ≤ sR l := sum_nn fun x hx => Int.mul_nonneg (by have := h x hx; omega) (by have := h x hx; omega)
  have ba : Builtin.Int.intBits (mA l) ≤ 2000 := mx_bits fun x hx => (hb x hx).2.1
  have bb : Builtin.Int.intBits (mB l) ≤ 2000 := mx_bits fun x hx => (hb x hx).2.2
  have bi : Builtin.Int.intBits (mI l) ≤ 2001 := mx_bits fun x hx => by
    have := intBits_add_le (hb x hx).2.1 (hb x hx).2.2
    show Builtin.Int.intBits (x.2.1 + x.2.2) ≤ _
    omega
  have be : Builtin.Int.intBits (sE l) ≤ 2200 + l.length := sum_bits fun x hx => by
    have := intBits_mul_le (hb x hx).1 (intBits_add_le (hb x hx).2.1 (hb x hx).2.2)
    show Builtin.Int.intBits (x.1 * (x.2.1 + x.2.2)) ≤ _
    omega
  have br : Builtin.Int.intBits (sR l) ≤ 2200 + l.length := sum_bits fun x hx => by
    have := intBits_mul_le (hb x hx).1 (bmax (hb x hx).2.1 (hb x hx).2.2)
    show Builtin.Int.intBits (x.1 * max x.2.1 x.2.2) ≤ _
    omega
  exact ⟨e0, r0, i0, by omega, by omega, by omega, by omega, by omega, by have := bmax ba bb; omega, by have := intBits_add_le ba bb; omega⟩
abbrev okN (l : List (Int × Int)) : Prop := ∀ r ∈ l, 1 ≤ r.1 ∧ 0 ≤ r.2
theorem smN {l : List (Int × Int)} (h : okN l) (hb : BN l) (hl : l.length ≤ 1000) : Sm (sN l) (sN l) (mN l) (mN l) (mN l) := by
  have m0 : 0 ≤ mN l := mx_nn
  have s0 : 0 ≤ sN l := by
    unfold sN
    clear hb hl m0
    induction l with
    | nil => simp
    | cons x l ih =>
      have h1 := h x List.mem_cons_self
      have h2 := ih fun y hy => h y (List.mem_cons_of_mem _ hy)
      have := Int.mul_nonneg (show 0 ≤ x.1 by omega) h1.2
      simp only [List.map_cons, List.sum_cons]; omega
  have bm : Builtin.Int.intBits (mN l) ≤ 2000 := mx_bits fun x hx => (hb x hx).2
  have bs : Builtin.Int.intBits (sN l) ≤ 2200 + l.length := sum_bits fun x hx => by
    have := intBits_mul_le (hb x hx).1 (hb x hx).2
    omega
  exact ⟨s0, s0, m0, m0, m0, by omega, by omega, by omega, by omega, by omega⟩
theorem nat_of {l : List (Int × Int)} (h : okN l) : mN l ≤ sN l ∧ (mN l = 0 → sN l = 0) := by
  have key : ∀ l : List (Int × Int), okN l → (∀ x ∈ l, x.2 ≤ sN l) ∧ ((∀ x ∈ l, x.2 = 0) → sN l = 0) ∧ 0 ≤ sN l := by
    intro l
    induction l with
    | nil => intro _; exact ⟨by simp, fun _ => rfl, by simp [sN]⟩
    | cons x l ih =>
      intro h
      have h1 := h x List.mem_cons_self
      obtain ⟨i1, i2, i3⟩ := ih fun y hy => h y (List.mem_cons_of_mem _ hy)
      have e : sN (x :: l) = x.1 * x.2 + sN l := by simp [sN]
      have := le_mul h1.1 h1.2
      rw [e]
      refine ⟨fun y hy => ?_, fun hz => ?_, by omega⟩
      · rcases List.mem_cons.mp hy with rfl | hy
        · omega
        · have := i1 y hy; omega
      · have hz1 := hz x List.mem_cons_self
        rw [i2 fun y hy => hz y (List.mem_cons_of_mem _ hy), hz1]
        simp
  obtain ⟨k1, k2, k3⟩ := key l h
  refine ⟨?_, fun hm => k2 fun x hx => ?_⟩
  · unfold mN
    rcases List.mem_cons.mp (mx0 (l := l.map fun r => r.2)).1 with e | m
    · rw [e]; exact k3
    · obtain ⟨x, hx, e⟩ := List.mem_map.mp m
      rw [← e]; exact k1 x hx
  · have h1 : x.2 ≤ mN l := mx0.2 _ (List.mem_cons_of_mem _ (List.mem_map.mpr ⟨x, hx, rfl⟩))
    have h2 := h x hx
    omega
section
variable {A : Ad} {mu : Mu}
/-! is_added -/
theorem any_str {k : Str} : ∀ l : List Str, ((l.map D.str).any fun z => deq z (.str k)) = decide (k ∈ l)
  | [] => rfl
  | x :: l => by
    rw [List.map_cons, List.any_cons, any_str l]
    show (decide (x = k) || decide (k ∈ l)) = _
    rw [Bool.eq_iff_iff]
    simp only [Bool.or_eq_true, decide_eq_true_eq, List.mem_cons]
    constructor
    · rintro (h | h)
      · exact .inl h.symm
      · exact .inr h
    · rintro (h | h)
      · exact .inl h.symm
      · exact .inr h
theorem gIn_str {k : Str} {l : List Str} (hk : PyData.strOk k = true) (hl : okD 60 (.lst (l.map D.str)) = true) : gIn false mu (.str k) (.lst (l.map D.str)) = some (.bl (decide (k ∈ l)), mu) := by
  unfold gIn
  rw [view_lst, view_str]
  have h1 : okD 60 (D.str k) = true := hk
  simp only [h1, hl, and_self, if_true, any_str]
  rfl
theorem gNotIn_str {k : Str} {l : List Str} (hk : PyData.strOk k = true) (hl : okD 60 (.lst (l.map D.str)) = true) : gIn true mu (.str k) (.lst (l.map D.str)) = some (.bl (!decide (k ∈ l)), mu) := by
  unfold gIn
  rw [view_lst, view_str]
  have h1 : okD 60 (D.str k) = true := hk
  simp only [h1, hl, and_self, if_true, any_str]
theorem e_added {n : Int} {e r i m t e' r' i' m' t' : Int} {L L' L'' : List Str} (h1 : d_kinds A [.int n, five e r i m t] mu = .ok (.lst (L.map D.str)) mu) (h2 : d_kinds A [.int n, five e' r' i' m' t'] mu = .ok (.lst (L'.map D.str)) mu)
    (h3 : d_kinds A [.int n, five (e + e') (r + r') (i + i') (m + m') (t + t')] mu = .ok (.lst (L''.map D.str)) mu) (o : ∀ x ∈ L, PyData.strOk x = true) (o' : ∀ x ∈ L', PyData.strOk x = true) (o'' : ∀ x ∈ L'', PyData.strOk x = true) (sub : ∀ x ∈ L, x ∈ L' → x ∈ L'') (hl : L.length ≤ 10) :
    d__law_is_added A [five e r i m t, five e' r' i' m' t', .int n] mu = .ok (.bl true) mu := by
  refine denF_rt (env0 := [some (five e r i m t), some (five e' r' i' m' t'), some (.int n), none, none, none, none, none]) rfl ?_
  have q1 : q__law_is_added_1 A [some (five e r i m t), some (five e' r' i' m' t'), some (.int n), none, none, none, none, none] mu = .ok (.lst [.int (e + e'), .int (r + r'), .int (i + i'), .int (m + m'), .int (t + t')]) mu := by
    unfold q__law_is_added_1
    rw [mLc_map (enc := fun p : Int × Int => .tup [.int p.1, .int p.2]) (f := fun p => .int (p.1 + p.2)) [(e, e'), (r, r'), (i, i'), (m, m'), (t, t')] ?_ ?_ (by simp)]
    · rfl
    · (repeat' (first | (with_reducible assumption) | (with_reducible apply mVar_ok) | (with_reducible apply mC_ok) | (with_reducible apply mOp_ok) | (with_reducible apply mTest_ok) | (with_reducible apply mCons_ok) | (with_reducible apply mNil_ok) | (with_reducible apply mCall_ok) | (with_reducible apply mCallF_ok) | (with_reducible apply mSeq_eq) | (with_reducible apply seqNx) | (with_reducible apply seqRt) | (with_reducible apply mSkip_ok) | (with_reducible apply mRet_ok) | (with_reducible apply mRetN_ok) | (with_reducible apply mExpr_ok) | (with_reducible apply mAsg_ok) | (with_reducible apply mGName_ok) | (with_reducible apply mIfS_ok) | (with_reducible apply mTAnd_ok) | (with_reducible apply mTOr_ok) | (with_reducible apply mTNot_ok) | (with_reducible apply mAnd_ok) | (with_reducible apply mOr_ok) | (with_reducible apply mNot_ok) | (with_reducible apply mIf_ok) | (with_reducible apply mChain_ok) | (with_reducible apply bindO_ok) | (with_reducible apply mTup_ok) | (with_reducible apply mLst_ok) | (with_reducible apply mLst_okC) | (with_reducible apply mUn_ok) | (with_reducible apply mMet_ok) | (with_reducible apply mMetC_ok) | (with_reducible apply mGTup_ok) | (with_reducible apply mGCons_ok) | (with_reducible apply mGNil_ok) | (with_reducible apply mPar_ok) | (with_reducible apply mPar3_ok) | (with_reducible apply mSet_ok) | (with_reducible apply mSeqI_ok) | (with_reducible apply mRange1_ok) | (with_reducible apply mZip_ok) | (with_reducible apply mFrz_ok) | (with_reducible apply mFor_ok) | (with_reducible apply mCallV_ok) | (with_reducible apply gAddL) | (with_reducible apply gSumL) | (with_reducible apply gMax0) | (with_reducible apply gMax2) | (with_reducible apply gMaxP) | (with_reducible apply gAllL) | (with_reducible apply gTupL) | (with_reducible apply gTupT) | (with_reducible apply gListT) | (with_reducible apply gLenT) | (with_reducible apply gIsiT) | (with_reducible apply gIsNT) | (with_reducible apply gEqL0) | (with_reducible apply gNeL0) | (with_reducible apply gMul_ok) | (with_reducible apply gAdd_ok) | (with_reducible apply gSub_ok) | (with_reducible apply gEqI) | (with_reducible apply gNeI) | (with_reducible apply gLt_ok) | (with_reducible apply gLe_ok) | (with_reducible apply gGt_ok) | (with_reducible apply gGe_ok) | (with_reducible apply gInt_ok) | (with_reducible apply mulB_ok) | (with_reducible apply lim_ok) | ((with_reducible apply ite_t); (first | assumption | (exact decide_eq_true (by omega)) | (exact decide_eq_false (by omega)) | (simp only [Bool.not_eq_true', Bool.not_eq_false', Bool.not_not, decide_eq_false_iff_not, decide_eq_true_eq, Bool.false_eq_true, if_true, if_false, Bool.not_false, Bool.not_true, reduceIte]; omega) | exact rfl)) | ((with_reducible apply ite_f); (first | assumption | (exact decide_eq_true (by omega)) | (exact decide_eq_false (by omega)) | (simp only [Bool.not_eq_true', Bool.not_eq_false', Bool.not_not, decide_eq_false_iff_not, decide_eq_true_eq, Bool.false_eq_true, if_true, if_false, Bool.not_false, Bool.not_true, reduceIte]; omega) | exact rfl)) | (simp only [List.set_cons_succ, List.set_cons_zero, wipeD]; exact rfl) | (simp only [List.length_cons, List.length_nil, List.length_map, List.length_append]; omega) | (exact rfl) | (omega)))
    · intro p hp
      refine ⟨[some (five e r i m t), some (five e' r' i' m' t'), some (.int n), none, some (.int p.1), some (.int p.2), none, none], ?_, rfl, ?_⟩
      · (repeat' (first | (with_reducible assumption) | (with_reducible apply mVar_ok) | (with_reducible apply mC_ok) | (with_reducible apply mOp_ok) | (with_reducible apply mTest_ok) | (with_reducible apply mCons_ok) | (with_reducible apply mNil_ok) | (with_reducible apply mCall_ok) | (with_reducible apply mCallF_ok) | (with_reducible apply mSeq_eq) | (with_reducible apply seqNx) | (with_reducible apply seqRt) | (with_reducible apply mSkip_ok) | (with_reducible apply mRet_ok) | (with_reducible apply mRetN_ok) | (with_reducible apply mExpr_ok) | (with_reducible apply mAsg_ok) | (with_reducible apply mGName_ok) | (with_reducible apply mIfS_ok) | (with_reducible apply mTAnd_ok) | (with_reducible apply mTOr_ok) | (with_reducible apply mTNot_ok) | (with_reducible apply mAnd_ok) | (with_reducible apply mOr_ok) | (with_reducible apply mNot_ok) | (with_reducible apply mIf_ok) | (with_reducible apply mChain_ok) | (with_reducible apply bindO_ok) | (with_reducible apply mTup_ok) | (with_reducible apply mLst_ok) | (with_reducible apply mLst_okC) | (with_reducible apply mUn_ok) | (with_reducible apply mMet_ok) | (with_reducible apply mMetC_ok) | (with_reducible apply mGTup_ok) | (with_reducible apply mGCons_ok) | (with_reducible apply mGNil_ok) | (with_reducible apply mPar_ok) | (with_reducible apply mPar3_ok) | (with_reducible apply mSet_ok) | (with_reducible apply mSeqI_ok) | (with_reducible apply mRange1_ok) | (with_reducible apply mZip_ok) | (with_reducible apply mFrz_ok) | (with_reducible apply mFor_ok) | (with_reducible apply mCallV_ok) | (with_reducible apply gAddL) | (with_reducible apply gSumL) | (with_reducible apply gMax0) | (with_reducible apply gMax2) | (with_reducible apply gMaxP) | (with_reducible apply gAllL) | (with_reducible apply gTupL) | (with_reducible apply gTupT) | (with_reducible apply gListT) | (with_reducible apply gLenT) | (with_reducible apply gIsiT) | (with_reducible apply gIsNT) | (with_reducible apply gEqL0) | (with_reducible apply gNeL0) | (with_reducible apply gMul_ok) | (with_reducible apply gAdd_ok) | (with_reducible apply gSub_ok) | (with_reducible apply gEqI) | (with_reducible apply gNeI) | (with_reducible apply gLt_ok) | (with_reducible apply gLe_ok) | (with_reducible apply gGt_ok) | (with_reducible apply gGe_ok) | (with_reducible apply gInt_ok) | (with_reducible apply mulB_ok) | (with_reducible apply lim_ok) | ((with_reducible apply ite_t); (first | assumption | (exact decide_eq_true (by omega)) | (exact decide_eq_false (by omega)) | (simp only [Bool.not_eq_true', Bool.not_eq_false', Bool.not_not, decide_eq_false_iff_not, decide_eq_true_eq, Bool.false_eq_true, if_true, if_false, Bool.not_false, Bool.not_true, reduceIte]; omega) | exact rfl)) | ((with_reducible apply ite_f); (first | assumption | (exact decide_eq_true (by omega)) | (exact decide_eq_false (by omega)) | (simp only [Bool.not_eq_true', Bool.not_eq_false', Bool.not_not, decide_eq_false_iff_not, decide_eq_true_eq, Bool.false_eq_true, if_true, if_false, Bool.not_false, Bool.not_true, reduceIte]; omega) | exact rfl)) | (simp only [List.set_cons_succ, List.set_cons_zero, wipeD]; exact rfl) | (simp only [List.length_cons, List.length_nil, List.length_map, List.length_append]; omega) | (exact rfl) | (omega)))
      · (repeat' (first | (with_reducible assumption) | (with_reducible apply mVar_ok) | (with_reducible apply mC_ok) | (with_reducible apply mOp_ok) | (with_reducible apply mTest_ok) | (with_reducible apply mCons_ok) | (with_reducible apply mNil_ok) | (with_reducible apply mCall_ok) | (with_reducible apply mCallF_ok) | (with_reducible apply mSeq_eq) | (with_reducible apply seqNx) | (with_reducible apply seqRt) | (with_reducible apply mSkip_ok) | (with_reducible apply mRet_ok) | (with_reducible apply mRetN_ok) | (with_reducible apply mExpr_ok) | (with_reducible apply mAsg_ok) | (with_reducible apply mGName_ok) | (with_reducible apply mIfS_ok) | (with_reducible apply mTAnd_ok) | (with_reducible apply mTOr_ok) | (with_reducible apply mTNot_ok) | (with_reducible apply mAnd_ok) | (with_reducible apply mOr_ok) | (with_reducible apply mNot_ok) | (with_reducible apply mIf_ok) | (with_reducible apply mChain_ok) | (with_reducible apply bindO_ok) | (with_reducible apply mTup_ok) | (with_reducible apply mLst_ok) | (with_reducible apply mLst_okC) | (with_reducible apply mUn_ok) | (with_reducible apply mMet_ok) | (with_reducible apply mMetC_ok) | (with_reducible apply mGTup_ok) | (with_reducible apply mGCons_ok) | (with_reducible apply mGNil_ok) | (with_reducible apply mPar_ok) | (with_reducible apply mPar3_ok) | (with_reducible apply mSet_ok) | (with_reducible apply mSeqI_ok) | (with_reducible apply mRange1_ok) | (with_reducible apply mZip_ok) | (with_reducible apply mFrz_ok) | (with_reducible apply mFor_ok) | (with_reducible apply mCallV_ok) | (with_reducible apply gAddL) | (with_reducible apply gSumL) | (with_reducible apply gMax0) | (with_reducible apply gMax2) | (with_reducible apply gMaxP) | (with_reducible apply gAllL) | (with_reducible apply gTupL) | (with_reducible apply gTupT) | (with_reducible apply gListT) | (with_reducible apply gLenT) | (with_reducible apply gIsiT) | (with_reducible apply gIsNT) | (with_reducible apply gEqL0) | (with_reducible apply gNeL0) | (with_reducible apply gMul_ok) | (with_reducible apply gAdd_ok) | (with_reducible apply gSub_ok) | (with_reducible apply gEqI) | (with_reducible apply gNeI) | (with_reducible apply gLt_ok) | (with_reducible apply gLe_ok) | (with_reducible apply gGt_ok) | (with_reducible apply gGe_ok) | (with_reducible apply gInt_ok) | (with_reducible apply mulB_ok) | (with_reducible apply lim_ok) | ((with_reducible apply ite_t); (first | assumption | (exact decide_eq_true (by omega)) | (exact decide_eq_false (by omega)) | (simp only [Bool.not_eq_true', Bool.not_eq_false', Bool.not_not, decide_eq_false_iff_not, decide_eq_true_eq, Bool.false_eq_true, if_true, if_false, Bool.not_false, Bool.not_true, reduceIte]; omega) | exact rfl)) | ((with_reducible apply ite_f); (first | assumption | (exact decide_eq_true (by omega)) | (exact decide_eq_false (by omega)) | (simp only [Bool.not_eq_true', Bool.not_eq_false', Bool.not_not, decide_eq_false_iff_not, decide_eq_true_eq, Bool.false_eq_true, if_true, if_false, Bool.not_false, Bool.not_true, reduceIte]; omega) | exact rfl)) | (simp only [List.set_cons_succ, List.set_cons_zero, wipeD]; exact rfl) | (simp only [List.length_cons, List.length_nil, List.length_map, List.length_append]; omega) | (exact rfl) | (omega)))
  let F := five (e + e') (r + r') (i + i') (m + m') (t + t')
  have q2 : q__law_is_added_2 A [some (five e r i m t), some (five e' r' i' m' t'), some (.int n), some F, none, none, none, none] mu = .ok (.lst ((L.filter fun k => decide (k ∈ L')).map D.str)) mu := by
    unfold q__law_is_added_2
    refine mLc_filter (enc := D.str) (p := fun k => decide (k ∈ L')) (f := D.str) L ?_ ?_ (by omega)
    · (repeat' (first | (with_reducible assumption) | (with_reducible apply mVar_ok) | (with_reducible apply mC_ok) | (with_reducible apply mOp_ok) | (with_reducible apply mTest_ok) | (with_reducible apply mCons_ok) | (with_reducible apply mNil_ok) | (with_reducible apply mCall_ok) | (with_reducible apply mCallF_ok) | (with_reducible apply mSeq_eq) | (with_reducible apply seqNx) | (with_reducible apply seqRt) | (with_reducible apply mSkip_ok) | (with_reducible apply mRet_ok) | (with_reducible apply mRetN_ok) | (with_reducible apply mExpr_ok) | (with_reducible apply mAsg_ok) | (with_reducible apply mGName_ok) | (with_reducible apply mIfS_ok) | (with_reducible apply mTAnd_ok) | (with_reducible apply mTOr_ok) | (with_reducible apply mTNot_ok) | (with_reducible apply mAnd_ok) | (with_reducible apply mOr_ok) | (with_reducible apply mNot_ok) | (with_reducible apply mIf_ok) | (with_reducible apply mChain_ok) | (with_reducible apply bindO_ok) | (with_reducible apply mTup_ok) | (with_reducible apply mLst_ok) | (with_reducible apply mLst_okC) | (with_reducible apply mUn_ok) | (with_reducible apply mMet_ok) | (with_reducible apply mMetC_ok) | (with_reducible apply mGTup_ok) | (with_reducible apply mGCons_ok) | (with_reducible apply mGNil_ok) | (with_reducible apply mPar_ok) | (with_reducible apply mPar3_ok) | (with_reducible apply mSet_ok) | (with_reducible apply mSeqI_ok) | (with_reducible apply mRange1_ok) | (with_reducible apply mZip_ok) | (with_reducible apply mFrz_ok) | (with_reducible apply mFor_ok) | (with_reducible apply mCallV_ok) | (with_reducible apply gAddL) | (with_reducible apply gSumL) | (with_reducible apply gMax0) | (with_reducible apply gMax2) | (with_reducible apply gMaxP) | (with_reducible apply gAllL) | (with_reducible apply gTupL) | (with_reducible apply gTupT) | (with_reducible apply gListT) | (with_reducible apply gLenT) | (with_reducible apply gIsiT) | (with_reducible apply gIsNT) | (with_reducible apply gEqL0) | (with_reducible apply gNeL0) | (with_reducible apply gMul_ok) | (with_reducible apply gAdd_ok) | (with_reducible apply gSub_ok) | (with_reducible apply gEqI) | (with_reducible apply gNeI) | (with_reducible apply gLt_ok) | (with_reducible apply gLe_ok) | (with_reducible apply gGt_ok) | (with_reducible apply gGe_ok) | (with_reducible apply gInt_ok) | (with_reducible apply mulB_ok) | (with_reducible apply lim_ok) | ((with_reducible apply ite_t); (first | assumption | (exact decide_eq_true (by omega)) | (exact decide_eq_false (by omega)) | (simp only [Bool.not_eq_true', Bool.not_eq_false', Bool.not_not, decide_eq_false_iff_not, decide_eq_true_eq, Bool.false_eq_true, if_true, if_false, Bool.not_false, Bool.not_true, reduceIte]; omega) | exact rfl)) | ((with_reducible apply ite_f); (first | assumption | (exact decide_eq_true (by omega)) | (exact decide_eq_false (by omega)) | (simp only [Bool.not_eq_true', Bool.not_eq_false', Bool.not_not, decide_eq_false_iff_not, decide_eq_true_eq, Bool.false_eq_true, if_true, if_false, Bool.not_false, Bool.not_true, reduceIte]; omega) | exact rfl)) | (simp only [List.set_cons_succ, List.set_cons_zero, wipeD]; exact rfl) | (simp only [List.length_cons, List.length_nil, List.length_map, List.length_append]; omega) | (exact rfl) | (omega)))
    · intro k hk
      have g := gIn_str (mu := mu) (o k hk) (okStrs _ o')
      refine ⟨[some (five e r i m t), some (five e' r' i' m' t'), some (.int n), some F, none, none, none, some (.str k)], ?_, ?_, fun _ => ?_⟩
      · (repeat' (first | (with_reducible assumption) | (with_reducible apply mVar_ok) | (with_reducible apply mC_ok) | (with_reducible apply mOp_ok) | (with_reducible apply mTest_ok) | (with_reducible apply mCons_ok) | (with_reducible apply mNil_ok) | (with_reducible apply mCall_ok) | (with_reducible apply mCallF_ok) | (with_reducible apply mSeq_eq) | (with_reducible apply seqNx) | (with_reducible apply seqRt) | (with_reducible apply mSkip_ok) | (with_reducible apply mRet_ok) | (with_reducible apply mRetN_ok) | (with_reducible apply mExpr_ok) | (with_reducible apply mAsg_ok) | (with_reducible apply mGName_ok) | (with_reducible apply mIfS_ok) | (with_reducible apply mTAnd_ok) | (with_reducible apply mTOr_ok) | (with_reducible apply mTNot_ok) | (with_reducible apply mAnd_ok) | (with_reducible apply mOr_ok) | (with_reducible apply mNot_ok) | (with_reducible apply mIf_ok) | (with_reducible apply mChain_ok) | (with_reducible apply bindO_ok) | (with_reducible apply mTup_ok) | (with_reducible apply mLst_ok) | (with_reducible apply mLst_okC) | (with_reducible apply mUn_ok) | (with_reducible apply mMet_ok) | (with_reducible apply mMetC_ok) | (with_reducible apply mGTup_ok) | (with_reducible apply mGCons_ok) | (with_reducible apply mGNil_ok) | (with_reducible apply mPar_ok) | (with_reducible apply mPar3_ok) | (with_reducible apply mSet_ok) | (with_reducible apply mSeqI_ok) | (with_reducible apply mRange1_ok) | (with_reducible apply mZip_ok) | (with_reducible apply mFrz_ok) | (with_reducible apply mFor_ok) | (with_reducible apply mCallV_ok) | (with_reducible apply gAddL) | (with_reducible apply gSumL) | (with_reducible apply gMax0) | (with_reducible apply gMax2) | (with_reducible apply gMaxP) | (with_reducible apply gAllL) | (with_reducible apply gTupL) | (with_reducible apply gTupT) | (with_reducible apply gListT) | (with_reducible apply gLenT) | (with_reducible apply gIsiT) | (with_reducible apply gIsNT) | (with_reducible apply gEqL0) | (with_reducible apply gNeL0) | (with_reducible apply gMul_ok) | (with_reducible apply gAdd_ok) | (with_reducible apply gSub_ok) | (with_reducible apply gEqI) | (with_reducible apply gNeI) | (with_reducible apply gLt_ok) | (with_reducible apply gLe_ok) | (with_reducible apply gGt_ok) | (with_reducible apply gGe_ok) | (with_reducible apply gInt_ok) | (with_reducible apply mulB_ok) | (with_reducible apply lim_ok) | ((with_reducible apply ite_t); (first | assumption | (exact decide_eq_true (by omega)) | (exact decide_eq_false (by omega)) | (simp only [Bool.not_eq_true', Bool.not_eq_false', Bool.not_not, decide_eq_false_iff_not, decide_eq_true_eq, Bool.false_eq_true, if_true, if_false, Bool.not_false, Bool.not_true, reduceIte]; omega) | exact rfl)) | ((with_reducible apply ite_f); (first | assumption | (exact decide_eq_true (by omega)) | (exact decide_eq_false (by omega)) | (simp only [Bool.not_eq_true', Bool.not_eq_false', Bool.not_not, decide_eq_false_iff_not, decide_eq_true_eq, Bool.false_eq_true, if_true, if_false, Bool.not_false, Bool.not_true, reduceIte]; omega) | exact rfl)) | (simp only [List.set_cons_succ, List.set_cons_zero, wipeD]; exact rfl) | (simp only [List.length_cons, List.length_nil, List.length_map, List.length_append]; omega) | (exact rfl) | (omega)))
      · (repeat' (first | (with_reducible assumption) | (with_reducible apply mVar_ok) | (with_reducible apply mC_ok) | (with_reducible apply mOp_ok) | (with_reducible apply mTest_ok) | (with_reducible apply mCons_ok) | (with_reducible apply mNil_ok) | (with_reducible apply mCall_ok) | (with_reducible apply mCallF_ok) | (with_reducible apply mSeq_eq) | (with_reducible apply seqNx) | (with_reducible apply seqRt) | (with_reducible apply mSkip_ok) | (with_reducible apply mRet_ok) | (with_reducible apply mRetN_ok) | (with_reducible apply mExpr_ok) | (with_reducible apply mAsg_ok) | (with_reducible apply mGName_ok) | (with_reducible apply mIfS_ok) | (with_reducible apply mTAnd_ok) | (with_reducible apply mTOr_ok) | (with_reducible apply mTNot_ok) | (with_reducible apply mAnd_ok) | (with_reducible apply mOr_ok) | (with_reducible apply mNot_ok) | (with_reducible apply mIf_ok) | (with_reducible apply mChain_ok) | (with_reducible apply bindO_ok) | (with_reducible apply mTup_ok) | (with_reducible apply mLst_ok) | (with_reducible apply mLst_okC) | (with_reducible apply mUn_ok) | (with_reducible apply mMet_ok) | (with_reducible apply mMetC_ok) | (with_reducible apply mGTup_ok) | (with_reducible apply mGCons_ok) | (with_reducible apply mGNil_ok) | (with_reducible apply mPar_ok) | (with_reducible apply mPar3_ok) | (with_reducible apply mSet_ok) | (with_reducible apply mSeqI_ok) | (with_reducible apply mRange1_ok) | (with_reducible apply mZip_ok) | (with_reducible apply mFrz_ok) | (with_reducible apply mFor_ok) | (with_reducible apply mCallV_ok) | (with_reducible apply gAddL) | (with_reducible apply gSumL) | (with_reducible apply gMax0) | (with_reducible apply gMax2) | (with_reducible apply gMaxP) | (with_reducible apply gAllL) | (with_reducible apply gTupL) | (with_reducible apply gTupT) | (with_reducible apply gListT) | (with_reducible apply gLenT) | (with_reducible apply gIsiT) | (with_reducible apply gIsNT) | (with_reducible apply gEqL0) | (with_reducible apply gNeL0) | (with_reducible apply gMul_ok) | (with_reducible apply gAdd_ok) | (with_reducible apply gSub_ok) | (with_reducible apply gEqI) | (with_reducible apply gNeI) | (with_reducible apply gLt_ok) | (with_reducible apply gLe_ok) | (with_reducible apply gGt_ok) | (with_reducible apply gGe_ok) | (with_reducible apply gInt_ok) | (with_reducible apply mulB_ok) | (with_reducible apply lim_ok) | ((with_reducible apply ite_t); (first | assumption | (exact decide_eq_true (by omega)) | (exact decide_eq_false (by omega)) | (simp only [Bool.not_eq_true', Bool.not_eq_false', Bool.not_not, decide_eq_false_iff_not, decide_eq_true_eq, Bool.false_eq_true, if_true, if_false, Bool.not_false, Bool.not_true, reduceIte]; omega) | exact rfl)) | ((with_reducible apply ite_f); (first | assumption | (exact decide_eq_true (by omega)) | (exact decide_eq_false (by omega)) | (simp only [Bool.not_eq_true', Bool.not_eq_false', Bool.not_not, decide_eq_false_iff_not, decide_eq_true_eq, Bool.false_eq_true, if_true, if_false, Bool.not_false, Bool.not_true, reduceIte]; omega) | exact rfl)) | (simp only [List.set_cons_succ, List.set_cons_zero, wipeD]; exact rfl) | (simp only [List.length_cons, List.length_nil, List.length_map, List.length_append]; omega) | (exact rfl) | (omega)))
      · (repeat' (first | (with_reducible assumption) | (with_reducible apply mVar_ok) | (with_reducible apply mC_ok) | (with_reducible apply mOp_ok) | (with_reducible apply mTest_ok) | (with_reducible apply mCons_ok) | (with_reducible apply mNil_ok) | (with_reducible apply mCall_ok) | (with_reducible apply mCallF_ok) | (with_reducible apply mSeq_eq) | (with_reducible apply seqNx) | (with_reducible apply seqRt) | (with_reducible apply mSkip_ok) | (with_reducible apply mRet_ok) | (with_reducible apply mRetN_ok) | (with_reducible apply mExpr_ok) | (with_reducible apply mAsg_ok) | (with_reducible apply mGName_ok) | (with_reducible apply mIfS_ok) | (with_reducible apply mTAnd_ok) | (with_reducible apply mTOr_ok) | (with_reducible apply mTNot_ok) | (with_reducible apply mAnd_ok) | (with_reducible apply mOr_ok) | (with_reducible apply mNot_ok) | (with_reducible apply mIf_ok) | (with_reducible apply mChain_ok) | (with_reducible apply bindO_ok) | (with_reducible apply mTup_ok) | (with_reducible apply mLst_ok) | (with_reducible apply mLst_okC) | (with_reducible apply mUn_ok) | (with_reducible apply mMet_ok) | (with_reducible apply mMetC_ok) | (with_reducible apply mGTup_ok) | (with_reducible apply mGCons_ok) | (with_reducible apply mGNil_ok) | (with_reducible apply mPar_ok) | (with_reducible apply mPar3_ok) | (with_reducible apply mSet_ok) | (with_reducible apply mSeqI_ok) | (with_reducible apply mRange1_ok) | (with_reducible apply mZip_ok) | (with_reducible apply mFrz_ok) | (with_reducible apply mFor_ok) | (with_reducible apply mCallV_ok) | (with_reducible apply gAddL) | (with_reducible apply gSumL) | (with_reducible apply gMax0) | (with_reducible apply gMax2) | (with_reducible apply gMaxP) | (with_reducible apply gAllL) | (with_reducible apply gTupL) | (with_reducible apply gTupT) | (with_reducible apply gListT) | (with_reducible apply gLenT) | (with_reducible apply gIsiT) | (with_reducible apply gIsNT) | (with_reducible apply gEqL0) | (with_reducible apply gNeL0) | (with_reducible apply gMul_ok) | (with_reducible apply gAdd_ok) | (with_reducible apply gSub_ok) | (with_reducible apply gEqI) | (with_reducible apply gNeI) | (with_reducible apply gLt_ok) | (with_reducible apply gLe_ok) | (with_reducible apply gGt_ok) | (with_reducible apply gGe_ok) | (with_reducible apply gInt_ok) | (with_reducible apply mulB_ok) | (with_reducible apply lim_ok) | ((with_reducible apply ite_t); (first | assumption | (exact decide_eq_true (by omega)) | (exact decide_eq_false (by omega)) | (simp only [Bool.not_eq_true', Bool.not_eq_false', Bool.not_not, decide_eq_false_iff_not, decide_eq_true_eq, Bool.false_eq_true, if_true, if_false, Bool.not_false, Bool.not_true, reduceIte]; omega) | exact rfl)) | ((with_reducible apply ite_f); (first | assumption | (exact decide_eq_true (by omega)) | (exact decide_eq_false (by omega)) | (simp only [Bool.not_eq_true', Bool.not_eq_false', Bool.not_not, decide_eq_false_iff_not, decide_eq_true_eq, Bool.false_eq_true, if_true, if_false, Bool.not_false, Bool.not_true, reduceIte]; omega) | exact rfl)) | (simp only [List.set_cons_succ, List.set_cons_zero, wipeD]; exact rfl) | (simp only [List.length_cons, List.length_nil, List.length_map, List.length_append]; omega) | (exact rfl) | (omega)))
  let S := L.filter fun k => decide (k ∈ L')
  have hS : ∀ x ∈ S, x ∈ L ∧ x ∈ L' := fun x hx => by
    have := List.mem_filter.mp hx
    exact ⟨this.1, of_decide_eq_true this.2⟩
  have q3 : q__law_is_added_3 A [some (five e r i m t), some (five e' r' i' m' t'), some (.int n), some F, none, none, some (.lst (S.map D.str)), none] mu = .ok (.lst []) mu := by
    unfold q__law_is_added_3
    rw [mLc_filter (enc := D.str) (p := fun k => !decide (k ∈ L'')) (f := D.str) S ?_ ?_ (Nat.le_trans (List.length_filter_le _ _) (by omega))]
    · have : (S.filter fun k => !decide (k ∈ L'')) = [] := List.filter_eq_nil_iff.mpr fun x hx => by
        have := sub x (hS x hx).1 (hS x hx).2
        simp [this]
      rw [this]; rfl
    · (repeat' (first | (with_reducible assumption) | (with_reducible apply mVar_ok) | (with_reducible apply mC_ok) | (with_reducible apply mOp_ok) | (with_reducible apply mTest_ok) | (with_reducible apply mCons_ok) | (with_reducible apply mNil_ok) | (with_reducible apply mCall_ok) | (with_reducible apply mCallF_ok) | (with_reducible apply mSeq_eq) | (with_reducible apply seqNx) | (with_reducible apply seqRt) | (with_reducible apply mSkip_ok) | (with_reducible apply mRet_ok) | (with_reducible apply mRetN_ok) | (with_reducible apply mExpr_ok) | (with_reducible apply mAsg_ok) | (with_reducible apply mGName_ok) | (with_reducible apply mIfS_ok) | (with_reducible apply mTAnd_ok) | (with_reducible apply mTOr_ok) | (with_reducible apply mTNot_ok) | (with_reducible apply mAnd_ok) | (with_reducible apply mOr_ok) | (with_reducible apply mNot_ok) | (with_reducible apply mIf_ok) | (with_reducible apply mChain_ok) | (with_reducible apply bindO_ok) | (with_reducible apply mTup_ok) | (with_reducible apply mLst_ok) | (with_reducible apply mLst_okC) | (with_reducible apply mUn_ok) | (with_reducible apply mMet_ok) | (with_reducible apply mMetC_ok) | (with_reducible apply mGTup_ok) | (with_reducible apply mGCons_ok) | (with_reducible apply mGNil_ok) | (with_reducible apply mPar_ok) | (with_reducible apply mPar3_ok) | (with_reducible apply mSet_ok) | (with_reducible apply mSeqI_ok) | (with_reducible apply mRange1_ok) | (with_reducible apply mZip_ok) | (with_reducible apply mFrz_ok) | (with_reducible apply mFor_ok) | (with_reducible apply mCallV_ok) | (with_reducible apply gAddL) | (with_reducible apply gSumL) | (with_reducible apply gMax0) | (with_reducible apply gMax2) | (with_reducible apply gMaxP) | (with_reducible apply gAllL) | (with_reducible apply gTupL) | (with_reducible apply gTupT) | (with_reducible apply gListT) | (with_reducible apply gLenT) | (with_reducible apply gIsiT) | (with_reducible apply gIsNT) | (with_reducible apply gEqL0) | (with_reducible apply gNeL0) | (with_reducible apply gMul_ok) | (with_reducible apply gAdd_ok) | (with_reducible apply gSub_ok) | (with_reducible apply gEqI) | (with_reducible apply gNeI) | (with_reducible apply gLt_ok) | (with_reducible apply gLe_ok) | (with_reducible apply gGt_ok) | (with_reducible apply gGe_ok) | (with_reducible apply gInt_ok) | (with_reducible apply mulB_ok) | (with_reducible apply lim_ok) | ((with_reducible apply ite_t); (first | assumption | (exact decide_eq_true (by omega)) | (exact decide_eq_false (by omega)) | (simp only [Bool.not_eq_true', Bool.not_eq_false', Bool.not_not, decide_eq_false_iff_not, decide_eq_true_eq, Bool.false_eq_true, if_true, if_false, Bool.not_false, Bool.not_true, reduceIte]; omega) | exact rfl)) | ((with_reducible apply ite_f); (first | assumption | (exact decide_eq_true (by omega)) | (exact decide_eq_false (by omega)) | (simp only [Bool.not_eq_true', Bool.not_eq_false', Bool.not_not, decide_eq_false_iff_not, decide_eq_true_eq, Bool.false_eq_true, if_true, if_false, Bool.not_false, Bool.not_true, reduceIte]; omega) | exact rfl)) | (simp only [List.set_cons_succ, List.set_cons_zero, wipeD]; exact rfl) | (simp only [List.length_cons, List.length_nil, List.length_map, List.length_append]; omega) | (exact rfl) | (omega)))
    · intro k hk
      have g := gNotIn_str (mu := mu) (o k (hS k hk).1) (okStrs _ o'')
      refine ⟨[some (five e r i m t), some (five e' r' i' m' t'), some (.int n), some F, none, none, some (.lst (S.map D.str)), some (.str k)], ?_, ?_, fun _ => ?_⟩
      · (repeat' (first | (with_reducible assumption) | (with_reducible apply mVar_ok) | (with_reducible apply mC_ok) | (with_reducible apply mOp_ok) | (with_reducible apply mTest_ok) | (with_reducible apply mCons_ok) | (with_reducible apply mNil_ok) | (with_reducible apply mCall_ok) | (with_reducible apply mCallF_ok) | (with_reducible apply mSeq_eq) | (with_reducible apply seqNx) | (with_reducible apply seqRt) | (with_reducible apply mSkip_ok) | (with_reducible apply mRet_ok) | (with_reducible apply mRetN_ok) | (with_reducible apply mExpr_ok) | (with_reducible apply mAsg_ok) | (with_reducible apply mGName_ok) | (with_reducible apply mIfS_ok) | (with_reducible apply mTAnd_ok) | (with_reducible apply mTOr_ok) | (with_reducible apply mTNot_ok) | (with_reducible apply mAnd_ok) | (with_reducible apply mOr_ok) | (with_reducible apply mNot_ok) | (with_reducible apply mIf_ok) | (with_reducible apply mChain_ok) | (with_reducible apply bindO_ok) | (with_reducible apply mTup_ok) | (with_reducible apply mLst_ok) | (with_reducible apply mLst_okC) | (with_reducible apply mUn_ok) | (with_reducible apply mMet_ok) | (with_reducible apply mMetC_ok) | (with_reducible apply mGTup_ok) | (with_reducible apply mGCons_ok) | (with_reducible apply mGNil_ok) | (with_reducible apply mPar_ok) | (with_reducible apply mPar3_ok) | (with_reducible apply mSet_ok) | (with_reducible apply mSeqI_ok) | (with_reducible apply mRange1_ok) | (with_reducible apply mZip_ok) | (with_reducible apply mFrz_ok) | (with_reducible apply mFor_ok) | (with_reducible apply mCallV_ok) | (with_reducible apply gAddL) | (with_reducible apply gSumL) | (with_reducible apply gMax0) | (with_reducible apply gMax2) | (with_reducible apply gMaxP) | (with_reducible apply gAllL) | (with_reducible apply gTupL) | (with_reducible apply gTupT) | (with_reducible apply gListT) | (with_reducible apply gLenT) | (with_reducible apply gIsiT) | (with_reducible apply gIsNT) | (with_reducible apply gEqL0) | (with_reducible apply gNeL0) | (with_reducible apply gMul_ok) | (with_reducible apply gAdd_ok) | (with_reducible apply gSub_ok) | (with_reducible apply gEqI) | (with_reducible apply gNeI) | (with_reducible apply gLt_ok) | (with_reducible apply gLe_ok) | (with_reducible apply gGt_ok) | (with_reducible apply gGe_ok) | (with_reducible apply gInt_ok) | (with_reducible apply mulB_ok) | (with_reducible apply lim_ok) | ((with_reducible apply ite_t); (first | assumption | (exact decide_eq_true (by omega)) | (exact decide_eq_false (by omega)) | (simp only [Bool.not_eq_true', Bool.not_eq_false', Bool.not_not, decide_eq_false_iff_not, decide_eq_true_eq, Bool.false_eq_true, if_true, if_false, Bool.not_false, Bool.not_true, reduceIte]; omega) | exact rfl)) | ((with_reducible apply ite_f); (first | assumption | (exact decide_eq_true (by omega)) | (exact decide_eq_false (by omega)) | (simp only [Bool.not_eq_true', Bool.not_eq_false', Bool.not_not, decide_eq_false_iff_not, decide_eq_true_eq, Bool.false_eq_true, if_true, if_false, Bool.not_false, Bool.not_true, reduceIte]; omega) | exact rfl)) | (simp only [List.set_cons_succ, List.set_cons_zero, wipeD]; exact rfl) | (simp only [List.length_cons, List.length_nil, List.length_map, List.length_append]; omega) | (exact rfl) | (omega)))
      · (repeat' (first | (with_reducible assumption) | (with_reducible apply mVar_ok) | (with_reducible apply mC_ok) | (with_reducible apply mOp_ok) | (with_reducible apply mTest_ok) | (with_reducible apply mCons_ok) | (with_reducible apply mNil_ok) | (with_reducible apply mCall_ok) | (with_reducible apply mCallF_ok) | (with_reducible apply mSeq_eq) | (with_reducible apply seqNx) | (with_reducible apply seqRt) | (with_reducible apply mSkip_ok) | (with_reducible apply mRet_ok) | (with_reducible apply mRetN_ok) | (with_reducible apply mExpr_ok) | (with_reducible apply mAsg_ok) | (with_reducible apply mGName_ok) | (with_reducible apply mIfS_ok) | (with_reducible apply mTAnd_ok) | (with_reducible apply mTOr_ok) | (with_reducible apply mTNot_ok) | (with_reducible apply mAnd_ok) | (with_reducible apply mOr_ok) | (with_reducible apply mNot_ok) | (with_reducible apply mIf_ok) | (with_reducible apply mChain_ok) | (with_reducible apply bindO_ok) | (with_reducible apply mTup_ok) | (with_reducible apply mLst_ok) | (with_reducible apply mLst_okC) | (with_reducible apply mUn_ok) | (with_reducible apply mMet_ok) | (with_reducible apply mMetC_ok) | (with_reducible apply mGTup_ok) | (with_reducible apply mGCons_ok) | (with_reducible apply mGNil_ok) | (with_reducible apply mPar_ok) | (with_reducible apply mPar3_ok) | (with_reducible apply mSet_ok) | (with_reducible apply mSeqI_ok) | (with_reducible apply mRange1_ok) | (with_reducible apply mZip_ok) | (with_reducible apply mFrz_ok) | (with_reducible apply mFor_ok) | (with_reducible apply mCallV_ok) | (with_reducible apply gAddL) | (with_reducible apply gSumL) | (with_reducible apply gMax0) | (with_reducible apply gMax2) | (with_reducible apply gMaxP) | (with_reducible apply gAllL) | (with_reducible apply gTupL) | (with_reducible apply gTupT) | (with_reducible apply gListT) | (with_reducible apply gLenT) | (with_reducible apply gIsiT) | (with_reducible apply gIsNT) | (with_reducible apply gEqL0) | (with_reducible apply gNeL0) | (with_reducible apply gMul_ok) | (with_reducible apply gAdd_ok) | (with_reducible apply gSub_ok) | (with_reducible apply gEqI) | (with_reducible apply gNeI) | (with_reducible apply gLt_ok) | (with_reducible apply gLe_ok) | (with_reducible apply gGt_ok) | (with_reducible apply gGe_ok) | (with_reducible apply gInt_ok) | (with_reducible apply mulB_ok) | (with_reducible apply lim_ok) | ((with_reducible apply ite_t); (first | assumption | (exact decide_eq_true (by omega)) | (exact decide_eq_false (by omega)) | (simp only [Bool.not_eq_true', Bool.not_eq_false', Bool.not_not, decide_eq_false_iff_not, decide_eq_true_eq, Bool.false_eq_true, if_true, if_false, Bool.not_false, Bool.not_true, reduceIte]; omega) | exact rfl)) | ((with_reducible apply ite_f); (first | assumption | (exact decide_eq_true (by omega)) | (exact decide_eq_false (by omega)) | (simp only [Bool.not_eq_true', Bool.not_eq_false', Bool.not_not, decide_eq_false_iff_not, decide_eq_true_eq, Bool.false_eq_true, if_true, if_false, Bool.not_false, Bool.not_true, reduceIte]; omega) | exact rfl)) | (simp only [List.set_cons_succ, List.set_cons_zero, wipeD]; exact rfl) | (simp only [List.length_cons, List.length_nil, List.length_map, List.length_append]; omega) | (exact rfl) | (omega)))
      · (repeat' (first | (with_reducible assumption) | (with_reducible apply mVar_ok) | (with_reducible apply mC_ok) | (with_reducible apply mOp_ok) | (with_reducible apply mTest_ok) | (with_reducible apply mCons_ok) | (with_reducible apply mNil_ok) | (with_reducible apply mCall_ok) | (with_reducible apply mCallF_ok) | (with_reducible apply mSeq_eq) | (with_reducible apply seqNx) | (with_reducible apply seqRt) | (with_reducible apply mSkip_ok) | (with_reducible apply mRet_ok) | (with_reducible apply mRetN_ok) | (with_reducible apply mExpr_ok) | (with_reducible apply mAsg_ok) | (with_reducible apply mGName_ok) | (with_reducible apply mIfS_ok) | (with_reducible apply mTAnd_ok) | (with_reducible apply mTOr_ok) | (with_reducible apply mTNot_ok) | (with_reducible apply mAnd_ok) | (with_reducible apply mOr_ok) | (with_reducible apply mNot_ok) | (with_reducible apply mIf_ok) | (with_reducible apply mChain_ok) | (with_reducible apply bindO_ok) | (with_reducible apply mTup_ok) | (with_reducible apply mLst_ok) | (with_reducible apply mLst_okC) | (with_reducible apply mUn_ok) | (with_reducible apply mMet_ok) | (with_reducible apply mMetC_ok) | (with_reducible apply mGTup_ok) | (with_reducible apply mGCons_ok) | (with_reducible apply mGNil_ok) | (with_reducible apply mPar_ok) | (with_reducible apply mPar3_ok) | (with_reducible apply mSet_ok) | (with_reducible apply mSeqI_ok) | (with_reducible apply mRange1_ok) | (with_reducible apply mZip_ok) | (with_reducible apply mFrz_ok) | (with_reducible apply mFor_ok) | (with_reducible apply mCallV_ok) | (with_reducible apply gAddL) | (with_reducible apply gSumL) | (with_reducible apply gMax0) | (with_reducible apply gMax2) | (with_reducible apply gMaxP) | (with_reducible apply gAllL) | (with_reducible apply gTupL) | (with_reducible apply gTupT) | (with_reducible apply gListT) | (with_reducible apply gLenT) | (with_reducible apply gIsiT) | (with_reducible apply gIsNT) | (with_reducible apply gEqL0) | (with_reducible apply gNeL0) | (with_reducible apply gMul_ok) | (with_reducible apply gAdd_ok) | (with_reducible apply gSub_ok) | (with_reducible apply gEqI) | (with_reducible apply gNeI) | (with_reducible apply gLt_ok) | (with_reducible apply gLe_ok) | (with_reducible apply gGt_ok) | (with_reducible apply gGe_ok) | (with_reducible apply gInt_ok) | (with_reducible apply mulB_ok) | (with_reducible apply lim_ok) | ((with_reducible apply ite_t); (first | assumption | (exact decide_eq_true (by omega)) | (exact decide_eq_false (by omega)) | (simp only [Bool.not_eq_true', Bool.not_eq_false', Bool.not_not, decide_eq_false_iff_not, decide_eq_true_eq, Bool.false_eq_true, if_true, if_false, Bool.not_false, Bool.not_true, reduceIte]; omega) | exact rfl)) | ((with_reducible apply ite_f); (first | assumption | (exact decide_eq_true (by omega)) | (exact decide_eq_false (by omega)) | (simp only [Bool.not_eq_true', Bool.not_eq_false', Bool.not_not, decide_eq_false_iff_not, decide_eq_true_eq, Bool.false_eq_true, if_true, if_false, Bool.not_false, Bool.not_true, reduceIte]; omega) | exact rfl)) | (simp only [List.set_cons_succ, List.set_cons_zero, wipeD]; exact rfl) | (simp only [List.length_cons, List.length_nil, List.length_map, List.length_append]; omega) | (exact rfl) | (omega)))
  have fin : gEq false mu (.lst []) (.lst []) = some (.bl true, mu) := by rw [gEqL0 rfl]; rfl
  unfold m__law_is_added
  (repeat' (first | (with_reducible assumption) | (with_reducible exact q1) | (with_reducible exact q2) | (with_reducible exact q3) | (with_reducible apply mVar_ok) | (with_reducible apply mC_ok) | (with_reducible apply mOp_ok) | (with_reducible apply mTest_ok) | (with_reducible apply mCons_ok) | (with_reducible apply mNil_ok) | (with_reducible apply mCall_ok) | (with_reducible apply mCallF_ok) | (with_reducible apply mSeq_eq) | (with_reducible apply seqNx) | (with_reducible apply seqRt) | (with_reducible apply mSkip_ok) | (with_reducible apply mRet_ok) | (with_reducible apply mRetN_ok) | (with_reducible apply mExpr_ok) | (with_reducible apply mAsg_ok) | (with_reducible apply mGName_ok) | (with_reducible apply mIfS_ok) | (with_reducible apply mTAnd_ok) | (with_reducible apply mTOr_ok) | (with_reducible apply mTNot_ok) | (with_reducible apply mAnd_ok) | (with_reducible apply mOr_ok) | (with_reducible apply mNot_ok) | (with_reducible apply mIf_ok) | (with_reducible apply mChain_ok) | (with_reducible apply bindO_ok) | (with_reducible apply mTup_ok) | (with_reducible apply mLst_ok) | (with_reducible apply mLst_okC) | (with_reducible apply mUn_ok) | (with_reducible apply mMet_ok) | (with_reducible apply mMetC_ok) | (with_reducible apply mGTup_ok) | (with_reducible apply mGCons_ok) | (with_reducible apply mGNil_ok) | (with_reducible apply mPar_ok) | (with_reducible apply mPar3_ok) | (with_reducible apply mSet_ok) | (with_reducible apply mSeqI_ok) | (with_reducible apply mRange1_ok) | (with_reducible apply mZip_ok) | (with_reducible apply mFrz_ok) | (with_reducible apply mFor_ok) | (with_reducible apply mCallV_ok) | (with_reducible apply gAddL) | (with_reducible apply gSumL) | (with_reducible apply gMax0) | (with_reducible apply gMax2) | (with_reducible apply gMaxP) | (with_reducible apply gAllL) | (with_reducible apply gTupL) | (with_reducible apply gTupT) | (with_reducible apply gListT) | (with_reducible apply gLenT) | (with_reducible apply gIsiT) | (with_reducible apply gIsNT) | (with_reducible apply gEqL0) | (with_reducible apply gNeL0) | (with_reducible apply gMul_ok) | (with_reducible apply gAdd_ok) | (with_reducible apply gSub_ok) | (with_reducible apply gEqI) | (with_reducible apply gNeI) | (with_reducible apply gLt_ok) | (with_reducible apply gLe_ok) | (with_reducible apply gGt_ok) | (with_reducible apply gGe_ok) | (with_reducible apply gInt_ok) | (with_reducible apply mulB_ok) | (with_reducible apply lim_ok) | ((with_reducible apply ite_t); (first | assumption | (exact decide_eq_true (by omega)) | (exact decide_eq_false (by omega)) | (simp only [Bool.not_eq_true', Bool.not_eq_false', Bool.not_not, decide_eq_false_iff_not, decide_eq_true_eq, Bool.false_eq_true, if_true, if_false, Bool.not_false, Bool.not_true, reduceIte]; omega) | exact rfl)) | ((with_reducible apply ite_f); (first | assumption | (exact decide_eq_true (by omega)) | (exact decide_eq_false (by omega)) | (simp only [Bool.not_eq_true', Bool.not_eq_false', Bool.not_not, decide_eq_false_iff_not, decide_eq_true_eq, Bool.false_eq_true, if_true, if_false, Bool.not_false, Bool.not_true, reduceIte]; omega) | exact rfl)) | (simp only [List.set_cons_succ, List.set_cons_zero, wipeD]; exact rfl) | (simp only [List.length_cons, List.length_nil, List.length_map, List.length_append]; omega) | (exact rfl) | (omega)))
/-! some_runs -/
theorem gPowC {i : Int} {j : Nat} {n : Nat} (h : Builtin.Int.intBits i ≤ n) (hn : n * j ≤ 2 ^ 27) : gPow mu (.int i) (.int j) = some (.int (i ^ j), mu) := gPow_ok (by
  have : Builtin.Int.intBits i * j ≤ n * j := Nat.mul_le_mul_right j h
  omega)
theorem p10_25 : gPow mu (.int 10) (.int 25) = some (.int (10 ^ 25), mu) := gPowC (j := 25) (n := 31) (bits31 (by omega) (by omega)) (by decide)
theorem p10_60 : gPow mu (.int 10) (.int 60) = some (.int (10 ^ 60), mu) := gPowC (j := 60) (n := 31) (bits31 (by omega) (by omega)) (by decide)
theorem p10_300 : gPow mu (.int (10 ^ 60)) (.int 5) = some (.int ((10 ^ 60) ^ 5), mu) := gPowC (j := 5) (n := 1000) (bits_of (by decide +kernel)) (by decide)
theorem p10_20 : gPow mu (.int 10) (.int 20) = some (.int (10 ^ 20), mu) := gPowC (j := 20) (n := 31) (bits31 (by omega) (by omega)) (by decide)
def TopOk (x : Int) : Prop := 0 < x ∧ x.natAbs < 2 ^ 1000
theorem TopOk.log {x : Int} (h : TopOk x) : x.natAbs.log2 < 9000 := Nat.lt_of_lt_of_le ((Nat.log2_lt (by have := h.1; omega)).mpr h.2) (by omega)
theorem _root_.DL.Draw.app {n : Nat} {mu : Mu} {c : List Cell} (h : Draw n mu) : Draw n (mu ++ c) := by
  obtain ⟨a, b, x, y, h0, h1, h2⟩ := h.ex
  refine ⟨a, b, x, y, ?_, ?_, h2⟩
  · rw [List.getElem?_append_left (List.getElem?_eq_some_iff.mp h0).1]; exact h0
  · rw [List.getElem?_append_left (List.getElem?_eq_some_iff.mp h1).1]; exact h1
theorem _root_.DL.Draw.len {n : Nat} {mu : Mu} (h : Draw n mu) : 2 ≤ mu.length := by
  obtain ⟨a, b, x, y, h0, h1, h2⟩ := h.ex
  have := (List.getElem?_eq_some_iff.mp h1).1
  omega
theorem _root_.DL.Draw.put {n k : Nat} {mu : Mu} {c : Cell} (h : Draw n mu) (hk : 2 ≤ k) : Draw n (mu.set k c) := by
  obtain ⟨a, b, x, y, h0, h1, h2⟩ := h.ex
  exact ⟨a, b, x, y, by rw [List.getElem?_set_ne (by omega)]; exact h0, by rw [List.getElem?_set_ne (by omega)]; exact h1, h2⟩
theorem top_ok {n : Nat} (h : Draw n mu) (hn : n ≤ 800000000) (w : D) (x2 x3 x4 x5 : Option D) : ∃ (top : Int) (mu' : Mu), TopOk top ∧ Draw (n + 2) mu' ∧ Fr (mu ++ [.lst []]) mu' ∧
    (mCons (mLst true mNil) (mCons (mCallF 2 (d__law_pick A) (mCons (mVar 0) (mCons (mLst false (mCons (mC (.int 2)) (mCons (mC (.int 3)) (mCons (mC (.int 5)) (mCons (mC (.int 10)) (mCons (mOp gPow (mC (.int 10)) (mC (.int 25))) (mCons (mC (.int 2)) (mCons (mC (.int 3)) (mCons (mC (.int 5)) (mCons (mC (.int 10)) (mCons (mCallF 2 (d__law_pick A) (mCons (mVar 0) (mCons (mLst false (mCons (mC (.int 10)) (mCons (mOp gPow (mOp gPow (mC (.int 10)) (mC (.int 60))) (mC (.int 5))) mNil))) mNil))) mNil))))))))))) mNil))) mNil)) [some (.cell 1), some w, x2, x3, x4, x5] mu = .ok [.cell mu.length, .int top] mu' := by
  have h0 : Draw n (mu ++ [.lst []]) := h.app
  obtain ⟨d, mu1, hd, e1, h1, f1⟩ := pick_ok (ds := [.int 10, .int ((10 ^ 60) ^ 5)]) h0 (by omega) (by simp) (by simp)
  obtain ⟨t1, rfl, o1⟩ : ∃ t1, d = .int t1 ∧ TopOk t1 := by
    simp only [List.mem_cons, List.not_mem_nil, or_false] at hd
    rcases hd with rfl | rfl
    · exact ⟨_, rfl, by decide, by decide +kernel⟩
    · exact ⟨_, rfl, by decide +kernel, by decide +kernel⟩
  obtain ⟨d, mu2, hd, e2, h2, f2⟩ := pick_ok (ds := [.int 2, .int 3, .int 5, .int 10, .int (10 ^ 25), .int 2, .int 3, .int 5, .int 10, .int t1]) h1 (by omega) (by simp) (by simp)
  obtain ⟨t2, rfl, o2⟩ : ∃ t2, d = .int t2 ∧ TopOk t2 := by
    simp only [List.mem_cons, List.not_mem_nil, or_false] at hd
    rcases hd with rfl | rfl | rfl | rfl | rfl | rfl | rfl | rfl | rfl | rfl
    all_goals first | exact ⟨_, rfl, by decide +kernel, by decide +kernel⟩ | exact ⟨_, rfl, o1⟩
  refine ⟨t2, mu2, o2, h2, f1.trans f2, ?_⟩
  rw [e_pick]
  (repeat' (first | (with_reducible assumption) | (with_reducible exact e1) | (with_reducible exact e2) | (with_reducible exact p10_25) | (with_reducible exact p10_60) | (with_reducible exact p10_300) | (with_reducible apply mVar_ok) | (with_reducible apply mC_ok) | (with_reducible apply mOp_ok) | (with_reducible apply mTest_ok) | (with_reducible apply mCons_ok) | (with_reducible apply mNil_ok) | (with_reducible apply mCall_ok) | (with_reducible apply mCallF_ok) | (with_reducible apply mSeq_eq) | (with_reducible apply seqNx) | (with_reducible apply seqRt) | (with_reducible apply mSkip_ok) | (with_reducible apply mRet_ok) | (with_reducible apply mRetN_ok) | (with_reducible apply mExpr_ok) | (with_reducible apply mAsg_ok) | (with_reducible apply mGName_ok) | (with_reducible apply mIfS_ok) | (with_reducible apply mTAnd_ok) | (with_reducible apply mTOr_ok) | (with_reducible apply mTNot_ok) | (with_reducible apply mAnd_ok) | (with_reducible apply mOr_ok) | (with_reducible apply mNot_ok) | (with_reducible apply mIf_ok) | (with_reducible apply mChain_ok) | (with_reducible apply bindO_ok) | (with_reducible apply mTup_ok) | (with_reducible apply mLst_ok) | (with_reducible apply mLst_okC) | (with_reducible apply mUn_ok) | (with_reducible apply mMet_ok) | (with_reducible apply mMetC_ok) | (with_reducible apply mGTup_ok) | (with_reducible apply mGCons_ok) | (with_reducible apply mGNil_ok) | (with_reducible apply mPar_ok) | (with_reducible apply mPar3_ok) | (with_reducible apply mSet_ok) | (with_reducible apply mSeqI_ok) | (with_reducible apply mRange1_ok) | (with_reducible apply mZip_ok) | (with_reducible apply mFrz_ok) | (with_reducible apply mFor_ok) | (with_reducible apply mCallV_ok) | (with_reducible apply gAddL) | (with_reducible apply gSumL) | (with_reducible apply gMax0) | (with_reducible apply gMax2) | (with_reducible apply gMaxP) | (with_reducible apply gAllL) | (with_reducible apply gTupL) | (with_reducible apply gTupT) | (with_reducible apply gListT) | (with_reducible apply gLenT) | (with_reducible apply gIsiT) | (with_reducible apply gIsNT) | (with_reducible apply gEqL0) | (with_reducible apply gNeL0) | (with_reducible apply gMul_ok) | (with_reducible apply gAdd_ok) | (with_reducible apply gSub_ok) | (with_reducible apply gEqI) | (with_reducible apply gNeI) | (with_reducible apply gLt_ok) | (with_reducible apply gLe_ok) | (with_reducible apply gGt_ok) | (with_reducible apply gGe_ok) | (with_reducible apply gInt_ok) | (with_reducible apply mulB_ok) | (with_reducible apply lim_ok) | ((with_reducible apply ite_t); (first | assumption | (exact decide_eq_true (by omega)) | (exact decide_eq_false (by omega)) | (simp only [Bool.not_eq_true', Bool.not_eq_false', Bool.not_not, decide_eq_false_iff_not, decide_eq_true_eq, Bool.false_eq_true, if_true, if_false, Bool.not_false, Bool.not_true, reduceIte]; omega) | exact rfl)) | ((with_reducible apply ite_f); (first | assumption | (exact decide_eq_true (by omega)) | (exact decide_eq_false (by omega)) | (simp only [Bool.not_eq_true', Bool.not_eq_false', Bool.not_not, decide_eq_false_iff_not, decide_eq_true_eq, Bool.false_eq_true, if_true, if_false, Bool.not_false, Bool.not_true, reduceIte]; omega) | exact rfl)) | (simp only [List.set_cons_succ, List.set_cons_zero, wipeD]; exact rfl) | (simp only [List.length_cons, List.length_nil, List.length_map, List.length_append]; omega) | (exact rfl) | (omega)))
end
end K22

namespace K22
open PySem L2 DL
section
variable {A : Ad} {mu : Mu}
theorem bits_take {r m : Int} {n : Nat} (h0 : 0 ≤ r) (h1 : r < m) (hm : m.natAbs < 2 ^ n) : Builtin.Int.intBits r ≤ n := bits_of (Nat.lt_of_le_of_lt (by omega) hm)
/-- the number of times that a run has -/
theorem count_ok {n : Nat} (h : Draw n mu) (hn : n ≤ 800000000) (x1 x2 x3 x4 x5 : Option D) : ∃ (c : Int) (mu' : Mu), 1 ≤ c ∧ Builtin.Int.intBits c ≤ 100 ∧ Draw (n + 2) mu' ∧ Fr mu mu' ∧
    mOp (gAdd false) (mC (.int 1)) (mCallF 2 (d__law_take A) (mCons (mVar 0) (mCons (mCallF 2 (d__law_pick A) (mCons (mVar 0) (mCons (mLst false (mCons (mC (.int 1)) (mCons (mC (.int 1)) (mCons (mC (.int 3)) (mCons (mOp gPow (mC (.int 10)) (mC (.int 20))) mNil))))) mNil))) mNil))) [some (.cell 1), x1, x2, x3, x4, x5] mu = .ok (.int c) mu' := by
  obtain ⟨d, mu1, hd, e1, h1, f1⟩ := pick_ok (ds := [.int 1, .int 1, .int 3, .int (10 ^ 20)]) h (by omega) (by simp) (by simp)
  obtain ⟨t1, rfl, o1, o2⟩ : ∃ t1, d = .int t1 ∧ 0 < t1 ∧ t1.natAbs < 2 ^ 70 := by
    simp only [List.mem_cons, List.not_mem_nil, or_false] at hd
    rcases hd with rfl | rfl | rfl | rfl
    all_goals exact ⟨_, rfl, by decide +kernel, by decide +kernel⟩
  obtain ⟨r, mu2, e2, r0, r1, h2, f2⟩ := take_ok (many := t1) h1 (by omega) o1 (Nat.lt_of_lt_of_le ((Nat.log2_lt (by omega)).mpr o2) (by omega))
  refine ⟨1 + r, mu2, by omega, ?_, h2, f1.trans f2, ?_⟩
  · have := intBits_add_le (show Builtin.Int.intBits 1 ≤ 1 by decide) (bits_take r0 r1 o2)
    omega
  · rw [e_pick, e_take]
    (repeat' (first | (with_reducible assumption) | (with_reducible exact e1) | (with_reducible exact e2) | (with_reducible exact p10_20) | (with_reducible apply mVar_ok) | (with_reducible apply mC_ok) | (with_reducible apply mOp_ok) | (with_reducible apply mTest_ok) | (with_reducible apply mCons_ok) | (with_reducible apply mNil_ok) | (with_reducible apply mCall_ok) | (with_reducible apply mCallF_ok) | (with_reducible apply mSeq_eq) | (with_reducible apply seqNx) | (with_reducible apply seqRt) | (with_reducible apply mSkip_ok) | (with_reducible apply mRet_ok) | (with_reducible apply mRetN_ok) | (with_reducible apply mExpr_ok) | (with_reducible apply mAsg_ok) | (with_reducible apply mGName_ok) | (with_reducible apply mIfS_ok) | (with_reducible apply mTAnd_ok) | (with_reducible apply mTOr_ok) | (with_reducible apply mTNot_ok) | (with_reducible apply mAnd_ok) | (with_reducible apply mOr_ok) | (with_reducible apply mNot_ok) | (with_reducible apply mIf_ok) | (with_reducible apply mChain_ok) | (with_reducible apply bindO_ok) | (with_reducible apply mTup_ok) | (with_reducible apply mLst_ok) | (with_reducible apply mLst_okC) | (with_reducible apply mUn_ok) | (with_reducible apply mMet_ok) | (with_reducible apply mMetC_ok) | (with_reducible apply mGTup_ok) | (with_reducible apply mGCons_ok) | (with_reducible apply mGNil_ok) | (with_reducible apply mPar_ok) | (with_reducible apply mPar3_ok) | (with_reducible apply mSet_ok) | (with_reducible apply mSeqI_ok) | (with_reducible apply mRange1_ok) | (with_reducible apply mZip_ok) | (with_reducible apply mFrz_ok) | (with_reducible apply mFor_ok) | (with_reducible apply mCallV_ok) | (with_reducible apply gAddL) | (with_reducible apply gSumL) | (with_reducible apply gMax0) | (with_reducible apply gMax2) | (with_reducible apply gMaxP) | (with_reducible apply gAllL) | (with_reducible apply gTupL) | (with_reducible apply gTupT) | (with_reducible apply gListT) | (with_reducible apply gLenT) | (with_reducible apply gIsiT) | (with_reducible apply gIsNT) | (with_reducible apply gEqL0) | (with_reducible apply gNeL0) | (with_reducible apply gMul_ok) | (with_reducible apply gAdd_ok) | (with_reducible apply gSub_ok) | (with_reducible apply gEqI) | (with_reducible apply gNeI) | (with_reducible apply gLt_ok) | (with_reducible apply gLe_ok) | (with_reducible apply gGt_ok) | (with_reducible apply gGe_ok) | (with_reducible apply gInt_ok) | (with_reducible apply mulB_ok) | (with_reducible apply lim_ok) | ((with_reducible apply ite_t); (first | assumption | (exact decide_eq_true (by omega)) | (exact decide_eq_false (by omega)) | (simp only [Bool.not_eq_true', Bool.not_eq_false', Bool.not_not, decide_eq_false_iff_not, decide_eq_true_eq, Bool.false_eq_true, if_true, if_false, Bool.not_false, Bool.not_true, reduceIte]; omega) | exact rfl)) | ((with_reducible apply ite_f); (first | assumption | (exact decide_eq_true (by omega)) | (exact decide_eq_false (by omega)) | (simp only [Bool.not_eq_true', Bool.not_eq_false', Bool.not_not, decide_eq_false_iff_not, decide_eq_true_eq, Bool.false_eq_true, if_true, if_false, Bool.not_false, Bool.not_true, reduceIte]; omega) | exact rfl)) | (simp only [List.set_cons_succ, List.set_cons_zero, wipeD]; exact rfl) | (simp only [List.length_cons, List.length_nil, List.length_map, List.length_append]; omega) | (exact rfl) | (omega)))
theorem cell_append {c : Nat} {l : List D} {x : D} (h : mu[c]? = some (.lst l)) (hl : l.length ≤ 1000) : gAppend mu (.cell c) [x] = some (.non, mu.set c (.lst (l ++ [x]))) := by
  unfold gAppend
  simp only [h, lim_ok (show l.length ≤ 1000000 by omega), if_true]
theorem cell_isLst {c : Nat} {l : List D} (h : mu[c]? = some (.lst l)) : isLst mu (.cell c) = true := by
  unfold isLst
  rw [view_cell, h]
theorem turnP {n c : Nat} {top : Int} {l : List Rn} {x4 x5 : Option D} (h : Draw n mu) (hn : n ≤ 799999000) (ht : TopOk top) (hc : 2 ≤ c) (hl : mu[c]? = some (.lst (l.map encP))) (len : l.length ≤ 100) (ho : okR l) (hb : BP l) :
    ∃ (r : Rn) (mu' : Mu), okR (l ++ [r]) ∧ BP (l ++ [r]) ∧ Draw (n + 4) mu' ∧ mu'[c]? = some (.lst ((l ++ [r]).map encP)) ∧
      b__law_some_runs_1 A [some (.cell 1), some (.bl true), some (.cell c), some (.int top), x4, x5] mu = .nx [some (.cell 1), some (.bl true), some (.cell c), some (.int top), x4, some (.tup [.int r.2.1, .int r.2.2])] mu' := by
  obtain ⟨a, mu1, e1, a0, a1, h1, f1⟩ := take_ok (many := top) h (by omega) ht.1 ht.log
  obtain ⟨b, mu2, e2, b0, b1, h2, f2⟩ := take_ok (many := top) h1 (by omega) ht.1 ht.log
  obtain ⟨k, mu3, k0, k1, h3, f3, e3⟩ := count_ok (A := A) h2 (by omega) (some (.bl true)) (some (.cell c)) (some (.int top)) x4 (some (.tup [.int a, .int b]))
  have hc3 : mu3[c]? = some (.lst (l.map encP)) := by rw [f3.at_ c hc, f2.at_ c hc, f1.at_ c hc]; exact hl
  have ap := cell_append (x := encP (k, a, b)) hc3 (by simp; omega)
  have il : ∀ m : Mu, m[c]? = some (.lst (l.map encP)) → isLst m (.cell c) = true := fun m hm => cell_isLst hm
  have il2 := il mu2 (by rw [f2.at_ c hc, f1.at_ c hc]; exact hl)
  have ba := bits_take a0 a1 ht.2
  have bb := bits_take b0 b1 ht.2
  refine ⟨(k, a, b), mu3.set c (.lst (l.map encP ++ [encP (k, a, b)])), fun r hr => ?_, fun r hr => ?_, h3.put hc, ?_, ?_⟩
  · rcases List.mem_append.mp hr with hr | hr
    · exact ho r hr
    · rw [List.mem_singleton.mp hr]; exact ⟨k0, a0, b0⟩
  · rcases List.mem_append.mp hr with hr | hr
    · exact hb r hr
    · rw [List.mem_singleton.mp hr]; exact ⟨k1, by show Builtin.Int.intBits a ≤ _; omega, by show Builtin.Int.intBits b ≤ _; omega⟩
  · rw [List.getElem?_set_self (List.getElem?_eq_some_iff.mp hc3).1, List.map_append]; rfl
  · unfold b__law_some_runs_1
    refine mSeq_eq (r1 := .nx [some (.cell 1), some (.bl true), some (.cell c), some (.int top), x4, some (.tup [.int a, .int b])] mu2) ?_ (seqNx ?_)
    · rw [e_take]
      (repeat' (first | (with_reducible assumption) | (with_reducible exact e1) | (with_reducible exact e2) | (with_reducible apply mVar_ok) | (with_reducible apply mC_ok) | (with_reducible apply mOp_ok) | (with_reducible apply mTest_ok) | (with_reducible apply mCons_ok) | (with_reducible apply mNil_ok) | (with_reducible apply mCall_ok) | (with_reducible apply mCallF_ok) | (with_reducible apply mSeq_eq) | (with_reducible apply seqNx) | (with_reducible apply seqRt) | (with_reducible apply mSkip_ok) | (with_reducible apply mRet_ok) | (with_reducible apply mRetN_ok) | (with_reducible apply mExpr_ok) | (with_reducible apply mAsg_ok) | (with_reducible apply mGName_ok) | (with_reducible apply mIfS_ok) | (with_reducible apply mTAnd_ok) | (with_reducible apply mTOr_ok) | (with_reducible apply mTNot_ok) | (with_reducible apply mAnd_ok) | (with_reducible apply mOr_ok) | (with_reducible apply mNot_ok) | (with_reducible apply mIf_ok) | (with_reducible apply mChain_ok) | (with_reducible apply bindO_ok) | (with_reducible apply mTup_ok) | (with_reducible apply mLst_ok) | (with_reducible apply mLst_okC) | (with_reducible apply mUn_ok) | (with_reducible apply mMet_ok) | (with_reducible apply mMetC_ok) | (with_reducible apply mGTup_ok) | (with_reducible apply mGCons_ok) | (with_reducible apply mGNil_ok) | (with_reducible apply mPar_ok) | (with_reducible apply mPar3_ok) | (with_reducible apply mSet_ok) | (with_reducible apply mSeqI_ok) | (with_reducible apply mRange1_ok) | (with_reducible apply mZip_ok) | (with_reducible apply mFrz_ok) | (with_reducible apply mFor_ok) | (with_reducible apply mCallV_ok) | (with_reducible apply gAddL) | (with_reducible apply gSumL) | (with_reducible apply gMax0) | (with_reducible apply gMax2) | (with_reducible apply gMaxP) | (with_reducible apply gAllL) | (with_reducible apply gTupL) | (with_reducible apply gTupT) | (with_reducible apply gListT) | (with_reducible apply gLenT) | (with_reducible apply gIsiT) | (with_reducible apply gIsNT) | (with_reducible apply gEqL0) | (with_reducible apply gNeL0) | (with_reducible apply gMul_ok) | (with_reducible apply gAdd_ok) | (with_reducible apply gSub_ok) | (with_reducible apply gEqI) | (with_reducible apply gNeI) | (with_reducible apply gLt_ok) | (with_reducible apply gLe_ok) | (with_reducible apply gGt_ok) | (with_reducible apply gGe_ok) | (with_reducible apply gInt_ok) | (with_reducible apply mulB_ok) | (with_reducible apply lim_ok) | ((with_reducible apply ite_t); (first | assumption | (exact decide_eq_true (by omega)) | (exact decide_eq_false (by omega)) | (simp only [Bool.not_eq_true', Bool.not_eq_false', Bool.not_not, decide_eq_false_iff_not, decide_eq_true_eq, Bool.false_eq_true, if_true, if_false, Bool.not_false, Bool.not_true, reduceIte]; omega) | exact rfl)) | ((with_reducible apply ite_f); (first | assumption | (exact decide_eq_true (by omega)) | (exact decide_eq_false (by omega)) | (simp only [Bool.not_eq_true', Bool.not_eq_false', Bool.not_not, decide_eq_false_iff_not, decide_eq_true_eq, Bool.false_eq_true, if_true, if_false, Bool.not_false, Bool.not_true, reduceIte]; omega) | exact rfl)) | (simp only [List.set_cons_succ, List.set_cons_zero, wipeD]; exact rfl) | (simp only [List.length_cons, List.length_nil, List.length_map, List.length_append]; omega) | (exact rfl) | (omega)))
    · (repeat' (first | (with_reducible assumption) | (with_reducible exact e3) | (with_reducible exact il2) | (with_reducible exact ap) | (with_reducible apply mVar_ok) | (with_reducible apply mC_ok) | (with_reducible apply mOp_ok) | (with_reducible apply mTest_ok) | (with_reducible apply mCons_ok) | (with_reducible apply mNil_ok) | (with_reducible apply mCall_ok) | (with_reducible apply mCallF_ok) | (with_reducible apply mSeq_eq) | (with_reducible apply seqNx) | (with_reducible apply seqRt) | (with_reducible apply mSkip_ok) | (with_reducible apply mRet_ok) | (with_reducible apply mRetN_ok) | (with_reducible apply mExpr_ok) | (with_reducible apply mAsg_ok) | (with_reducible apply mGName_ok) | (with_reducible apply mIfS_ok) | (with_reducible apply mTAnd_ok) | (with_reducible apply mTOr_ok) | (with_reducible apply mTNot_ok) | (with_reducible apply mAnd_ok) | (with_reducible apply mOr_ok) | (with_reducible apply mNot_ok) | (with_reducible apply mIf_ok) | (with_reducible apply mChain_ok) | (with_reducible apply bindO_ok) | (with_reducible apply mTup_ok) | (with_reducible apply mLst_ok) | (with_reducible apply mLst_okC) | (with_reducible apply mUn_ok) | (with_reducible apply mMet_ok) | (with_reducible apply mMetC_ok) | (with_reducible apply mGTup_ok) | (with_reducible apply mGCons_ok) | (with_reducible apply mGNil_ok) | (with_reducible apply mPar_ok) | (with_reducible apply mPar3_ok) | (with_reducible apply mSet_ok) | (with_reducible apply mSeqI_ok) | (with_reducible apply mRange1_ok) | (with_reducible apply mZip_ok) | (with_reducible apply mFrz_ok) | (with_reducible apply mFor_ok) | (with_reducible apply mCallV_ok) | (with_reducible apply gAddL) | (with_reducible apply gSumL) | (with_reducible apply gMax0) | (with_reducible apply gMax2) | (with_reducible apply gMaxP) | (with_reducible apply gAllL) | (with_reducible apply gTupL) | (with_reducible apply gTupT) | (with_reducible apply gListT) | (with_reducible apply gLenT) | (with_reducible apply gIsiT) | (with_reducible apply gIsNT) | (with_reducible apply gEqL0) | (with_reducible apply gNeL0) | (with_reducible apply gMul_ok) | (with_reducible apply gAdd_ok) | (with_reducible apply gSub_ok) | (with_reducible apply gEqI) | (with_reducible apply gNeI) | (with_reducible apply gLt_ok) | (with_reducible apply gLe_ok) | (with_reducible apply gGt_ok) | (with_reducible apply gGe_ok) | (with_reducible apply gInt_ok) | (with_reducible apply mulB_ok) | (with_reducible apply lim_ok) | ((with_reducible apply ite_t); (first | assumption | (exact decide_eq_true (by omega)) | (exact decide_eq_false (by omega)) | (simp only [Bool.not_eq_true', Bool.not_eq_false', Bool.not_not, decide_eq_false_iff_not, decide_eq_true_eq, Bool.false_eq_true, if_true, if_false, Bool.not_false, Bool.not_true, reduceIte]; omega) | exact rfl)) | ((with_reducible apply ite_f); (first | assumption | (exact decide_eq_true (by omega)) | (exact decide_eq_false (by omega)) | (simp only [Bool.not_eq_true', Bool.not_eq_false', Bool.not_not, decide_eq_false_iff_not, decide_eq_true_eq, Bool.false_eq_true, if_true, if_false, Bool.not_false, Bool.not_true, reduceIte]; omega) | exact rfl)) | (simp only [List.set_cons_succ, List.set_cons_zero, wipeD]; exact rfl) | (simp only [List.length_cons, List.length_nil, List.length_map, List.length_append]; omega) | (exact rfl) | (omega)))
theorem turnN {n c : Nat} {top : Int} {l : List (Int × Int)} {x4 x5 : Option D} (h : Draw n mu) (hn : n ≤ 799999000) (ht : TopOk top) (hc : 2 ≤ c) (hl : mu[c]? = some (.lst (l.map encN))) (len : l.length ≤ 100) (ho : okN l) (hb : BN l) :
    ∃ (r : Int × Int) (mu' : Mu), okN (l ++ [r]) ∧ BN (l ++ [r]) ∧ Draw (n + 4) mu' ∧ mu'[c]? = some (.lst ((l ++ [r]).map encN)) ∧
      b__law_some_runs_1 A [some (.cell 1), some (.bl false), some (.cell c), some (.int top), x4, x5] mu = .nx [some (.cell 1), some (.bl false), some (.cell c), some (.int top), x4, some (.int r.2)] mu' := by
  obtain ⟨a, mu1, e1, a0, a1, h1, f1⟩ := take_ok (many := top) h (by omega) ht.1 ht.log
  obtain ⟨k, mu3, k0, k1, h3, f3, e3⟩ := count_ok (A := A) h1 (by omega) (some (.bl false)) (some (.cell c)) (some (.int top)) x4 (some (.int a))
  have hc3 : mu3[c]? = some (.lst (l.map encN)) := by rw [f3.at_ c hc, f1.at_ c hc]; exact hl
  have ap := cell_append (x := encN (k, a)) hc3 (by simp; omega)
  have il2 : isLst mu1 (.cell c) = true := cell_isLst (l := l.map encN) (by rw [f1.at_ c hc]; exact hl)
  have ba := bits_take a0 a1 ht.2
  refine ⟨(k, a), mu3.set c (.lst (l.map encN ++ [encN (k, a)])), fun r hr => ?_, fun r hr => ?_, (h3.put hc).mono (by omega), ?_, ?_⟩
  · rcases List.mem_append.mp hr with hr | hr
    · exact ho r hr
    · rw [List.mem_singleton.mp hr]; exact ⟨k0, a0⟩
  · rcases List.mem_append.mp hr with hr | hr
    · exact hb r hr
    · rw [List.mem_singleton.mp hr]; exact ⟨k1, by show Builtin.Int.intBits a ≤ _; omega⟩
  · rw [List.getElem?_set_self (List.getElem?_eq_some_iff.mp hc3).1, List.map_append]; rfl
  · unfold b__law_some_runs_1
    refine mSeq_eq (r1 := .nx [some (.cell 1), some (.bl false), some (.cell c), some (.int top), x4, some (.int a)] mu1) ?_ (seqNx ?_)
    · rw [e_take]
      (repeat' (first | (with_reducible assumption) | (with_reducible exact e1) | (with_reducible apply mVar_ok) | (with_reducible apply mC_ok) | (with_reducible apply mOp_ok) | (with_reducible apply mTest_ok) | (with_reducible apply mCons_ok) | (with_reducible apply mNil_ok) | (with_reducible apply mCall_ok) | (with_reducible apply mCallF_ok) | (with_reducible apply mSeq_eq) | (with_reducible apply seqNx) | (with_reducible apply seqRt) | (with_reducible apply mSkip_ok) | (with_reducible apply mRet_ok) | (with_reducible apply mRetN_ok) | (with_reducible apply mExpr_ok) | (with_reducible apply mAsg_ok) | (with_reducible apply mGName_ok) | (with_reducible apply mIfS_ok) | (with_reducible apply mTAnd_ok) | (with_reducible apply mTOr_ok) | (with_reducible apply mTNot_ok) | (with_reducible apply mAnd_ok) | (with_reducible apply mOr_ok) | (with_reducible apply mNot_ok) | (with_reducible apply mIf_ok) | (with_reducible apply mChain_ok) | (with_reducible apply bindO_ok) | (with_reducible apply mTup_ok) | (with_reducible apply mLst_ok) | (with_reducible apply mLst_okC) | (with_reducible apply mUn_ok) | (with_reducible apply mMet_ok) | (with_reducible apply mMetC_ok) | (with_reducible apply mGTup_ok) | (with_reducible apply mGCons_ok) | (with_reducible apply mGNil_ok) | (with_reducible apply mPar_ok) | (with_reducible apply mPar3_ok) | (with_reducible apply mSet_ok) | (with_reducible apply mSeqI_ok) | (with_reducible apply mRange1_ok) | (with_reducible apply mZip_ok) | (with_reducible apply mFrz_ok) | (with_reducible apply mFor_ok) | (with_reducible apply mCallV_ok) | (with_reducible apply gAddL) | (with_reducible apply gSumL) | (with_reducible apply gMax0) | (with_reducible apply gMax2) | (with_reducible apply gMaxP) | (with_reducible apply gAllL) | (with_reducible apply gTupL) | (with_reducible apply gTupT) | (with_reducible apply gListT) | (with_reducible apply gLenT) | (with_reducible apply gIsiT) | (with_reducible apply gIsNT) | (with_reducible apply gEqL0) | (with_reducible apply gNeL0) | (with_reducible apply gMul_ok) | (with_reducible apply gAdd_ok) | (with_reducible apply gSub_ok) | (with_reducible apply gEqI) | (with_reducible apply gNeI) | (with_reducible apply gLt_ok) | (with_reducible apply gLe_ok) | (with_reducible apply gGt_ok) | (with_reducible apply gGe_ok) | (with_reducible apply gInt_ok) | (with_reducible apply mulB_ok) | (with_reducible apply lim_ok) | ((with_reducible apply ite_t); (first | assumption | (exact decide_eq_true (by omega)) | (exact decide_eq_false (by omega)) | (simp only [Bool.not_eq_true', Bool.not_eq_false', Bool.not_not, decide_eq_false_iff_not, decide_eq_true_eq, Bool.false_eq_true, if_true, if_false, Bool.not_false, Bool.not_true, reduceIte]; omega) | exact rfl)) | ((with_reducible apply ite_f); (first | assumption | (exact decide_eq_true (by omega)) | (exact decide_eq_false (by omega)) | (simp only [Bool.not_eq_true', Bool.not_eq_false', Bool.not_not, decide_eq_false_iff_not, decide_eq_true_eq, Bool.false_eq_true, if_true, if_false, Bool.not_false, Bool.not_true, reduceIte]; omega) | exact rfl)) | (simp only [List.set_cons_succ, List.set_cons_zero, wipeD]; exact rfl) | (simp only [List.length_cons, List.length_nil, List.length_map, List.length_append]; omega) | (exact rfl) | (omega)))
    · (repeat' (first | (with_reducible assumption) | (with_reducible exact e3) | (with_reducible exact il2) | (with_reducible exact ap) | (with_reducible apply mVar_ok) | (with_reducible apply mC_ok) | (with_reducible apply mOp_ok) | (with_reducible apply mTest_ok) | (with_reducible apply mCons_ok) | (with_reducible apply mNil_ok) | (with_reducible apply mCall_ok) | (with_reducible apply mCallF_ok) | (with_reducible apply mSeq_eq) | (with_reducible apply seqNx) | (with_reducible apply seqRt) | (with_reducible apply mSkip_ok) | (with_reducible apply mRet_ok) | (with_reducible apply mRetN_ok) | (with_reducible apply mExpr_ok) | (with_reducible apply mAsg_ok) | (with_reducible apply mGName_ok) | (with_reducible apply mIfS_ok) | (with_reducible apply mTAnd_ok) | (with_reducible apply mTOr_ok) | (with_reducible apply mTNot_ok) | (with_reducible apply mAnd_ok) | (with_reducible apply mOr_ok) | (with_reducible apply mNot_ok) | (with_reducible apply mIf_ok) | (with_reducible apply mChain_ok) | (with_reducible apply bindO_ok) | (with_reducible apply mTup_ok) | (with_reducible apply mLst_ok) | (with_reducible apply mLst_okC) | (with_reducible apply mUn_ok) | (with_reducible apply mMet_ok) | (with_reducible apply mMetC_ok) | (with_reducible apply mGTup_ok) | (with_reducible apply mGCons_ok) | (with_reducible apply mGNil_ok) | (with_reducible apply mPar_ok) | (with_reducible apply mPar3_ok) | (with_reducible apply mSet_ok) | (with_reducible apply mSeqI_ok) | (with_reducible apply mRange1_ok) | (with_reducible apply mZip_ok) | (with_reducible apply mFrz_ok) | (with_reducible apply mFor_ok) | (with_reducible apply mCallV_ok) | (with_reducible apply gAddL) | (with_reducible apply gSumL) | (with_reducible apply gMax0) | (with_reducible apply gMax2) | (with_reducible apply gMaxP) | (with_reducible apply gAllL) | (with_reducible apply gTupL) | (with_reducible apply gTupT) | (with_reducible apply gListT) | (with_reducible apply gLenT) | (with_reducible apply gIsiT) | (with_reducible apply gIsNT) | (with_reducible apply gEqL0) | (with_reducible apply gNeL0) | (with_reducible apply gMul_ok) | (with_reducible apply gAdd_ok) | (with_reducible apply gSub_ok) | (with_reducible apply gEqI) | (with_reducible apply gNeI) | (with_reducible apply gLt_ok) | (with_reducible apply gLe_ok) | (with_reducible apply gGt_ok) | (with_reducible apply gGe_ok) | (with_reducible apply gInt_ok) | (with_reducible apply mulB_ok) | (with_reducible apply lim_ok) | ((with_reducible apply ite_t); (first | assumption | (exact decide_eq_true (by omega)) | (exact decide_eq_false (by omega)) | (simp only [Bool.not_eq_true', Bool.not_eq_false', Bool.not_not, decide_eq_false_iff_not, decide_eq_true_eq, Bool.false_eq_true, if_true, if_false, Bool.not_false, Bool.not_true, reduceIte]; omega) | exact rfl)) | ((with_reducible apply ite_f); (first | assumption | (exact decide_eq_true (by omega)) | (exact decide_eq_false (by omega)) | (simp only [Bool.not_eq_true', Bool.not_eq_false', Bool.not_not, decide_eq_false_iff_not, decide_eq_true_eq, Bool.false_eq_true, if_true, if_false, Bool.not_false, Bool.not_true, reduceIte]; omega) | exact rfl)) | (simp only [List.set_cons_succ, List.set_cons_zero, wipeD]; exact rfl) | (simp only [List.length_cons, List.length_nil, List.length_map, List.length_append]; omega) | (exact rfl) | (omega)))
theorem many_ok {n : Nat} (h : Draw n mu) (hn : n ≤ 800000000) (x1 x2 x3 x4 x5 : Option D) : ∃ (k : Nat) (mu' : Mu), k ≤ 30 ∧ Draw (n + 1) mu' ∧ Fr mu mu' ∧
    mRange1 (mCons (mCallF 2 (d__law_pick A) (mCons (mVar 0) (mCons (mLst false (mCons (mC (.int 0)) (mCons (mC (.int 1)) (mCons (mC (.int 2)) (mCons (mC (.int 3)) (mCons (mC (.int 4)) (mCons (mC (.int 5)) (mCons (mC (.int 1)) (mCons (mC (.int 2)) (mCons (mC (.int 3)) (mCons (mC (.int 4)) (mCons (mC (.int 5)) (mCons (mC (.int 30)) mNil))))))))))))) mNil))) mNil) [some (.cell 1), x1, x2, x3, x4, x5] mu = .ok ((List.range k).map fun i => .int (i : Nat)) mu' := by
  obtain ⟨d, mu1, hd, e1, h1, f1⟩ := pick_ok (ds := [.int 0, .int 1, .int 2, .int 3, .int 4, .int 5, .int 1, .int 2, .int 3, .int 4, .int 5, .int 30]) h (by omega) (by simp) (by simp)
  obtain ⟨t1, rfl, o1⟩ : ∃ t1 : Nat, d = .int (t1 : Int) ∧ t1 ≤ 30 := by
    simp only [List.mem_cons, List.not_mem_nil, or_false] at hd
    rcases hd with rfl | rfl | rfl | rfl | rfl | rfl | rfl | rfl | rfl | rfl | rfl | rfl
    · exact ⟨0, rfl, by omega⟩
    · exact ⟨1, rfl, by omega⟩
    · exact ⟨2, rfl, by omega⟩
    · exact ⟨3, rfl, by omega⟩
    · exact ⟨4, rfl, by omega⟩
    · exact ⟨5, rfl, by omega⟩
    · exact ⟨1, rfl, by omega⟩
    · exact ⟨2, rfl, by omega⟩
    · exact ⟨3, rfl, by omega⟩
    · exact ⟨4, rfl, by omega⟩
    · exact ⟨5, rfl, by omega⟩
    · exact ⟨30, rfl, by omega⟩
  refine ⟨t1, mu1, o1, h1, f1, ?_⟩
  have e2 : rangeD (t1 : Int) = (List.range t1).map fun i => .int (i : Nat) := by unfold rangeD; rw [Int.toNat_natCast]
  rw [e_pick, ← e2]
  (repeat' (first | (with_reducible assumption) | (with_reducible exact e1) | (with_reducible apply mVar_ok) | (with_reducible apply mC_ok) | (with_reducible apply mOp_ok) | (with_reducible apply mTest_ok) | (with_reducible apply mCons_ok) | (with_reducible apply mNil_ok) | (with_reducible apply mCall_ok) | (with_reducible apply mCallF_ok) | (with_reducible apply mSeq_eq) | (with_reducible apply seqNx) | (with_reducible apply seqRt) | (with_reducible apply mSkip_ok) | (with_reducible apply mRet_ok) | (with_reducible apply mRetN_ok) | (with_reducible apply mExpr_ok) | (with_reducible apply mAsg_ok) | (with_reducible apply mGName_ok) | (with_reducible apply mIfS_ok) | (with_reducible apply mTAnd_ok) | (with_reducible apply mTOr_ok) | (with_reducible apply mTNot_ok) | (with_reducible apply mAnd_ok) | (with_reducible apply mOr_ok) | (with_reducible apply mNot_ok) | (with_reducible apply mIf_ok) | (with_reducible apply mChain_ok) | (with_reducible apply bindO_ok) | (with_reducible apply mTup_ok) | (with_reducible apply mLst_ok) | (with_reducible apply mLst_okC) | (with_reducible apply mUn_ok) | (with_reducible apply mMet_ok) | (with_reducible apply mMetC_ok) | (with_reducible apply mGTup_ok) | (with_reducible apply mGCons_ok) | (with_reducible apply mGNil_ok) | (with_reducible apply mPar_ok) | (with_reducible apply mPar3_ok) | (with_reducible apply mSet_ok) | (with_reducible apply mSeqI_ok) | (with_reducible apply mRange1_ok) | (with_reducible apply mZip_ok) | (with_reducible apply mFrz_ok) | (with_reducible apply mFor_ok) | (with_reducible apply mCallV_ok) | (with_reducible apply gAddL) | (with_reducible apply gSumL) | (with_reducible apply gMax0) | (with_reducible apply gMax2) | (with_reducible apply gMaxP) | (with_reducible apply gAllL) | (with_reducible apply gTupL) | (with_reducible apply gTupT) | (with_reducible apply gListT) | (with_reducible apply gLenT) | (with_reducible apply gIsiT) | (with_reducible apply gIsNT) | (with_reducible apply gEqL0) | (with_reducible apply gNeL0) | (with_reducible apply gMul_ok) | (with_reducible apply gAdd_ok) | (with_reducible apply gSub_ok) | (with_reducible apply gEqI) | (with_reducible apply gNeI) | (with_reducible apply gLt_ok) | (with_reducible apply gLe_ok) | (with_reducible apply gGt_ok) | (with_reducible apply gGe_ok) | (with_reducible apply gInt_ok) | (with_reducible apply mulB_ok) | (with_reducible apply lim_ok) | ((with_reducible apply ite_t); (first | assumption | (exact decide_eq_true (by omega)) | (exact decide_eq_false (by omega)) | (simp only [Bool.not_eq_true', Bool.not_eq_false', Bool.not_not, decide_eq_false_iff_not, decide_eq_true_eq, Bool.false_eq_true, if_true, if_false, Bool.not_false, Bool.not_true, reduceIte]; omega) | exact rfl)) | ((with_reducible apply ite_f); (first | assumption | (exact decide_eq_true (by omega)) | (exact decide_eq_false (by omega)) | (simp only [Bool.not_eq_true', Bool.not_eq_false', Bool.not_not, decide_eq_false_iff_not, decide_eq_true_eq, Bool.false_eq_true, if_true, if_false, Bool.not_false, Bool.not_true, reduceIte]; omega) | exact rfl)) | (simp only [List.set_cons_succ, List.set_cons_zero, wipeD]; exact rfl) | (simp only [List.length_cons, List.length_nil, List.length_map, List.length_append]; omega) | (exact rfl) | (omega)))
theorem some_P {n : Nat} (h : Draw n mu) (hn : n ≤ 700000000) : ∃ (l : List Rn) (mu' : Mu), okR l ∧ BP l ∧ l.length ≤ 30 ∧ Draw (n + 200) mu' ∧ d__law_some_runs A [.cell 1, .bl true] mu = .ok (.lst (l.map encP)) mu' := by
  have hlen := h.len
  obtain ⟨top, mu1, ht, h1, f1, e1⟩ := top_ok (A := A) h (by omega) (.bl true) none none none none
  obtain ⟨k, mu2, hk, h2, f2, e2⟩ := many_ok (A := A) h1 (by omega) (some (.bl true)) (some (.cell mu.length)) (some (.int top)) none none
  have hc : mu2[mu.length]? = some (.lst (([] : List Rn).map encP)) := by
    rw [f2.at_ _ hlen, f1.at_ _ hlen, List.getElem?_append_right (Nat.le_refl _), Nat.sub_self]; rfl
  obtain ⟨e, m, k1, l, g1, g2, g3, g4, g5, x4, x5, rfl⟩ := forL_inv (mg := mGName 4) (mb := b__law_some_runs_1 A) (fun i : Nat => D.int (i : Int))
    (fun xs env m => ∃ l : List Rn, okR l ∧ BP l ∧ l.length + xs.length = k ∧ Draw (n + 3 + 4 * l.length) m ∧ m[mu.length]? = some (.lst (l.map encP)) ∧ ∃ x4 x5, env = [some (.cell 1), some (.bl true), some (.cell mu.length), some (.int top), x4, x5]) (List.range k)
    [some (.cell 1), some (.bl true), some (.cell mu.length), some (.int top), none, none] mu2 ⟨[], (fun r hr => by cases hr), (fun r hr => by cases hr), by simp, h2, hc, none, none, rfl⟩
    (fun x rest env m ⟨l, g1, g2, g3, g4, g5, x4, x5, e⟩ => by
      subst e
      simp only [List.length_cons] at g3
      obtain ⟨r, m', o1, o2, o3, o4, o5⟩ := turnP (A := A) (x4 := some (.int x)) (x5 := x5) g4 (by omega) ht hlen g5 (by omega) g1 g2
      exact ⟨_, _, _, _, rfl, .inl o5, l ++ [r], o1, o2, by simp; omega, o3.mono (by simp; omega), o4, _, _, rfl⟩)
  simp only [List.length_nil, Nat.add_zero] at g3
  refine ⟨l, m.set mu.length .dead, g1, g2, by omega, (g4.mono (by omega)).put hlen, denF_rt (env0 := [some (.cell 1), some (.bl true), none, none, none, none]) rfl ?_⟩
  unfold m__law_some_runs
  refine mSeq_eq (r1 := .nx [some (.cell 1), some (.bl true), some (.cell mu.length), some (.int top), none, none] mu1) (mPar_ok e1 rfl) (seqNx ?_)
  refine mSeq_eq (mFor_ok e2 k1) (seqNx ?_)
  (repeat' (first | (with_reducible assumption) | (with_reducible apply mVar_ok) | (with_reducible apply mC_ok) | (with_reducible apply mOp_ok) | (with_reducible apply mTest_ok) | (with_reducible apply mCons_ok) | (with_reducible apply mNil_ok) | (with_reducible apply mCall_ok) | (with_reducible apply mCallF_ok) | (with_reducible apply mSeq_eq) | (with_reducible apply seqNx) | (with_reducible apply seqRt) | (with_reducible apply mSkip_ok) | (with_reducible apply mRet_ok) | (with_reducible apply mRetN_ok) | (with_reducible apply mExpr_ok) | (with_reducible apply mAsg_ok) | (with_reducible apply mGName_ok) | (with_reducible apply mIfS_ok) | (with_reducible apply mTAnd_ok) | (with_reducible apply mTOr_ok) | (with_reducible apply mTNot_ok) | (with_reducible apply mAnd_ok) | (with_reducible apply mOr_ok) | (with_reducible apply mNot_ok) | (with_reducible apply mIf_ok) | (with_reducible apply mChain_ok) | (with_reducible apply bindO_ok) | (with_reducible apply mTup_ok) | (with_reducible apply mLst_ok) | (with_reducible apply mLst_okC) | (with_reducible apply mUn_ok) | (with_reducible apply mMet_ok) | (with_reducible apply mMetC_ok) | (with_reducible apply mGTup_ok) | (with_reducible apply mGCons_ok) | (with_reducible apply mGNil_ok) | (with_reducible apply mPar_ok) | (with_reducible apply mPar3_ok) | (with_reducible apply mSet_ok) | (with_reducible apply mSeqI_ok) | (with_reducible apply mRange1_ok) | (with_reducible apply mZip_ok) | (with_reducible apply mFrz_ok) | (with_reducible apply mFor_ok) | (with_reducible apply mCallV_ok) | (with_reducible apply gAddL) | (with_reducible apply gSumL) | (with_reducible apply gMax0) | (with_reducible apply gMax2) | (with_reducible apply gMaxP) | (with_reducible apply gAllL) | (with_reducible apply gTupL) | (with_reducible apply gTupT) | (with_reducible apply gListT) | (with_reducible apply gLenT) | (with_reducible apply gIsiT) | (with_reducible apply gIsNT) | (with_reducible apply gEqL0) | (with_reducible apply gNeL0) | (with_reducible apply gMul_ok) | (with_reducible apply gAdd_ok) | (with_reducible apply gSub_ok) | (with_reducible apply gEqI) | (with_reducible apply gNeI) | (with_reducible apply gLt_ok) | (with_reducible apply gLe_ok) | (with_reducible apply gGt_ok) | (with_reducible apply gGe_ok) | (with_reducible apply gInt_ok) | (with_reducible apply mulB_ok) | (with_reducible apply lim_ok) | ((with_reducible apply ite_t); (first | assumption | (exact decide_eq_true (by omega)) | (exact decide_eq_false (by omega)) | (simp only [Bool.not_eq_true', Bool.not_eq_false', Bool.not_not, decide_eq_false_iff_not, decide_eq_true_eq, Bool.false_eq_true, if_true, if_false, Bool.not_false, Bool.not_true, reduceIte]; omega) | exact rfl)) | ((with_reducible apply ite_f); (first | assumption | (exact decide_eq_true (by omega)) | (exact decide_eq_false (by omega)) | (simp only [Bool.not_eq_true', Bool.not_eq_false', Bool.not_not, decide_eq_false_iff_not, decide_eq_true_eq, Bool.false_eq_true, if_true, if_false, Bool.not_false, Bool.not_true, reduceIte]; omega) | exact rfl)) | (simp only [List.set_cons_succ, List.set_cons_zero, wipeD]; exact rfl) | (simp only [List.length_cons, List.length_nil, List.length_map, List.length_append]; omega) | (exact rfl) | (omega)))
theorem some_N {n : Nat} (h : Draw n mu) (hn : n ≤ 700000000) : ∃ (l : List (Int × Int)) (mu' : Mu), okN l ∧ BN l ∧ l.length ≤ 30 ∧ Draw (n + 200) mu' ∧ d__law_some_runs A [.cell 1, .bl false] mu = .ok (.lst (l.map encN)) mu' := by
  have hlen := h.len
  obtain ⟨top, mu1, ht, h1, f1, e1⟩ := top_ok (A := A) h (by omega) (.bl false) none none none none
  obtain ⟨k, mu2, hk, h2, f2, e2⟩ := many_ok (A := A) h1 (by omega) (some (.bl false)) (some (.cell mu.length)) (some (.int top)) none none
  have hc : mu2[mu.length]? = some (.lst (([] : List (Int × Int)).map encN)) := by
    rw [f2.at_ _ hlen, f1.at_ _ hlen, List.getElem?_append_right (Nat.le_refl _), Nat.sub_self]; rfl
  obtain ⟨e, m, k1, l, g1, g2, g3, g4, g5, x4, x5, rfl⟩ := forL_inv (mg := mGName 4) (mb := b__law_some_runs_1 A) (fun i : Nat => D.int (i : Int))
    (fun xs env m => ∃ l : List (Int × Int), okN l ∧ BN l ∧ l.length + xs.length = k ∧ Draw (n + 3 + 4 * l.length) m ∧ m[mu.length]? = some (.lst (l.map encN)) ∧ ∃ x4 x5, env = [some (.cell 1), some (.bl false), some (.cell mu.length), some (.int top), x4, x5]) (List.range k)
    [some (.cell 1), some (.bl false), some (.cell mu.length), some (.int top), none, none] mu2 ⟨[], (fun r hr => by cases hr), (fun r hr => by cases hr), by simp, h2, hc, none, none, rfl⟩
    (fun x rest env m ⟨l, g1, g2, g3, g4, g5, x4, x5, e⟩ => by
      subst e
      simp only [List.length_cons] at g3
      obtain ⟨r, m', o1, o2, o3, o4, o5⟩ := turnN (A := A) (x4 := some (.int x)) (x5 := x5) g4 (by omega) ht hlen g5 (by omega) g1 g2
      exact ⟨_, _, _, _, rfl, .inl o5, l ++ [r], o1, o2, by simp; omega, o3.mono (by simp; omega), o4, _, _, rfl⟩)
  simp only [List.length_nil, Nat.add_zero] at g3
  refine ⟨l, m.set mu.length .dead, g1, g2, by omega, (g4.mono (by omega)).put hlen, denF_rt (env0 := [some (.cell 1), some (.bl false), none, none, none, none]) rfl ?_⟩
  unfold m__law_some_runs
  refine mSeq_eq (r1 := .nx [some (.cell 1), some (.bl false), some (.cell mu.length), some (.int top), none, none] mu1) (mPar_ok e1 rfl) (seqNx ?_)
  refine mSeq_eq (mFor_ok e2 k1) (seqNx ?_)
  (repeat' (first | (with_reducible assumption) | (with_reducible apply mVar_ok) | (with_reducible apply mC_ok) | (with_reducible apply mOp_ok) | (with_reducible apply mTest_ok) | (with_reducible apply mCons_ok) | (with_reducible apply mNil_ok) | (with_reducible apply mCall_ok) | (with_reducible apply mCallF_ok) | (with_reducible apply mSeq_eq) | (with_reducible apply seqNx) | (with_reducible apply seqRt) | (with_reducible apply mSkip_ok) | (with_reducible apply mRet_ok) | (with_reducible apply mRetN_ok) | (with_reducible apply mExpr_ok) | (with_reducible apply mAsg_ok) | (with_reducible apply mGName_ok) | (with_reducible apply mIfS_ok) | (with_reducible apply mTAnd_ok) | (with_reducible apply mTOr_ok) | (with_reducible apply mTNot_ok) | (with_reducible apply mAnd_ok) | (with_reducible apply mOr_ok) | (with_reducible apply mNot_ok) | (with_reducible apply mIf_ok) | (with_reducible apply mChain_ok) | (with_reducible apply bindO_ok) | (with_reducible apply mTup_ok) | (with_reducible apply mLst_ok) | (with_reducible apply mLst_okC) | (with_reducible apply mUn_ok) | (with_reducible apply mMet_ok) | (with_reducible apply mMetC_ok) | (with_reducible apply mGTup_ok) | (with_reducible apply mGCons_ok) | (with_reducible apply mGNil_ok) | (with_reducible apply mPar_ok) | (with_reducible apply mPar3_ok) | (with_reducible apply mSet_ok) | (with_reducible apply mSeqI_ok) | (with_reducible apply mRange1_ok) | (with_reducible apply mZip_ok) | (with_reducible apply mFrz_ok) | (with_reducible apply mFor_ok) | (with_reducible apply mCallV_ok) | (with_reducible apply gAddL) | (with_reducible apply gSumL) | (with_reducible apply gMax0) | (with_reducible apply gMax2) | (with_reducible apply gMaxP) | (with_reducible apply gAllL) | (with_reducible apply gTupL) | (with_reducible apply gTupT) | (with_reducible apply gListT) | (with_reducible apply gLenT) | (with_reducible apply gIsiT) | (with_reducible apply gIsNT) | (with_reducible apply gEqL0) | (with_reducible apply gNeL0) | (with_reducible apply gMul_ok) | (with_reducible apply gAdd_ok) | (with_reducible apply gSub_ok) | (with_reducible apply gEqI) | (with_reducible apply gNeI) | (with_reducible apply gLt_ok) | (with_reducible apply gLe_ok) | (with_reducible apply gGt_ok) | (with_reducible apply gGe_ok) | (with_reducible apply gInt_ok) | (with_reducible apply mulB_ok) | (with_reducible apply lim_ok) | ((with_reducible apply ite_t); (first | assumption | (exact decide_eq_true (by omega)) | (exact decide_eq_false (by omega)) | (simp only [Bool.not_eq_true', Bool.not_eq_false', Bool.not_not, decide_eq_false_iff_not, decide_eq_true_eq, Bool.false_eq_true, if_true, if_false, Bool.not_false, Bool.not_true, reduceIte]; omega) | exact rfl)) | ((with_reducible apply ite_f); (first | assumption | (exact decide_eq_true (by omega)) | (exact decide_eq_false (by omega)) | (simp only [Bool.not_eq_true', Bool.not_eq_false', Bool.not_not, decide_eq_false_iff_not, decide_eq_true_eq, Bool.false_eq_true, if_true, if_false, Bool.not_false, Bool.not_true, reduceIte]; omega) | exact rfl)) | (simp only [List.set_cons_succ, List.set_cons_zero, wipeD]; exact rfl) | (simp only [List.length_cons, List.length_nil, List.length_map, List.length_append]; omega) | (exact rfl) | (omega)))
/-! with_both -/
theorem e_both (l : List Rn) (hl : l.length ≤ 1000) : d__law_with_both A [.lst (l.map encP)] mu = .ok (.lst ((l ++ [(1, mA l, mB l)]).map encP)) mu := by
  refine denF_rt (env0 := [some (.lst (l.map encP)), none, none, none, none]) rfl ?_
  have q1 : q__law_with_both_1 A [some (.lst (l.map encP)), none, none, none, none] mu = .ok (.lst ((l.map fun r => r.2.2).map D.int)) mu := by
    unfold q__law_with_both_1
    rw [mLc_map (enc := encP) (f := fun r => .int r.2.2) l (by (repeat' (first | (with_reducible assumption) | (with_reducible apply mVar_ok) | (with_reducible apply mC_ok) | (with_reducible apply mOp_ok) | (with_reducible apply mTest_ok) | (with_reducible apply mCons_ok) | (with_reducible apply mNil_ok) | (with_reducible apply mCall_ok) | (with_reducible apply mCallF_ok) | (with_reducible apply mSeq_eq) | (with_reducible apply seqNx) | (with_reducible apply seqRt) | (with_reducible apply mSkip_ok) | (with_reducible apply mRet_ok) | (with_reducible apply mRetN_ok) | (with_reducible apply mExpr_ok) | (with_reducible apply mAsg_ok) | (with_reducible apply mGName_ok) | (with_reducible apply mIfS_ok) | (with_reducible apply mTAnd_ok) | (with_reducible apply mTOr_ok) | (with_reducible apply mTNot_ok) | (with_reducible apply mAnd_ok) | (with_reducible apply mOr_ok) | (with_reducible apply mNot_ok) | (with_reducible apply mIf_ok) | (with_reducible apply mChain_ok) | (with_reducible apply bindO_ok) | (with_reducible apply mTup_ok) | (with_reducible apply mLst_ok) | (with_reducible apply mLst_okC) | (with_reducible apply mUn_ok) | (with_reducible apply mMet_ok) | (with_reducible apply mMetC_ok) | (with_reducible apply mGTup_ok) | (with_reducible apply mGCons_ok) | (with_reducible apply mGNil_ok) | (with_reducible apply mPar_ok) | (with_reducible apply mPar3_ok) | (with_reducible apply mSet_ok) | (with_reducible apply mSeqI_ok) | (with_reducible apply mRange1_ok) | (with_reducible apply mZip_ok) | (with_reducible apply mFrz_ok) | (with_reducible apply mFor_ok) | (with_reducible apply mCallV_ok) | (with_reducible apply gAddL) | (with_reducible apply gSumL) | (with_reducible apply gMax0) | (with_reducible apply gMax2) | (with_reducible apply gMaxP) | (with_reducible apply gAllL) | (with_reducible apply gTupL) | (with_reducible apply gTupT) | (with_reducible apply gListT) | (with_reducible apply gLenT) | (with_reducible apply gIsiT) | (with_reducible apply gIsNT) | (with_reducible apply gEqL0) | (with_reducible apply gNeL0) | (with_reducible apply gMul_ok) | (with_reducible apply gAdd_ok) | (with_reducible apply gSub_ok) | (with_reducible apply gEqI) | (with_reducible apply gNeI) | (with_reducible apply gLt_ok) | (with_reducible apply gLe_ok) | (with_reducible apply gGt_ok) | (with_reducible apply gGe_ok) | (with_reducible apply gInt_ok) | (with_reducible apply mulB_ok) | (with_reducible apply lim_ok) | ((with_reducible apply ite_t); (first | assumption | (exact decide_eq_true (by omega)) | (exact decide_eq_false (by omega)) | (simp only [Bool.not_eq_true', Bool.not_eq_false', Bool.not_not, decide_eq_false_iff_not, decide_eq_true_eq, Bool.false_eq_true, if_true, if_false, Bool.not_false, Bool.not_true, reduceIte]; omega) | exact rfl)) | ((with_reducible apply ite_f); (first | assumption | (exact decide_eq_true (by omega)) | (exact decide_eq_false (by omega)) | (simp only [Bool.not_eq_true', Bool.not_eq_false', Bool.not_not, decide_eq_false_iff_not, decide_eq_true_eq, Bool.false_eq_true, if_true, if_false, Bool.not_false, Bool.not_true, reduceIte]; omega) | exact rfl)) | (simp only [List.set_cons_succ, List.set_cons_zero, wipeD]; exact rfl) | (simp only [List.length_cons, List.length_nil, List.length_map, List.length_append]; omega) | (exact rfl) | (omega)))) ?_ (by omega), List.map_map]
    · rfl
    · intro r hr
      refine ⟨[some (.lst (l.map encP)), none, none, some (.int r.1), some (.tup [.int r.2.1, .int r.2.2])], ?_, rfl, ?_⟩
      · (repeat' (first | (with_reducible assumption) | (with_reducible apply mVar_ok) | (with_reducible apply mC_ok) | (with_reducible apply mOp_ok) | (with_reducible apply mTest_ok) | (with_reducible apply mCons_ok) | (with_reducible apply mNil_ok) | (with_reducible apply mCall_ok) | (with_reducible apply mCallF_ok) | (with_reducible apply mSeq_eq) | (with_reducible apply seqNx) | (with_reducible apply seqRt) | (with_reducible apply mSkip_ok) | (with_reducible apply mRet_ok) | (with_reducible apply mRetN_ok) | (with_reducible apply mExpr_ok) | (with_reducible apply mAsg_ok) | (with_reducible apply mGName_ok) | (with_reducible apply mIfS_ok) | (with_reducible apply mTAnd_ok) | (with_reducible apply mTOr_ok) | (with_reducible apply mTNot_ok) | (with_reducible apply mAnd_ok) | (with_reducible apply mOr_ok) | (with_reducible apply mNot_ok) | (with_reducible apply mIf_ok) | (with_reducible apply mChain_ok) | (with_reducible apply bindO_ok) | (with_reducible apply mTup_ok) | (with_reducible apply mLst_ok) | (with_reducible apply mLst_okC) | (with_reducible apply mUn_ok) | (with_reducible apply mMet_ok) | (with_reducible apply mMetC_ok) | (with_reducible apply mGTup_ok) | (with_reducible apply mGCons_ok) | (with_reducible apply mGNil_ok) | (with_reducible apply mPar_ok) | (with_reducible apply mPar3_ok) | (with_reducible apply mSet_ok) | (with_reducible apply mSeqI_ok) | (with_reducible apply mRange1_ok) | (with_reducible apply mZip_ok) | (with_reducible apply mFrz_ok) | (with_reducible apply mFor_ok) | (with_reducible apply mCallV_ok) | (with_reducible apply gAddL) | (with_reducible apply gSumL) | (with_reducible apply gMax0) | (with_reducible apply gMax2) | (with_reducible apply gMaxP) | (with_reducible apply gAllL) | (with_reducible apply gTupL) | (with_reducible apply gTupT) | (with_reducible apply gListT) | (with_reducible apply gLenT) | (with_reducible apply gIsiT) | (with_reducible apply gIsNT) | (with_reducible apply gEqL0) | (with_reducible apply gNeL0) | (with_reducible apply gMul_ok) | (with_reducible apply gAdd_ok) | (with_reducible apply gSub_ok) | (with_reducible apply gEqI) | (with_reducible apply gNeI) | (with_reducible apply gLt_ok) | (with_reducible apply gLe_ok) | (with_reducible apply gGt_ok) | (with_reducible apply gGe_ok) | (with_reducible apply gInt_ok) | (with_reducible apply mulB_ok) | (with_reducible apply lim_ok) | ((with_reducible apply ite_t); (first | assumption | (exact decide_eq_true (by omega)) | (exact decide_eq_false (by omega)) | (simp only [Bool.not_eq_true', Bool.not_eq_false', Bool.not_not, decide_eq_false_iff_not, decide_eq_true_eq, Bool.false_eq_true, if_true, if_false, Bool.not_false, Bool.not_true, reduceIte]; omega) | exact rfl)) | ((with_reducible apply ite_f); (first | assumption | (exact decide_eq_true (by omega)) | (exact decide_eq_false (by omega)) | (simp only [Bool.not_eq_true', Bool.not_eq_false', Bool.not_not, decide_eq_false_iff_not, decide_eq_true_eq, Bool.false_eq_true, if_true, if_false, Bool.not_false, Bool.not_true, reduceIte]; omega) | exact rfl)) | (simp only [List.set_cons_succ, List.set_cons_zero, wipeD]; exact rfl) | (simp only [List.length_cons, List.length_nil, List.length_map, List.length_append]; omega) | (exact rfl) | (omega)))
      · (repeat' (first | (with_reducible assumption) | (with_reducible apply mVar_ok) | (with_reducible apply mC_ok) | (with_reducible apply mOp_ok) | (with_reducible apply mTest_ok) | (with_reducible apply mCons_ok) | (with_reducible apply mNil_ok) | (with_reducible apply mCall_ok) | (with_reducible apply mCallF_ok) | (with_reducible apply mSeq_eq) | (with_reducible apply seqNx) | (with_reducible apply seqRt) | (with_reducible apply mSkip_ok) | (with_reducible apply mRet_ok) | (with_reducible apply mRetN_ok) | (with_reducible apply mExpr_ok) | (with_reducible apply mAsg_ok) | (with_reducible apply mGName_ok) | (with_reducible apply mIfS_ok) | (with_reducible apply mTAnd_ok) | (with_reducible apply mTOr_ok) | (with_reducible apply mTNot_ok) | (with_reducible apply mAnd_ok) | (with_reducible apply mOr_ok) | (with_reducible apply mNot_ok) | (with_reducible apply mIf_ok) | (with_reducible apply mChain_ok) | (with_reducible apply bindO_ok) | (with_reducible apply mTup_ok) | (with_reducible apply mLst_ok) | (with_reducible apply mLst_okC) | (with_reducible apply mUn_ok) | (with_reducible apply mMet_ok) | (with_reducible apply mMetC_ok) | (with_reducible apply mGTup_ok) | (with_reducible apply mGCons_ok) | (with_reducible apply mGNil_ok) | (with_reducible apply mPar_ok) | (with_reducible apply mPar3_ok) | (with_reducible apply mSet_ok) | (with_reducible apply mSeqI_ok) | (with_reducible apply mRange1_ok) | (with_reducible apply mZip_ok) | (with_reducible apply mFrz_ok) | (with_reducible apply mFor_ok) | (with_reducible apply mCallV_ok) | (with_reducible apply gAddL) | (with_reducible apply gSumL) | (with_reducible apply gMax0) | (with_reducible apply gMax2) | (with_reducible apply gMaxP) | (with_reducible apply gAllL) | (with_reducible apply gTupL) | (with_reducible apply gTupT) | (with_reducible apply gListT) | (with_reducible apply gLenT) | (with_reducible apply gIsiT) | (with_reducible apply gIsNT) | (with_reducible apply gEqL0) | (with_reducible apply gNeL0) | (with_reducible apply gMul_ok) | (with_reducible apply gAdd_ok) | (with_reducible apply gSub_ok) | (with_reducible apply gEqI) | (with_reducible apply gNeI) | (with_reducible apply gLt_ok) | (with_reducible apply gLe_ok) | (with_reducible apply gGt_ok) | (with_reducible apply gGe_ok) | (with_reducible apply gInt_ok) | (with_reducible apply mulB_ok) | (with_reducible apply lim_ok) | ((with_reducible apply ite_t); (first | assumption | (exact decide_eq_true (by omega)) | (exact decide_eq_false (by omega)) | (simp only [Bool.not_eq_true', Bool.not_eq_false', Bool.not_not, decide_eq_false_iff_not, decide_eq_true_eq, Bool.false_eq_true, if_true, if_false, Bool.not_false, Bool.not_true, reduceIte]; omega) | exact rfl)) | ((with_reducible apply ite_f); (first | assumption | (exact decide_eq_true (by omega)) | (exact decide_eq_false (by omega)) | (simp only [Bool.not_eq_true', Bool.not_eq_false', Bool.not_not, decide_eq_false_iff_not, decide_eq_true_eq, Bool.false_eq_true, if_true, if_false, Bool.not_false, Bool.not_true, reduceIte]; omega) | exact rfl)) | (simp only [List.set_cons_succ, List.set_cons_zero, wipeD]; exact rfl) | (simp only [List.length_cons, List.length_nil, List.length_map, List.length_append]; omega) | (exact rfl) | (omega)))
  have q2 : q__law_with_both_2 A [some (.lst (l.map encP)), none, none, none, none] mu = .ok (.lst ((l.map fun r => r.2.1).map D.int)) mu := by
    unfold q__law_with_both_2
    rw [mLc_map (enc := encP) (f := fun r => .int r.2.1) l (by (repeat' (first | (with_reducible assumption) | (with_reducible apply mVar_ok) | (with_reducible apply mC_ok) | (with_reducible apply mOp_ok) | (with_reducible apply mTest_ok) | (with_reducible apply mCons_ok) | (with_reducible apply mNil_ok) | (with_reducible apply mCall_ok) | (with_reducible apply mCallF_ok) | (with_reducible apply mSeq_eq) | (with_reducible apply seqNx) | (with_reducible apply seqRt) | (with_reducible apply mSkip_ok) | (with_reducible apply mRet_ok) | (with_reducible apply mRetN_ok) | (with_reducible apply mExpr_ok) | (with_reducible apply mAsg_ok) | (with_reducible apply mGName_ok) | (with_reducible apply mIfS_ok) | (with_reducible apply mTAnd_ok) | (with_reducible apply mTOr_ok) | (with_reducible apply mTNot_ok) | (with_reducible apply mAnd_ok) | (with_reducible apply mOr_ok) | (with_reducible apply mNot_ok) | (with_reducible apply mIf_ok) | (with_reducible apply mChain_ok) | (with_reducible apply bindO_ok) | (with_reducible apply mTup_ok) | (with_reducible apply mLst_ok) | (with_reducible apply mLst_okC) | (with_reducible apply mUn_ok) | (with_reducible apply mMet_ok) | (with_reducible apply mMetC_ok) | (with_reducible apply mGTup_ok) | (with_reducible apply mGCons_ok) | (with_reducible apply mGNil_ok) | (with_reducible apply mPar_ok) | (with_reducible apply mPar3_ok) | (with_reducible apply mSet_ok) | (with_reducible apply mSeqI_ok) | (with_reducible apply mRange1_ok) | (with_reducible apply mZip_ok) | (with_reducible apply mFrz_ok) | (with_reducible apply mFor_ok) | (with_reducible apply mCallV_ok) | (with_reducible apply gAddL) | (with_reducible apply gSumL) | (with_reducible apply gMax0) | (with_reducible apply gMax2) | (with_reducible apply gMaxP) | (with_reducible apply gAllL) | (with_reducible apply gTupL) | (with_reducible apply gTupT) | (with_reducible apply gListT) | (with_reducible apply gLenT) | (with_reducible apply gIsiT) | (with_reducible apply gIsNT) | (with_reducible apply gEqL0) | (with_reducible apply gNeL0) | (with_reducible apply gMul_ok) | (with_reducible apply gAdd_ok) | (with_reducible apply gSub_ok) | (with_reducible apply gEqI) | (with_reducible apply gNeI) | (with_reducible apply gLt_ok) | (with_reducible apply gLe_ok) | (with_reducible apply gGt_ok) | (with_reducible apply gGe_ok) | (with_reducible apply gInt_ok) | (with_reducible apply mulB_ok) | (with_reducible apply lim_ok) | ((with_reducible apply ite_t); (first | assumption | (exact decide_eq_true (by omega)) | (exact decide_eq_false (by omega)) | (simp only [Bool.not_eq_true', Bool.not_eq_false', Bool.not_not, decide_eq_false_iff_not, decide_eq_true_eq, Bool.false_eq_true, if_true, if_false, Bool.not_false, Bool.not_true, reduceIte]; omega) | exact rfl)) | ((with_reducible apply ite_f); (first | assumption | (exact decide_eq_true (by omega)) | (exact decide_eq_false (by omega)) | (simp only [Bool.not_eq_true', Bool.not_eq_false', Bool.not_not, decide_eq_false_iff_not, decide_eq_true_eq, Bool.false_eq_true, if_true, if_false, Bool.not_false, Bool.not_true, reduceIte]; omega) | exact rfl)) | (simp only [List.set_cons_succ, List.set_cons_zero, wipeD]; exact rfl) | (simp only [List.length_cons, List.length_nil, List.length_map, List.length_append]; omega) | (exact rfl) | (omega)))) ?_ (by omega), List.map_map]
    · rfl
    · intro r hr
      refine ⟨[some (.lst (l.map encP)), none, none, some (.int r.1), some (.tup [.int r.2.1, .int r.2.2])], ?_, rfl, ?_⟩
      · (repeat' (first | (with_reducible assumption) | (with_reducible apply mVar_ok) | (with_reducible apply mC_ok) | (with_reducible apply mOp_ok) | (with_reducible apply mTest_ok) | (with_reducible apply mCons_ok) | (with_reducible apply mNil_ok) | (with_reducible apply mCall_ok) | (with_reducible apply mCallF_ok) | (with_reducible apply mSeq_eq) | (with_reducible apply seqNx) | (with_reducible apply seqRt) | (with_reducible apply mSkip_ok) | (with_reducible apply mRet_ok) | (with_reducible apply mRetN_ok) | (with_reducible apply mExpr_ok) | (with_reducible apply mAsg_ok) | (with_reducible apply mGName_ok) | (with_reducible apply mIfS_ok) | (with_reducible apply mTAnd_ok) | (with_reducible apply mTOr_ok) | (with_reducible apply mTNot_ok) | (with_reducible apply mAnd_ok) | (with_reducible apply mOr_ok) | (with_reducible apply mNot_ok) | (with_reducible apply mIf_ok) | (with_reducible apply mChain_ok) | (with_reducible apply bindO_ok) | (with_reducible apply mTup_ok) | (with_reducible apply mLst_ok) | (with_reducible apply mLst_okC) | (with_reducible apply mUn_ok) | (with_reducible apply mMet_ok) | (with_reducible apply mMetC_ok) | (with_reducible apply mGTup_ok) | (with_reducible apply mGCons_ok) | (with_reducible apply mGNil_ok) | (with_reducible apply mPar_ok) | (with_reducible apply mPar3_ok) | (with_reducible apply mSet_ok) | (with_reducible apply mSeqI_ok) | (with_reducible apply mRange1_ok) | (with_reducible apply mZip_ok) | (with_reducible apply mFrz_ok) | (with_reducible apply mFor_ok) | (with_reducible apply mCallV_ok) | (with_reducible apply gAddL) | (with_reducible apply gSumL) | (with_reducible apply gMax0) | (with_reducible apply gMax2) | (with_reducible apply gMaxP) | (with_reducible apply gAllL) | (with_reducible apply gTupL) | (with_reducible apply gTupT) | (with_reducible apply gListT) | (with_reducible apply gLenT) | (with_reducible apply gIsiT) | (with_reducible apply gIsNT) | (with_reducible apply gEqL0) | (with_reducible apply gNeL0) | (with_reducible apply gMul_ok) | (with_reducible apply gAdd_ok) | (with_reducible apply gSub_ok) | (with_reducible apply gEqI) | (with_reducible apply gNeI) | (with_reducible apply gLt_ok) | (with_reducible apply gLe_ok) | (with_reducible apply gGt_ok) | (with_reducible apply gGe_ok) | (with_reducible apply gInt_ok) | (with_reducible apply mulB_ok) | (with_reducible apply lim_ok) | ((with_reducible apply ite_t); (first | assumption | (exact decide_eq_true (by omega)) | (exact decide_eq_false (by omega)) | (simp only [Bool.not_eq_true', Bool.not_eq_false', Bool.not_not, decide_eq_false_iff_not, decide_eq_true_eq, Bool.false_eq_true, if_true, if_false, Bool.not_false, Bool.not_true, reduceIte]; omega) | exact rfl)) | ((with_reducible apply ite_f); (first | assumption | (exact decide_eq_true (by omega)) | (exact decide_eq_false (by omega)) | (simp only [Bool.not_eq_true', Bool.not_eq_false', Bool.not_not, decide_eq_false_iff_not, decide_eq_true_eq, Bool.false_eq_true, if_true, if_false, Bool.not_false, Bool.not_true, reduceIte]; omega) | exact rfl)) | (simp only [List.set_cons_succ, List.set_cons_zero, wipeD]; exact rfl) | (simp only [List.length_cons, List.length_nil, List.length_map, List.length_append]; omega) | (exact rfl) | (omega)))
      · (repeat' (first | (with_reducible assumption) | (with_reducible apply mVar_ok) | (with_reducible apply mC_ok) | (with_reducible apply mOp_ok) | (with_reducible apply mTest_ok) | (with_reducible apply mCons_ok) | (with_reducible apply mNil_ok) | (with_reducible apply mCall_ok) | (with_reducible apply mCallF_ok) | (with_reducible apply mSeq_eq) | (with_reducible apply seqNx) | (with_reducible apply seqRt) | (with_reducible apply mSkip_ok) | (with_reducible apply mRet_ok) | (with_reducible apply mRetN_ok) | (with_reducible apply mExpr_ok) | (with_reducible apply mAsg_ok) | (with_reducible apply mGName_ok) | (with_reducible apply mIfS_ok) | (with_reducible apply mTAnd_ok) | (with_reducible apply mTOr_ok) | (with_reducible apply mTNot_ok) | (with_reducible apply mAnd_ok) | (with_reducible apply mOr_ok) | (with_reducible apply mNot_ok) | (with_reducible apply mIf_ok) | (with_reducible apply mChain_ok) | (with_reducible apply bindO_ok) | (with_reducible apply mTup_ok) | (with_reducible apply mLst_ok) | (with_reducible apply mLst_okC) | (with_reducible apply mUn_ok) | (with_reducible apply mMet_ok) | (with_reducible apply mMetC_ok) | (with_reducible apply mGTup_ok) | (with_reducible apply mGCons_ok) | (with_reducible apply mGNil_ok) | (with_reducible apply mPar_ok) | (with_reducible apply mPar3_ok) | (with_reducible apply mSet_ok) | (with_reducible apply mSeqI_ok) | (with_reducible apply mRange1_ok) | (with_reducible apply mZip_ok) | (with_reducible apply mFrz_ok) | (with_reducible apply mFor_ok) | (with_reducible apply mCallV_ok) | (with_reducible apply gAddL) | (with_reducible apply gSumL) | (with_reducible apply gMax0) | (with_reducible apply gMax2) | (with_reducible apply gMaxP) | (with_reducible apply gAllL) | (with_reducible apply gTupL) | (with_reducible apply gTupT) | (with_reducible apply gListT) | (with_reducible apply gLenT) | (with_reducible apply gIsiT) | (with_reducible apply gIsNT) | (with_reducible apply gEqL0) | (with_reducible apply gNeL0) | (with_reducible apply gMul_ok) | (with_reducible apply gAdd_ok) | (with_reducible apply gSub_ok) | (with_reducible apply gEqI) | (with_reducible apply gNeI) | (with_reducible apply gLt_ok) | (with_reducible apply gLe_ok) | (with_reducible apply gGt_ok) | (with_reducible apply gGe_ok) | (with_reducible apply gInt_ok) | (with_reducible apply mulB_ok) | (with_reducible apply lim_ok) | ((with_reducible apply ite_t); (first | assumption | (exact decide_eq_true (by omega)) | (exact decide_eq_false (by omega)) | (simp only [Bool.not_eq_true', Bool.not_eq_false', Bool.not_not, decide_eq_false_iff_not, decide_eq_true_eq, Bool.false_eq_true, if_true, if_false, Bool.not_false, Bool.not_true, reduceIte]; omega) | exact rfl)) | ((with_reducible apply ite_f); (first | assumption | (exact decide_eq_true (by omega)) | (exact decide_eq_false (by omega)) | (simp only [Bool.not_eq_true', Bool.not_eq_false', Bool.not_not, decide_eq_false_iff_not, decide_eq_true_eq, Bool.false_eq_true, if_true, if_false, Bool.not_false, Bool.not_true, reduceIte]; omega) | exact rfl)) | (simp only [List.set_cons_succ, List.set_cons_zero, wipeD]; exact rfl) | (simp only [List.length_cons, List.length_nil, List.length_map, List.length_append]; omega) | (exact rfl) | (omega)))
  have hlim : ∀ f : Rn → Int, lim ([D.int 0].length + ((l.map f).map D.int).length) = true := fun f => lim_ok (by simp; omega)
  have cat : gAdd false mu (.lst (l.map encP)) (.lst [encP (1, mA l, mB l)]) = some (.lst ((l ++ [(1, mA l, mB l)]).map encP), mu) := by
    rw [gCatL (lim_ok (by simp; omega)), List.map_append]; rfl
  have cat' : gAdd false mu (.lst (l.map encP)) (.lst [.tup [.int 1, .tup [.int (maxI (0 :: l.map fun r => r.2.1)), .int (maxI (0 :: l.map fun r => r.2.2))]]]) = some (.lst ((l ++ [(1, mA l, mB l)]).map encP), mu) := cat
  unfold m__law_with_both
  (repeat' (first | (with_reducible assumption) | (with_reducible exact q1) | (with_reducible exact q2) | (with_reducible exact cat') | (with_reducible exact hlim _) | (with_reducible apply mVar_ok) | (with_reducible apply mC_ok) | (with_reducible apply mOp_ok) | (with_reducible apply mTest_ok) | (with_reducible apply mCons_ok) | (with_reducible apply mNil_ok) | (with_reducible apply mCall_ok) | (with_reducible apply mCallF_ok) | (with_reducible apply mSeq_eq) | (with_reducible apply seqNx) | (with_reducible apply seqRt) | (with_reducible apply mSkip_ok) | (with_reducible apply mRet_ok) | (with_reducible apply mRetN_ok) | (with_reducible apply mExpr_ok) | (with_reducible apply mAsg_ok) | (with_reducible apply mGName_ok) | (with_reducible apply mIfS_ok) | (with_reducible apply mTAnd_ok) | (with_reducible apply mTOr_ok) | (with_reducible apply mTNot_ok) | (with_reducible apply mAnd_ok) | (with_reducible apply mOr_ok) | (with_reducible apply mNot_ok) | (with_reducible apply mIf_ok) | (with_reducible apply mChain_ok) | (with_reducible apply bindO_ok) | (with_reducible apply mTup_ok) | (with_reducible apply mLst_ok) | (with_reducible apply mLst_okC) | (with_reducible apply mUn_ok) | (with_reducible apply mMet_ok) | (with_reducible apply mMetC_ok) | (with_reducible apply mGTup_ok) | (with_reducible apply mGCons_ok) | (with_reducible apply mGNil_ok) | (with_reducible apply mPar_ok) | (with_reducible apply mPar3_ok) | (with_reducible apply mSet_ok) | (with_reducible apply mSeqI_ok) | (with_reducible apply mRange1_ok) | (with_reducible apply mZip_ok) | (with_reducible apply mFrz_ok) | (with_reducible apply mFor_ok) | (with_reducible apply mCallV_ok) | (with_reducible apply gAddL) | (with_reducible apply gSumL) | (with_reducible apply gMax0) | (with_reducible apply gMax2) | (with_reducible apply gMaxP) | (with_reducible apply gAllL) | (with_reducible apply gTupL) | (with_reducible apply gTupT) | (with_reducible apply gListT) | (with_reducible apply gLenT) | (with_reducible apply gIsiT) | (with_reducible apply gIsNT) | (with_reducible apply gEqL0) | (with_reducible apply gNeL0) | (with_reducible apply gMul_ok) | (with_reducible apply gAdd_ok) | (with_reducible apply gSub_ok) | (with_reducible apply gEqI) | (with_reducible apply gNeI) | (with_reducible apply gLt_ok) | (with_reducible apply gLe_ok) | (with_reducible apply gGt_ok) | (with_reducible apply gGe_ok) | (with_reducible apply gInt_ok) | (with_reducible apply mulB_ok) | (with_reducible apply lim_ok) | ((with_reducible apply ite_t); (first | assumption | (exact decide_eq_true (by omega)) | (exact decide_eq_false (by omega)) | (simp only [Bool.not_eq_true', Bool.not_eq_false', Bool.not_not, decide_eq_false_iff_not, decide_eq_true_eq, Bool.false_eq_true, if_true, if_false, Bool.not_false, Bool.not_true, reduceIte]; omega) | exact rfl)) | ((with_reducible apply ite_f); (first | assumption | (exact decide_eq_true (by omega)) | (exact decide_eq_false (by omega)) | (simp only [Bool.not_eq_true', Bool.not_eq_false', Bool.not_not, decide_eq_false_iff_not, decide_eq_true_eq, Bool.false_eq_true, if_true, if_false, Bool.not_false, Bool.not_true, reduceIte]; omega) | exact rfl)) | (simp only [List.set_cons_succ, List.set_cons_zero, wipeD]; exact rfl) | (simp only [List.length_cons, List.length_nil, List.length_map, List.length_append]; omega) | (exact rfl) | (omega)))
end
end K22

namespace K22
open PySem L2 DL
abbrev Q := Int × Int × Int × Int × Int
abbrev enc5 (q : Q) : D := five q.1 q.2.1 q.2.2.1 q.2.2.2.1 q.2.2.2.2
abbrev kd2 (q : Q) : List Str := KD2 q.1 q.2.1 q.2.2.1 q.2.2.2.1 q.2.2.2.2
structure okQ (q : Q) : Prop where
  sm : Sm q.1 q.2.1 q.2.2.1 q.2.2.2.1 q.2.2.2.2
  ne : kd2 q ≠ []
  z : q.2.2.2.1 = 0 → q.1 = 0
  f : q.2.2.2.2 = q.2.2.2.1 → q.2.1 = q.1
def amtP (l : List Rn) : Q := (sE l, sR l, mI l, max (mA l) (mB l), mA l + mB l)
theorem okQ_of {l : List Rn} (h : okR l) (hb : BP l) (hl : l.length ≤ 1000) : okQ (amtP l) where
  sm := smP h hb hl
  ne := by
    show KD2 _ _ _ _ _ ≠ []
    unfold KD2
    rcases k12_of h with k | k <;> simp [amtP, k]
  z := zero_of h
  f := flat_of h
theorem both_ok {l : List Rn} (h : okR l) (hb : BP l) : okR (l ++ [(1, mA l, mB l)]) ∧ BP (l ++ [(1, mA l, mB l)]) ∧ ("one" : Str) ∈ kd2 (amtP (l ++ [(1, mA l, mB l)])) := by
  have a0 : 0 ≤ mA l := mx_nn
  have b0 : 0 ≤ mB l := mx_nn
  have ba : Builtin.Int.intBits (mA l) ≤ 2000 := mx_bits fun x hx => (hb x hx).2.1
  have bb : Builtin.Int.intBits (mB l) ≤ 2000 := mx_bits fun x hx => (hb x hx).2.2
  have h' : okR (l ++ [(1, mA l, mB l)]) := fun r hr => by
    rcases List.mem_append.mp hr with hr | hr
    · exact h r hr
    · rw [List.mem_singleton.mp hr]; exact ⟨by show (1 : Int) ≤ 1; decide, a0, b0⟩
  refine ⟨h', fun r hr => ?_, ?_⟩
  · rcases List.mem_append.mp hr with hr | hr
    · exact hb r hr
    · rw [List.mem_singleton.mp hr]; exact ⟨by show Builtin.Int.intBits 1 ≤ 100; decide, ba, bb⟩
  · have mem : ((1, mA l, mB l) : Rn) ∈ l ++ [(1, mA l, mB l)] := List.mem_append_right _ (List.mem_singleton.mpr rfl)
    have up : ∀ (g : Rn → Int) (v : Int), 0 ≤ v → (∀ x ∈ l ++ [(1, mA l, mB l)], g x ≤ v) → maxI (0 :: (l ++ [(1, mA l, mB l)]).map g) ≤ v := fun g v hv hx => by
      rcases List.mem_cons.mp (mx0 (l := (l ++ [(1, mA l, mB l)]).map g)).1 with e | m
      · rw [e]; exact hv
      · obtain ⟨x, hx', e⟩ := List.mem_map.mp m
        rw [← e]; exact hx x hx'
    have eA : mA l = mA (l ++ [(1, mA l, mB l)]) := Int.le_antisymm (mx_le (g := fun r : Rn => r.2.1) mem) (up _ _ a0 fun x hx => by
      rcases List.mem_append.mp hx with hx | hx
      · exact mx_le (g := fun r : Rn => r.2.1) hx
      · rw [List.mem_singleton.mp hx]; exact Int.le_refl _)
    have eB : mB l = mB (l ++ [(1, mA l, mB l)]) := Int.le_antisymm (mx_le (g := fun r : Rn => r.2.2) mem) (up _ _ b0 fun x hx => by
      rcases List.mem_append.mp hx with hx | hx
      · exact mx_le (g := fun r : Rn => r.2.2) hx
      · rw [List.mem_singleton.mp hx]; exact Int.le_refl _)
    have k := k1_of h' mem eA eB
    show ("one" : Str) ∈ KD2 _ _ _ _ _
    unfold KD2
    simp [amtP, k]
section
variable {A : Ad} {mu : Mu}
theorem kd2_ok (q : Q) : ∀ x ∈ kd2 q, PyData.strOk x = true := fun x hx => by
  rcases kd2_in x hx with rfl | rfl
  · exact so1
  · exact so2
theorem kd1_ok {e r i m t : Int} : ∀ x ∈ KD1 e r i m t, PyData.strOk x = true := fun x hx => by
  unfold KD1 at hx
  split at hx <;> simp at hx
  subst hx; exact so1
theorem deqL_str : ∀ l : List Str, deqL (l.map D.str) (l.map D.str) = true
  | [] => rfl
  | x :: l => by
    simp only [List.map_cons, deqL, deq, deqL_str l, decide_true, Bool.and_self]
theorem ne_self (q : Q) : gEq true mu (.lst ((kd2 q).map D.str)) (.lst ((kd2 q).map D.str)) = some (.bl false, mu) := by
  rw [gNeD ok_kd2 ok_kd2 rfl rfl]
  simp only [deq, deqL_str, Bool.not_true]
theorem b3_ok {n : Nat} {k : Int} {fs : List Q} {q : Q} (h : Draw n mu) (hn : n ≤ 700000000) (hf : ∀ q ∈ fs, okQ q) (hq : q ∈ fs) (hl : fs.length ≤ 10) (hk : 0 < k) (hkb : Builtin.Int.intBits k ≤ 1000) (x0 x2 x3 x7 x8 : Option D) :
    ∃ mu', Draw (n + 1) mu' ∧ b_law_3 A [x0, some (.cell 1), x2, x3, some (.lst (fs.map enc5)), some (.int k), some (enc5 q), x7, x8, none] mu = .nx [x0, some (.cell 1), x2, x3, some (.lst (fs.map enc5)), some (.int k), some (enc5 q), x7, x8, none] mu' := by
  have o := hf q hq
  obtain ⟨d, mu1, hd, e1, h1, f1⟩ := pick_ok (ds := fs.map enc5) h (by omega) (by have := List.length_pos_of_mem hq; simpa using this) (by simp; omega)
  obtain ⟨q', hq', rfl⟩ := List.mem_map.mp hd
  have o' := hf q' hq'
  have K := e_kinds2 (A := A) (mu := mu) o.sm.am
  have KS := e_kinds2 (A := A) (mu := mu) (o.sm.scale hk hkb)
  rw [kd2_scale hk] at KS
  have ns := ne_self (mu := mu) q
  obtain ⟨it, IT⟩ := e_items2 (A := A) (mu := mu) o.sm.am o.ne o.z o.f
  have AD := e_added (A := A) (mu := mu1) (e_kinds2 o.sm.am) (e_kinds2 o'.sm.am) (e_kinds2 (o.sm.add o'.sm)) (kd2_ok q) (kd2_ok q') (fun x hx => kd2_ok (_, _, _, _, _) x hx) kd2_add (by
    show (KD2 _ _ _ _ _).length ≤ 10
    unfold KD2
    split <;> split <;> simp)
  have q2 : q_law_2 A [x0, some (.cell 1), x2, x3, some (.lst (fs.map enc5)), some (.int k), some (enc5 q), x7, x8, none] mu = .ok (.lst [.int (k * q.1), .int (k * q.2.1), .int (k * q.2.2.1), .int (k * q.2.2.2.1), .int (k * q.2.2.2.2)]) mu := by
    unfold q_law_2
    rw [mLc_map (enc := D.int) (f := fun x => .int (k * x)) [q.1, q.2.1, q.2.2.1, q.2.2.2.1, q.2.2.2.2] (by (repeat' (first | (with_reducible assumption) | (with_reducible apply mVar_ok) | (with_reducible apply mC_ok) | (with_reducible apply mOp_ok) | (with_reducible apply mTest_ok) | (with_reducible apply mCons_ok) | (with_reducible apply mNil_ok) | (with_reducible apply mCall_ok) | (with_reducible apply mCallF_ok) | (with_reducible apply mSeq_eq) | (with_reducible apply seqNx) | (with_reducible apply seqRt) | (with_reducible apply mSkip_ok) | (with_reducible apply mRet_ok) | (with_reducible apply mRetN_ok) | (with_reducible apply mExpr_ok) | (with_reducible apply mAsg_ok) | (with_reducible apply mGName_ok) | (with_reducible apply mIfS_ok) | (with_reducible apply mTAnd_ok) | (with_reducible apply mTOr_ok) | (with_reducible apply mTNot_ok) | (with_reducible apply mAnd_ok) | (with_reducible apply mOr_ok) | (with_reducible apply mNot_ok) | (with_reducible apply mIf_ok) | (with_reducible apply mChain_ok) | (with_reducible apply bindO_ok) | (with_reducible apply mTup_ok) | (with_reducible apply mLst_ok) | (with_reducible apply mLst_okC) | (with_reducible apply mUn_ok) | (with_reducible apply mMet_ok) | (with_reducible apply mMetC_ok) | (with_reducible apply mGTup_ok) | (with_reducible apply mGCons_ok) | (with_reducible apply mGNil_ok) | (with_reducible apply mPar_ok) | (with_reducible apply mPar3_ok) | (with_reducible apply mSet_ok) | (with_reducible apply mSeqI_ok) | (with_reducible apply mRange1_ok) | (with_reducible apply mZip_ok) | (with_reducible apply mFrz_ok) | (with_reducible apply mFor_ok) | (with_reducible apply mCallV_ok) | (with_reducible apply gAddL) | (with_reducible apply gSumL) | (with_reducible apply gMax0) | (with_reducible apply gMax2) | (with_reducible apply gMaxP) | (with_reducible apply gAllL) | (with_reducible apply gTupL) | (with_reducible apply gTupT) | (with_reducible apply gListT) | (with_reducible apply gLenT) | (with_reducible apply gIsiT) | (with_reducible apply gIsNT) | (with_reducible apply gEqL0) | (with_reducible apply gNeL0) | (with_reducible apply gMul_ok) | (with_reducible apply gAdd_ok) | (with_reducible apply gSub_ok) | (with_reducible apply gEqI) | (with_reducible apply gNeI) | (with_reducible apply gLt_ok) | (with_reducible apply gLe_ok) | (with_reducible apply gGt_ok) | (with_reducible apply gGe_ok) | (with_reducible apply gInt_ok) | (with_reducible apply mulB_ok) | (with_reducible apply lim_ok) | ((with_reducible apply ite_t); (first | assumption | (exact decide_eq_true (by omega)) | (exact decide_eq_false (by omega)) | (simp only [Bool.not_eq_true', Bool.not_eq_false', Bool.not_not, decide_eq_false_iff_not, decide_eq_true_eq, Bool.false_eq_true, if_true, if_false, Bool.not_false, Bool.not_true, reduceIte]; omega) | exact rfl)) | ((with_reducible apply ite_f); (first | assumption | (exact decide_eq_true (by omega)) | (exact decide_eq_false (by omega)) | (simp only [Bool.not_eq_true', Bool.not_eq_false', Bool.not_not, decide_eq_false_iff_not, decide_eq_true_eq, Bool.false_eq_true, if_true, if_false, Bool.not_false, Bool.not_true, reduceIte]; omega) | exact rfl)) | (simp only [List.set_cons_succ, List.set_cons_zero, wipeD]; exact rfl) | (simp only [List.length_cons, List.length_nil, List.length_map, List.length_append]; omega) | (exact rfl) | (omega)))) ?_ (by simp)]
    · rfl
    · intro x hx
      have hx0 : Builtin.Int.intBits x ≤ 10000000 := by
        have a := o.sm.am
        have h1 := a.be; have h2 := a.br; have h3 := a.bi; have h4 := a.bm; have h5 := a.bt
        simp only [List.mem_cons, List.not_mem_nil, or_false] at hx
        rcases hx with rfl | rfl | rfl | rfl | rfl <;> assumption
      have hm : mulB k x = true := mulB_ok (by omega) (by omega)
      refine ⟨[x0, some (.cell 1), x2, x3, some (.lst (fs.map enc5)), some (.int k), some (enc5 q), x7, x8, some (.int x)], ?_, rfl, ?_⟩
      · (repeat' (first | (with_reducible assumption) | (with_reducible apply mVar_ok) | (with_reducible apply mC_ok) | (with_reducible apply mOp_ok) | (with_reducible apply mTest_ok) | (with_reducible apply mCons_ok) | (with_reducible apply mNil_ok) | (with_reducible apply mCall_ok) | (with_reducible apply mCallF_ok) | (with_reducible apply mSeq_eq) | (with_reducible apply seqNx) | (with_reducible apply seqRt) | (with_reducible apply mSkip_ok) | (with_reducible apply mRet_ok) | (with_reducible apply mRetN_ok) | (with_reducible apply mExpr_ok) | (with_reducible apply mAsg_ok) | (with_reducible apply mGName_ok) | (with_reducible apply mIfS_ok) | (with_reducible apply mTAnd_ok) | (with_reducible apply mTOr_ok) | (with_reducible apply mTNot_ok) | (with_reducible apply mAnd_ok) | (with_reducible apply mOr_ok) | (with_reducible apply mNot_ok) | (with_reducible apply mIf_ok) | (with_reducible apply mChain_ok) | (with_reducible apply bindO_ok) | (with_reducible apply mTup_ok) | (with_reducible apply mLst_ok) | (with_reducible apply mLst_okC) | (with_reducible apply mUn_ok) | (with_reducible apply mMet_ok) | (with_reducible apply mMetC_ok) | (with_reducible apply mGTup_ok) | (with_reducible apply mGCons_ok) | (with_reducible apply mGNil_ok) | (with_reducible apply mPar_ok) | (with_reducible apply mPar3_ok) | (with_reducible apply mSet_ok) | (with_reducible apply mSeqI_ok) | (with_reducible apply mRange1_ok) | (with_reducible apply mZip_ok) | (with_reducible apply mFrz_ok) | (with_reducible apply mFor_ok) | (with_reducible apply mCallV_ok) | (with_reducible apply gAddL) | (with_reducible apply gSumL) | (with_reducible apply gMax0) | (with_reducible apply gMax2) | (with_reducible apply gMaxP) | (with_reducible apply gAllL) | (with_reducible apply gTupL) | (with_reducible apply gTupT) | (with_reducible apply gListT) | (with_reducible apply gLenT) | (with_reducible apply gIsiT) | (with_reducible apply gIsNT) | (with_reducible apply gEqL0) | (with_reducible apply gNeL0) | (with_reducible apply gMul_ok) | (with_reducible apply gAdd_ok) | (with_reducible apply gSub_ok) | (with_reducible apply gEqI) | (with_reducible apply gNeI) | (with_reducible apply gLt_ok) | (with_reducible apply gLe_ok) | (with_reducible apply gGt_ok) | (with_reducible apply gGe_ok) | (with_reducible apply gInt_ok) | (with_reducible apply mulB_ok) | (with_reducible apply lim_ok) | ((with_reducible apply ite_t); (first | assumption | (exact decide_eq_true (by omega)) | (exact decide_eq_false (by omega)) | (simp only [Bool.not_eq_true', Bool.not_eq_false', Bool.not_not, decide_eq_false_iff_not, decide_eq_true_eq, Bool.false_eq_true, if_true, if_false, Bool.not_false, Bool.not_true, reduceIte]; omega) | exact rfl)) | ((with_reducible apply ite_f); (first | assumption | (exact decide_eq_true (by omega)) | (exact decide_eq_false (by omega)) | (simp only [Bool.not_eq_true', Bool.not_eq_false', Bool.not_not, decide_eq_false_iff_not, decide_eq_true_eq, Bool.false_eq_true, if_true, if_false, Bool.not_false, Bool.not_true, reduceIte]; omega) | exact rfl)) | (simp only [List.set_cons_succ, List.set_cons_zero, wipeD]; exact rfl) | (simp only [List.length_cons, List.length_nil, List.length_map, List.length_append]; omega) | (exact rfl) | (omega)))
      · (repeat' (first | (with_reducible assumption) | (with_reducible apply mVar_ok) | (with_reducible apply mC_ok) | (with_reducible apply mOp_ok) | (with_reducible apply mTest_ok) | (with_reducible apply mCons_ok) | (with_reducible apply mNil_ok) | (with_reducible apply mCall_ok) | (with_reducible apply mCallF_ok) | (with_reducible apply mSeq_eq) | (with_reducible apply seqNx) | (with_reducible apply seqRt) | (with_reducible apply mSkip_ok) | (with_reducible apply mRet_ok) | (with_reducible apply mRetN_ok) | (with_reducible apply mExpr_ok) | (with_reducible apply mAsg_ok) | (with_reducible apply mGName_ok) | (with_reducible apply mIfS_ok) | (with_reducible apply mTAnd_ok) | (with_reducible apply mTOr_ok) | (with_reducible apply mTNot_ok) | (with_reducible apply mAnd_ok) | (with_reducible apply mOr_ok) | (with_reducible apply mNot_ok) | (with_reducible apply mIf_ok) | (with_reducible apply mChain_ok) | (with_reducible apply bindO_ok) | (with_reducible apply mTup_ok) | (with_reducible apply mLst_ok) | (with_reducible apply mLst_okC) | (with_reducible apply mUn_ok) | (with_reducible apply mMet_ok) | (with_reducible apply mMetC_ok) | (with_reducible apply mGTup_ok) | (with_reducible apply mGCons_ok) | (with_reducible apply mGNil_ok) | (with_reducible apply mPar_ok) | (with_reducible apply mPar3_ok) | (with_reducible apply mSet_ok) | (with_reducible apply mSeqI_ok) | (with_reducible apply mRange1_ok) | (with_reducible apply mZip_ok) | (with_reducible apply mFrz_ok) | (with_reducible apply mFor_ok) | (with_reducible apply mCallV_ok) | (with_reducible apply gAddL) | (with_reducible apply gSumL) | (with_reducible apply gMax0) | (with_reducible apply gMax2) | (with_reducible apply gMaxP) | (with_reducible apply gAllL) | (with_reducible apply gTupL) | (with_reducible apply gTupT) | (with_reducible apply gListT) | (with_reducible apply gLenT) | (with_reducible apply gIsiT) | (with_reducible apply gIsNT) | (with_reducible apply gEqL0) | (with_reducible apply gNeL0) | (with_reducible apply gMul_ok) | (with_reducible apply gAdd_ok) | (with_reducible apply gSub_ok) | (with_reducible apply gEqI) | (with_reducible apply gNeI) | (with_reducible apply gLt_ok) | (with_reducible apply gLe_ok) | (with_reducible apply gGt_ok) | (with_reducible apply gGe_ok) | (with_reducible apply gInt_ok) | (with_reducible apply mulB_ok) | (with_reducible apply lim_ok) | ((with_reducible apply ite_t); (first | assumption | (exact decide_eq_true (by omega)) | (exact decide_eq_false (by omega)) | (simp only [Bool.not_eq_true', Bool.not_eq_false', Bool.not_not, decide_eq_false_iff_not, decide_eq_true_eq, Bool.false_eq_true, if_true, if_false, Bool.not_false, Bool.not_true, reduceIte]; omega) | exact rfl)) | ((with_reducible apply ite_f); (first | assumption | (exact decide_eq_true (by omega)) | (exact decide_eq_false (by omega)) | (simp only [Bool.not_eq_true', Bool.not_eq_false', Bool.not_not, decide_eq_false_iff_not, decide_eq_true_eq, Bool.false_eq_true, if_true, if_false, Bool.not_false, Bool.not_true, reduceIte]; omega) | exact rfl)) | (simp only [List.set_cons_succ, List.set_cons_zero, wipeD]; exact rfl) | (simp only [List.length_cons, List.length_nil, List.length_map, List.length_append]; omega) | (exact rfl) | (omega)))
  refine ⟨mu1, h1, ?_⟩
  unfold b_law_3
  rw [e_pick]
  (repeat' (first | (with_reducible assumption) | (with_reducible exact q2) | (with_reducible exact IT) | (with_reducible exact AD) | (with_reducible exact e1) | (with_reducible apply mVar_ok) | (with_reducible apply mC_ok) | (with_reducible apply mOp_ok) | (with_reducible apply mTest_ok) | (with_reducible apply mCons_ok) | (with_reducible apply mNil_ok) | (with_reducible apply mCall_ok) | (with_reducible apply mCallF_ok) | (with_reducible apply mSeq_eq) | (with_reducible apply seqNx) | (with_reducible apply seqRt) | (with_reducible apply mSkip_ok) | (with_reducible apply mRet_ok) | (with_reducible apply mRetN_ok) | (with_reducible apply mExpr_ok) | (with_reducible apply mAsg_ok) | (with_reducible apply mGName_ok) | (with_reducible apply mIfS_ok) | (with_reducible apply mTAnd_ok) | (with_reducible apply mTOr_ok) | (with_reducible apply mTNot_ok) | (with_reducible apply mAnd_ok) | (with_reducible apply mOr_ok) | (with_reducible apply mNot_ok) | (with_reducible apply mIf_ok) | (with_reducible apply mChain_ok) | (with_reducible apply bindO_ok) | (with_reducible apply mTup_ok) | (with_reducible apply mLst_ok) | (with_reducible apply mLst_okC) | (with_reducible apply mUn_ok) | (with_reducible apply mMet_ok) | (with_reducible apply mMetC_ok) | (with_reducible apply mGTup_ok) | (with_reducible apply mGCons_ok) | (with_reducible apply mGNil_ok) | (with_reducible apply mPar_ok) | (with_reducible apply mPar3_ok) | (with_reducible apply mSet_ok) | (with_reducible apply mSeqI_ok) | (with_reducible apply mRange1_ok) | (with_reducible apply mZip_ok) | (with_reducible apply mFrz_ok) | (with_reducible apply mFor_ok) | (with_reducible apply mCallV_ok) | (with_reducible apply gAddL) | (with_reducible apply gSumL) | (with_reducible apply gMax0) | (with_reducible apply gMax2) | (with_reducible apply gMaxP) | (with_reducible apply gAllL) | (with_reducible apply gTupL) | (with_reducible apply gTupT) | (with_reducible apply gListT) | (with_reducible apply gLenT) | (with_reducible apply gIsiT) | (with_reducible apply gIsNT) | (with_reducible apply gEqL0) | (with_reducible apply gNeL0) | (with_reducible apply gMul_ok) | (with_reducible apply gAdd_ok) | (with_reducible apply gSub_ok) | (with_reducible apply gEqI) | (with_reducible apply gNeI) | (with_reducible apply gLt_ok) | (with_reducible apply gLe_ok) | (with_reducible apply gGt_ok) | (with_reducible apply gGe_ok) | (with_reducible apply gInt_ok) | (with_reducible apply mulB_ok) | (with_reducible apply lim_ok) | ((with_reducible apply ite_t); (first | assumption | (exact decide_eq_true (by omega)) | (exact decide_eq_false (by omega)) | (simp only [Bool.not_eq_true', Bool.not_eq_false', Bool.not_not, decide_eq_false_iff_not, decide_eq_true_eq, Bool.false_eq_true, if_true, if_false, Bool.not_false, Bool.not_true, reduceIte]; omega) | exact rfl)) | ((with_reducible apply ite_f); (first | assumption | (exact decide_eq_true (by omega)) | (exact decide_eq_false (by omega)) | (simp only [Bool.not_eq_true', Bool.not_eq_false', Bool.not_not, decide_eq_false_iff_not, decide_eq_true_eq, Bool.false_eq_true, if_true, if_false, Bool.not_false, Bool.not_true, reduceIte]; omega) | exact rfl)) | (simp only [List.set_cons_succ, List.set_cons_zero, wipeD]; exact rfl) | (simp only [List.length_cons, List.length_nil, List.length_map, List.length_append]; omega) | (exact rfl) | (omega)))
theorem q1_ok {fs : List Q} (hf : ∀ q ∈ fs, okQ q) (hl : fs.length ≤ 10) (x0 x1 x2 x3 x5 x6 x7 x8 : Option D) : q_law_1 A [x0, x1, x2, x3, some (.lst (fs.map enc5)), x5, x6, x7, x8, none] mu = .ok (.lst []) mu := by
  unfold q_law_1
  rw [mLc_filter (enc := enc5) (p := fun _ => false) (f := enc5) fs ?_ ?_ (by omega)]
  · rw [List.filter_eq_nil_iff.mpr (fun _ _ => by simp)]; rfl
  · (repeat' (first | (with_reducible assumption) | (with_reducible apply mVar_ok) | (with_reducible apply mC_ok) | (with_reducible apply mOp_ok) | (with_reducible apply mTest_ok) | (with_reducible apply mCons_ok) | (with_reducible apply mNil_ok) | (with_reducible apply mCall_ok) | (with_reducible apply mCallF_ok) | (with_reducible apply mSeq_eq) | (with_reducible apply seqNx) | (with_reducible apply seqRt) | (with_reducible apply mSkip_ok) | (with_reducible apply mRet_ok) | (with_reducible apply mRetN_ok) | (with_reducible apply mExpr_ok) | (with_reducible apply mAsg_ok) | (with_reducible apply mGName_ok) | (with_reducible apply mIfS_ok) | (with_reducible apply mTAnd_ok) | (with_reducible apply mTOr_ok) | (with_reducible apply mTNot_ok) | (with_reducible apply mAnd_ok) | (with_reducible apply mOr_ok) | (with_reducible apply mNot_ok) | (with_reducible apply mIf_ok) | (with_reducible apply mChain_ok) | (with_reducible apply bindO_ok) | (with_reducible apply mTup_ok) | (with_reducible apply mLst_ok) | (with_reducible apply mLst_okC) | (with_reducible apply mUn_ok) | (with_reducible apply mMet_ok) | (with_reducible apply mMetC_ok) | (with_reducible apply mGTup_ok) | (with_reducible apply mGCons_ok) | (with_reducible apply mGNil_ok) | (with_reducible apply mPar_ok) | (with_reducible apply mPar3_ok) | (with_reducible apply mSet_ok) | (with_reducible apply mSeqI_ok) | (with_reducible apply mRange1_ok) | (with_reducible apply mZip_ok) | (with_reducible apply mFrz_ok) | (with_reducible apply mFor_ok) | (with_reducible apply mCallV_ok) | (with_reducible apply gAddL) | (with_reducible apply gSumL) | (with_reducible apply gMax0) | (with_reducible apply gMax2) | (with_reducible apply gMaxP) | (with_reducible apply gAllL) | (with_reducible apply gTupL) | (with_reducible apply gTupT) | (with_reducible apply gListT) | (with_reducible apply gLenT) | (with_reducible apply gIsiT) | (with_reducible apply gIsNT) | (with_reducible apply gEqL0) | (with_reducible apply gNeL0) | (with_reducible apply gMul_ok) | (with_reducible apply gAdd_ok) | (with_reducible apply gSub_ok) | (with_reducible apply gEqI) | (with_reducible apply gNeI) | (with_reducible apply gLt_ok) | (with_reducible apply gLe_ok) | (with_reducible apply gGt_ok) | (with_reducible apply gGe_ok) | (with_reducible apply gInt_ok) | (with_reducible apply mulB_ok) | (with_reducible apply lim_ok) | ((with_reducible apply ite_t); (first | assumption | (exact decide_eq_true (by omega)) | (exact decide_eq_false (by omega)) | (simp only [Bool.not_eq_true', Bool.not_eq_false', Bool.not_not, decide_eq_false_iff_not, decide_eq_true_eq, Bool.false_eq_true, if_true, if_false, Bool.not_false, Bool.not_true, reduceIte]; omega) | exact rfl)) | ((with_reducible apply ite_f); (first | assumption | (exact decide_eq_true (by omega)) | (exact decide_eq_false (by omega)) | (simp only [Bool.not_eq_true', Bool.not_eq_false', Bool.not_not, decide_eq_false_iff_not, decide_eq_true_eq, Bool.false_eq_true, if_true, if_false, Bool.not_false, Bool.not_true, reduceIte]; omega) | exact rfl)) | (simp only [List.set_cons_succ, List.set_cons_zero, wipeD]; exact rfl) | (simp only [List.length_cons, List.length_nil, List.length_map, List.length_append]; omega) | (exact rfl) | (omega)))
  · intro q hq
    have o := hf q hq
    have K := e_kinds2 (A := A) (mu := mu) o.sm.am
    have hE := gEqL0 (mu := mu) (ok_kd2 (e := q.1) (r := q.2.1) (i := q.2.2.1) (m := q.2.2.2.1) (t := q.2.2.2.2))
    have he : ((KD2 q.1 q.2.1 q.2.2.1 q.2.2.2.1 q.2.2.2.2).map D.str).isEmpty = false := by
      have := o.ne
      cases e : KD2 q.1 q.2.1 q.2.2.1 q.2.2.2.1 q.2.2.2.2 with
      | nil => exact absurd e this
      | cons _ _ => rfl
    rw [he] at hE
    obtain ⟨c, hc⟩ : ∃ c, gEq true mu (enc5 q) (.tup [.int 0, .int 0, .int 0, .int 0, .int 0]) = some (.bl c, mu) := ⟨_, gNeD rfl rfl rfl rfl⟩
    have hm : gMul false mu (.tup [.int 0]) (.int 5) = some (.tup [.int 0, .int 0, .int 0, .int 0, .int 0], mu) := by kernel_rfl
    refine ⟨[x0, x1, x2, x3, some (.lst (fs.map enc5)), x5, some (enc5 q), x7, x8, none], ?_, ?_, fun z => by cases z⟩
    · (repeat' (first | (with_reducible assumption) | (with_reducible apply mVar_ok) | (with_reducible apply mC_ok) | (with_reducible apply mOp_ok) | (with_reducible apply mTest_ok) | (with_reducible apply mCons_ok) | (with_reducible apply mNil_ok) | (with_reducible apply mCall_ok) | (with_reducible apply mCallF_ok) | (with_reducible apply mSeq_eq) | (with_reducible apply seqNx) | (with_reducible apply seqRt) | (with_reducible apply mSkip_ok) | (with_reducible apply mRet_ok) | (with_reducible apply mRetN_ok) | (with_reducible apply mExpr_ok) | (with_reducible apply mAsg_ok) | (with_reducible apply mGName_ok) | (with_reducible apply mIfS_ok) | (with_reducible apply mTAnd_ok) | (with_reducible apply mTOr_ok) | (with_reducible apply mTNot_ok) | (with_reducible apply mAnd_ok) | (with_reducible apply mOr_ok) | (with_reducible apply mNot_ok) | (with_reducible apply mIf_ok) | (with_reducible apply mChain_ok) | (with_reducible apply bindO_ok) | (with_reducible apply mTup_ok) | (with_reducible apply mLst_ok) | (with_reducible apply mLst_okC) | (with_reducible apply mUn_ok) | (with_reducible apply mMet_ok) | (with_reducible apply mMetC_ok) | (with_reducible apply mGTup_ok) | (with_reducible apply mGCons_ok) | (with_reducible apply mGNil_ok) | (with_reducible apply mPar_ok) | (with_reducible apply mPar3_ok) | (with_reducible apply mSet_ok) | (with_reducible apply mSeqI_ok) | (with_reducible apply mRange1_ok) | (with_reducible apply mZip_ok) | (with_reducible apply mFrz_ok) | (with_reducible apply mFor_ok) | (with_reducible apply mCallV_ok) | (with_reducible apply gAddL) | (with_reducible apply gSumL) | (with_reducible apply gMax0) | (with_reducible apply gMax2) | (with_reducible apply gMaxP) | (with_reducible apply gAllL) | (with_reducible apply gTupL) | (with_reducible apply gTupT) | (with_reducible apply gListT) | (with_reducible apply gLenT) | (with_reducible apply gIsiT) | (with_reducible apply gIsNT) | (with_reducible apply gEqL0) | (with_reducible apply gNeL0) | (with_reducible apply gMul_ok) | (with_reducible apply gAdd_ok) | (with_reducible apply gSub_ok) | (with_reducible apply gEqI) | (with_reducible apply gNeI) | (with_reducible apply gLt_ok) | (with_reducible apply gLe_ok) | (with_reducible apply gGt_ok) | (with_reducible apply gGe_ok) | (with_reducible apply gInt_ok) | (with_reducible apply mulB_ok) | (with_reducible apply lim_ok) | ((with_reducible apply ite_t); (first | assumption | (exact decide_eq_true (by omega)) | (exact decide_eq_false (by omega)) | (simp only [Bool.not_eq_true', Bool.not_eq_false', Bool.not_not, decide_eq_false_iff_not, decide_eq_true_eq, Bool.false_eq_true, if_true, if_false, Bool.not_false, Bool.not_true, reduceIte]; omega) | exact rfl)) | ((with_reducible apply ite_f); (first | assumption | (exact decide_eq_true (by omega)) | (exact decide_eq_false (by omega)) | (simp only [Bool.not_eq_true', Bool.not_eq_false', Bool.not_not, decide_eq_false_iff_not, decide_eq_true_eq, Bool.false_eq_true, if_true, if_false, Bool.not_false, Bool.not_true, reduceIte]; omega) | exact rfl)) | (simp only [List.set_cons_succ, List.set_cons_zero, wipeD]; exact rfl) | (simp only [List.length_cons, List.length_nil, List.length_map, List.length_append]; omega) | (exact rfl) | (omega)))
    · refine mTAnd_ok (c := c) (m1 := mu) ?_ ?_
      · (repeat' (first | (with_reducible assumption) | (with_reducible exact hm) | (with_reducible exact hc) | (with_reducible apply mVar_ok) | (with_reducible apply mC_ok) | (with_reducible apply mOp_ok) | (with_reducible apply mTest_ok) | (with_reducible apply mCons_ok) | (with_reducible apply mNil_ok) | (with_reducible apply mCall_ok) | (with_reducible apply mCallF_ok) | (with_reducible apply mSeq_eq) | (with_reducible apply seqNx) | (with_reducible apply seqRt) | (with_reducible apply mSkip_ok) | (with_reducible apply mRet_ok) | (with_reducible apply mRetN_ok) | (with_reducible apply mExpr_ok) | (with_reducible apply mAsg_ok) | (with_reducible apply mGName_ok) | (with_reducible apply mIfS_ok) | (with_reducible apply mTAnd_ok) | (with_reducible apply mTOr_ok) | (with_reducible apply mTNot_ok) | (with_reducible apply mAnd_ok) | (with_reducible apply mOr_ok) | (with_reducible apply mNot_ok) | (with_reducible apply mIf_ok) | (with_reducible apply mChain_ok) | (with_reducible apply bindO_ok) | (with_reducible apply mTup_ok) | (with_reducible apply mLst_ok) | (with_reducible apply mLst_okC) | (with_reducible apply mUn_ok) | (with_reducible apply mMet_ok) | (with_reducible apply mMetC_ok) | (with_reducible apply mGTup_ok) | (with_reducible apply mGCons_ok) | (with_reducible apply mGNil_ok) | (with_reducible apply mPar_ok) | (with_reducible apply mPar3_ok) | (with_reducible apply mSet_ok) | (with_reducible apply mSeqI_ok) | (with_reducible apply mRange1_ok) | (with_reducible apply mZip_ok) | (with_reducible apply mFrz_ok) | (with_reducible apply mFor_ok) | (with_reducible apply mCallV_ok) | (with_reducible apply gAddL) | (with_reducible apply gSumL) | (with_reducible apply gMax0) | (with_reducible apply gMax2) | (with_reducible apply gMaxP) | (with_reducible apply gAllL) | (with_reducible apply gTupL) | (with_reducible apply gTupT) | (with_reducible apply gListT) | (with_reducible apply gLenT) | (with_reducible apply gIsiT) | (with_reducible apply gIsNT) | (with_reducible apply gEqL0) | (with_reducible apply gNeL0) | (with_reducible apply gMul_ok) | (with_reducible apply gAdd_ok) | (with_reducible apply gSub_ok) | (with_reducible apply gEqI) | (with_reducible apply gNeI) | (with_reducible apply gLt_ok) | (with_reducible apply gLe_ok) | (with_reducible apply gGt_ok) | (with_reducible apply gGe_ok) | (with_reducible apply gInt_ok) | (with_reducible apply mulB_ok) | (with_reducible apply lim_ok) | ((with_reducible apply ite_t); (first | assumption | (exact decide_eq_true (by omega)) | (exact decide_eq_false (by omega)) | (simp only [Bool.not_eq_true', Bool.not_eq_false', Bool.not_not, decide_eq_false_iff_not, decide_eq_true_eq, Bool.false_eq_true, if_true, if_false, Bool.not_false, Bool.not_true, reduceIte]; omega) | exact rfl)) | ((with_reducible apply ite_f); (first | assumption | (exact decide_eq_true (by omega)) | (exact decide_eq_false (by omega)) | (simp only [Bool.not_eq_true', Bool.not_eq_false', Bool.not_not, decide_eq_false_iff_not, decide_eq_true_eq, Bool.false_eq_true, if_true, if_false, Bool.not_false, Bool.not_true, reduceIte]; omega) | exact rfl)) | (simp only [List.set_cons_succ, List.set_cons_zero, wipeD]; exact rfl) | (simp only [List.length_cons, List.length_nil, List.length_map, List.length_append]; omega) | (exact rfl) | (omega)))
      · cases c with
        | false => rfl
        | true => (repeat' (first | (with_reducible assumption) | (with_reducible exact hE) | (with_reducible apply mVar_ok) | (with_reducible apply mC_ok) | (with_reducible apply mOp_ok) | (with_reducible apply mTest_ok) | (with_reducible apply mCons_ok) | (with_reducible apply mNil_ok) | (with_reducible apply mCall_ok) | (with_reducible apply mCallF_ok) | (with_reducible apply mSeq_eq) | (with_reducible apply seqNx) | (with_reducible apply seqRt) | (with_reducible apply mSkip_ok) | (with_reducible apply mRet_ok) | (with_reducible apply mRetN_ok) | (with_reducible apply mExpr_ok) | (with_reducible apply mAsg_ok) | (with_reducible apply mGName_ok) | (with_reducible apply mIfS_ok) | (with_reducible apply mTAnd_ok) | (with_reducible apply mTOr_ok) | (with_reducible apply mTNot_ok) | (with_reducible apply mAnd_ok) | (with_reducible apply mOr_ok) | (with_reducible apply mNot_ok) | (with_reducible apply mIf_ok) | (with_reducible apply mChain_ok) | (with_reducible apply bindO_ok) | (with_reducible apply mTup_ok) | (with_reducible apply mLst_ok) | (with_reducible apply mLst_okC) | (with_reducible apply mUn_ok) | (with_reducible apply mMet_ok) | (with_reducible apply mMetC_ok) | (with_reducible apply mGTup_ok) | (with_reducible apply mGCons_ok) | (with_reducible apply mGNil_ok) | (with_reducible apply mPar_ok) | (with_reducible apply mPar3_ok) | (with_reducible apply mSet_ok) | (with_reducible apply mSeqI_ok) | (with_reducible apply mRange1_ok) | (with_reducible apply mZip_ok) | (with_reducible apply mFrz_ok) | (with_reducible apply mFor_ok) | (with_reducible apply mCallV_ok) | (with_reducible apply gAddL) | (with_reducible apply gSumL) | (with_reducible apply gMax0) | (with_reducible apply gMax2) | (with_reducible apply gMaxP) | (with_reducible apply gAllL) | (with_reducible apply gTupL) | (with_reducible apply gTupT) | (with_reducible apply gListT) | (with_reducible apply gLenT) | (with_reducible apply gIsiT) | (with_reducible apply gIsNT) | (with_reducible apply gEqL0) | (with_reducible apply gNeL0) | (with_reducible apply gMul_ok) | (with_reducible apply gAdd_ok) | (with_reducible apply gSub_ok) | (with_reducible apply gEqI) | (with_reducible apply gNeI) | (with_reducible apply gLt_ok) | (with_reducible apply gLe_ok) | (with_reducible apply gGt_ok) | (with_reducible apply gGe_ok) | (with_reducible apply gInt_ok) | (with_reducible apply mulB_ok) | (with_reducible apply lim_ok) | ((with_reducible apply ite_t); (first | assumption | (exact decide_eq_true (by omega)) | (exact decide_eq_false (by omega)) | (simp only [Bool.not_eq_true', Bool.not_eq_false', Bool.not_not, decide_eq_false_iff_not, decide_eq_true_eq, Bool.false_eq_true, if_true, if_false, Bool.not_false, Bool.not_true, reduceIte]; omega) | exact rfl)) | ((with_reducible apply ite_f); (first | assumption | (exact decide_eq_true (by omega)) | (exact decide_eq_false (by omega)) | (simp only [Bool.not_eq_true', Bool.not_eq_false', Bool.not_not, decide_eq_false_iff_not, decide_eq_true_eq, Bool.false_eq_true, if_true, if_false, Bool.not_false, Bool.not_true, reduceIte]; omega) | exact rfl)) | (simp only [List.set_cons_succ, List.set_cons_zero, wipeD]; exact rfl) | (simp only [List.length_cons, List.length_nil, List.length_map, List.length_append]; omega) | (exact rfl) | (omega)))
theorem ne_one : gEq true mu (.lst [.str "one"]) (.lst [.str "one"]) = some (.bl false, mu) := by
  have h := deqL_str ["one"]
  have g := gNeD (mu := mu) (x := .lst (([ "one" ] : List Str).map D.str)) (y := .lst (([ "one" ] : List Str).map D.str)) (okStrs _ (by simp [so1])) (okStrs _ (by simp [so1])) rfl rfl
  simp only [deq, h, Bool.not_true] at g
  exact g
theorem b4_ok {n : Nat} (h : Draw n mu) (hn : n ≤ 500000000) (ns : List Int) (x2 x3 x4 x5 x6 x7 x8 : Option D) : ∃ (mu' : Mu) (y3 y4 y5 y6 y7 y8 : Option D), Draw (n + 1000) mu' ∧
    b_law_4 A [some (scriptD ns), some (.cell 1), x2, x3, x4, x5, x6, x7, x8, none] mu = .nx [some (scriptD ns), some (.cell 1), x2, y3, y4, y5, y6, y7, y8, none] mu' := by
  obtain ⟨pl, mu1, o0, b0, l0, h1, e1⟩ := some_N (A := A) h (by omega)
  obtain ⟨la, mu2, oa, ba, ll, h2, e2⟩ := some_P (A := A) h1 (by omega)
  obtain ⟨lb, mu3, ob, bb, lm, h3, e3⟩ := some_P (A := A) h2 (by omega)
  have s0 := smN o0 b0 (by omega)
  have nat := nat_of o0
  have hB1 : B1 (sN pl) (sN pl) (mN pl) (mN pl) (mN pl) = true := by rw [b1_iff]; omega
  have aN : ∀ mu, d_amounts A [.lst (pl.map encN)] mu = .ok (five (sN pl) (sN pl) (mN pl) (mN pl) (mN pl)) mu := fun mu => e_amountsN pl o0 b0 (by omega)
  have kN : ∀ mu, d_kinds A [.int 1, five (sN pl) (sN pl) (mN pl) (mN pl) (mN pl)] mu = .ok (.lst [.str "one"]) mu := fun mu => by
    have := e_kinds1 (A := A) (mu := mu) s0.am
    unfold KD1 at this
    rw [if_pos hB1] at this
    exact this
  have oc : okR (la ++ lb) := fun r hr => (List.mem_append.mp hr).elim (oa r) (ob r)
  have bc : BP (la ++ lb) := fun r hr => (List.mem_append.mp hr).elim (ba r) (bb r)
  obtain ⟨od, bd, one⟩ := both_ok oa ba
  let lc := la ++ lb
  let ld := la ++ [(1, mA la, mB la)]
  have lenc : lc.length ≤ 60 := by simp only [lc, List.length_append]; omega
  have lend : ld.length ≤ 60 := by simp only [ld, List.length_append, List.length_singleton]; omega
  have aA := e_amountsP (A := A) (mu := mu3) la oa ba (by omega)
  have aB := e_amountsP (A := A) (mu := mu3) lb ob bb (by omega)
  have aC := e_amountsP (A := A) (mu := mu3) lc oc bc (by omega)
  have aD := e_amountsP (A := A) (mu := mu3) ld od bd (by omega)
  have eb := e_both (A := A) (mu := mu3) la (by omega)
  let fs : List Q := [amtP la, amtP lb, amtP lc, amtP ld]
  have hfs : ∀ q ∈ fs, okQ q := by
    intro q hq
    simp only [fs, List.mem_cons, List.not_mem_nil, or_false] at hq
    rcases hq with rfl | rfl | rfl | rfl
    · exact okQ_of oa ba (by omega)
    · exact okQ_of ob bb (by omega)
    · exact okQ_of oc bc (by omega)
    · exact okQ_of od bd (by omega)
  obtain ⟨d, mu4, hd, e4, h4, f4⟩ := pick_ok (ds := [.int 2, .int 7, .int (10 ^ 20)]) h3 (by omega) (by simp) (by simp)
  obtain ⟨k, rfl, k0, k1⟩ : ∃ k, d = .int k ∧ 0 < k ∧ Builtin.Int.intBits k ≤ 1000 := by
    simp only [List.mem_cons, List.not_mem_nil, or_false] at hd
    rcases hd with rfl | rfl | rfl
    all_goals exact ⟨_, rfl, by decide +kernel, bits_of (by decide +kernel)⟩
  have S := some (scriptD ns)
  -- the inner loop
  obtain ⟨e, mu5, k5, _, ⟨_, h5⟩, x6', rfl⟩ := forL_inv (mg := mGName 6) (mb := b_law_3 A) enc5 (fun xs env m => (∀ q ∈ xs, q ∈ fs) ∧ (xs.length ≤ 4 ∧ Draw (n + 700 + (4 - xs.length)) m) ∧ ∃ x6, env = [some (scriptD ns), some (.cell 1), x2, some (.lst (pl.map encN)), some (.lst (fs.map enc5)), some (.int k), x6, some (.lst (la.map encP)), some (.lst (lb.map encP)), none]) fs
    [some (scriptD ns), some (.cell 1), x2, some (.lst (pl.map encN)), some (.lst (fs.map enc5)), some (.int k), x6, some (.lst (la.map encP)), some (.lst (lb.map encP)), none] mu4 ⟨fun q hq => hq, ⟨by simp [fs], h4.mono (by simp [fs]; try omega)⟩, x6, rfl⟩
    (fun q rest env m ⟨g1, ⟨g0, g2⟩, x6, g3⟩ => by
      subst g3
      simp only [List.length_cons] at g0 g2
      obtain ⟨m', g4, g5⟩ := b3_ok (A := A) g2 (by omega) hfs (g1 q List.mem_cons_self) (by simp [fs]) k0 k1 (some (scriptD ns)) x2 (some (.lst (pl.map encN))) (some (.lst (la.map encP))) (some (.lst (lb.map encP)))
      exact ⟨_, _, _, _, rfl, .inl g5, fun q hq => g1 q (List.mem_cons_of_mem _ hq), ⟨by omega, g4.mono (by omega)⟩, _, rfl⟩)
  -- the end of the turn
  obtain ⟨it, IT⟩ := e_items1 (A := A) (mu := mu5) s0.am hB1 nat.2
  have o23 : okN [(2, 3)] := fun r hr => by rw [List.mem_singleton.mp hr]; exact ⟨by decide, by decide⟩
  have b23 : BN [(2, 3)] := fun r hr => by rw [List.mem_singleton.mp hr]; exact ⟨by decide, by decide⟩
  have s23 := smN o23 b23 (by simp)
  have a23 : d_amounts A [.lst [.tup [.int 2, .int 3]]] mu5 = .ok (five (sN [(2, 3)]) (sN [(2, 3)]) (mN [(2, 3)]) (mN [(2, 3)]) (mN [(2, 3)])) mu5 := e_amountsN [(2, 3)] o23 b23 (by simp)
  have AD := e_added (A := A) (mu := mu5) (e_kinds1 s0.am) (e_kinds1 s23.am) (e_kinds1 (s0.add s23)) kd1_ok kd1_ok kd1_ok kd1_add (by
    unfold KD1
    split <;> simp)
  have q1 := q1_ok (A := A) (mu := mu3) hfs (by simp [fs]) (some (scriptD ns)) (some (.cell 1)) x2 (some (.lst (pl.map encN))) x5 x6 (some (.lst (la.map encP))) (some (.lst (lb.map encP)))
  have kD := e_kinds2 (A := A) (mu := mu3) (hfs (amtP ld) (by simp [fs])).sm.am
  have ix3 : gIx mu3 (.lst (fs.map enc5)) (.int 3) = some (enc5 (amtP ld), mu3) := rfl
  have nin := gNotIn_str (mu := mu3) (k := "one") (l := kd2 (amtP ld)) so1 ok_kd2
  have one' : ("one" : Str) ∈ kd2 (amtP ld) := one
  rw [show decide (("one" : Str) ∈ kd2 (amtP ld)) = true from decide_eq_true one'] at nin
  have cat : gAdd false mu3 (.lst (la.map encP)) (.lst (lb.map encP)) = some (.lst (lc.map encP), mu3) := by
    rw [gCatL (lim_ok (by simp; omega)), List.map_append]
  have n1 := ne_one (mu := mu1)
  have fl : mAsg (mLst false (mCons (mCallF 1 (d_amounts A) (mCons (mVar 7) mNil)) (mCons (mCallF 1 (d_amounts A) (mCons (mVar 8) mNil)) (mCons (mCallF 1 (d_amounts A) (mCons (mOp (gAdd false) (mVar 7) (mVar 8)) mNil)) (mCons (mCallF 1 (d_amounts A) (mCons (mCallF 1 (d__law_with_both A) (mCons (mVar 7) mNil)) mNil)) mNil))))) (mGName 4) [some (scriptD ns), some (.cell 1), x2, some (.lst (pl.map encN)), x4, x5, x6, some (.lst (la.map encP)), some (.lst (lb.map encP)), none] mu3
      = .nx [some (scriptD ns), some (.cell 1), x2, some (.lst (pl.map encN)), some (.lst (fs.map enc5)), x5, x6, some (.lst (la.map encP)), some (.lst (lb.map encP)), none] mu3 := by
    show _ = SR.nx [some (scriptD ns), some (.cell 1), x2, some (.lst (pl.map encN)), some (.lst [five (sE la) (sR la) (mI la) (max (mA la) (mB la)) (mA la + mB la), five (sE lb) (sR lb) (mI lb) (max (mA lb) (mB lb)) (mA lb + mB lb), five (sE lc) (sR lc) (mI lc) (max (mA lc) (mB lc)) (mA lc + mB lc), five (sE ld) (sR ld) (mI ld) (max (mA ld) (mB ld)) (mA ld + mB ld)]), x5, x6, some (.lst (la.map encP)), some (.lst (lb.map encP)), none] mu3
    (repeat' (first | (with_reducible assumption) | (with_reducible exact aA) | (with_reducible exact aB) | (with_reducible exact aC) | (with_reducible exact aD) | (with_reducible exact eb) | (with_reducible exact cat) | (with_reducible apply mVar_ok) | (with_reducible apply mC_ok) | (with_reducible apply mOp_ok) | (with_reducible apply mTest_ok) | (with_reducible apply mCons_ok) | (with_reducible apply mNil_ok) | (with_reducible apply mCall_ok) | (with_reducible apply mCallF_ok) | (with_reducible apply mSeq_eq) | (with_reducible apply seqNx) | (with_reducible apply seqRt) | (with_reducible apply mSkip_ok) | (with_reducible apply mRet_ok) | (with_reducible apply mRetN_ok) | (with_reducible apply mExpr_ok) | (with_reducible apply mAsg_ok) | (with_reducible apply mGName_ok) | (with_reducible apply mIfS_ok) | (with_reducible apply mTAnd_ok) | (with_reducible apply mTOr_ok) | (with_reducible apply mTNot_ok) | (with_reducible apply mAnd_ok) | (with_reducible apply mOr_ok) | (with_reducible apply mNot_ok) | (with_reducible apply mIf_ok) | (with_reducible apply mChain_ok) | (with_reducible apply bindO_ok) | (with_reducible apply mTup_ok) | (with_reducible apply mLst_ok) | (with_reducible apply mLst_okC) | (with_reducible apply mUn_ok) | (with_reducible apply mMet_ok) | (with_reducible apply mMetC_ok) | (with_reducible apply mGTup_ok) | (with_reducible apply mGCons_ok) | (with_reducible apply mGNil_ok) | (with_reducible apply mPar_ok) | (with_reducible apply mPar3_ok) | (with_reducible apply mSet_ok) | (with_reducible apply mSeqI_ok) | (with_reducible apply mRange1_ok) | (with_reducible apply mZip_ok) | (with_reducible apply mFrz_ok) | (with_reducible apply mFor_ok) | (with_reducible apply mCallV_ok) | (with_reducible apply gAddL) | (with_reducible apply gSumL) | (with_reducible apply gMax0) | (with_reducible apply gMax2) | (with_reducible apply gMaxP) | (with_reducible apply gAllL) | (with_reducible apply gTupL) | (with_reducible apply gTupT) | (with_reducible apply gListT) | (with_reducible apply gLenT) | (with_reducible apply gIsiT) | (with_reducible apply gIsNT) | (with_reducible apply gEqL0) | (with_reducible apply gNeL0) | (with_reducible apply gMul_ok) | (with_reducible apply gAdd_ok) | (with_reducible apply gSub_ok) | (with_reducible apply gEqI) | (with_reducible apply gNeI) | (with_reducible apply gLt_ok) | (with_reducible apply gLe_ok) | (with_reducible apply gGt_ok) | (with_reducible apply gGe_ok) | (with_reducible apply gInt_ok) | (with_reducible apply mulB_ok) | (with_reducible apply lim_ok) | ((with_reducible apply ite_t); (first | assumption | (exact decide_eq_true (by omega)) | (exact decide_eq_false (by omega)) | (simp only [Bool.not_eq_true', Bool.not_eq_false', Bool.not_not, decide_eq_false_iff_not, decide_eq_true_eq, Bool.false_eq_true, if_true, if_false, Bool.not_false, Bool.not_true, reduceIte]; omega) | exact rfl)) | ((with_reducible apply ite_f); (first | assumption | (exact decide_eq_true (by omega)) | (exact decide_eq_false (by omega)) | (simp only [Bool.not_eq_true', Bool.not_eq_false', Bool.not_not, decide_eq_false_iff_not, decide_eq_true_eq, Bool.false_eq_true, if_true, if_false, Bool.not_false, Bool.not_true, reduceIte]; omega) | exact rfl)) | (simp only [List.set_cons_succ, List.set_cons_zero, wipeD]; exact rfl) | (simp only [List.length_cons, List.length_nil, List.length_map, List.length_append]; omega) | (exact rfl) | (omega)))
  refine ⟨mu5, some (.lst (pl.map encN)), some (.lst (fs.map enc5)), some (.int k), x6', some (.lst (la.map encP)), some (.lst (lb.map encP)), h5.mono (by simp; try omega), ?_⟩
  unfold b_law_4
  refine mSeq_eq (r1 := .nx [some (scriptD ns), some (.cell 1), x2, some (.lst (pl.map encN)), x4, x5, x6, x7, x8, none] mu1) (by (repeat' (first | (with_reducible assumption) | (with_reducible exact e1) | (with_reducible apply mVar_ok) | (with_reducible apply mC_ok) | (with_reducible apply mOp_ok) | (with_reducible apply mTest_ok) | (with_reducible apply mCons_ok) | (with_reducible apply mNil_ok) | (with_reducible apply mCall_ok) | (with_reducible apply mCallF_ok) | (with_reducible apply mSeq_eq) | (with_reducible apply seqNx) | (with_reducible apply seqRt) | (with_reducible apply mSkip_ok) | (with_reducible apply mRet_ok) | (with_reducible apply mRetN_ok) | (with_reducible apply mExpr_ok) | (with_reducible apply mAsg_ok) | (with_reducible apply mGName_ok) | (with_reducible apply mIfS_ok) | (with_reducible apply mTAnd_ok) | (with_reducible apply mTOr_ok) | (with_reducible apply mTNot_ok) | (with_reducible apply mAnd_ok) | (with_reducible apply mOr_ok) | (with_reducible apply mNot_ok) | (with_reducible apply mIf_ok) | (with_reducible apply mChain_ok) | (with_reducible apply bindO_ok) | (with_reducible apply mTup_ok) | (with_reducible apply mLst_ok) | (with_reducible apply mLst_okC) | (with_reducible apply mUn_ok) | (with_reducible apply mMet_ok) | (with_reducible apply mMetC_ok) | (with_reducible apply mGTup_ok) | (with_reducible apply mGCons_ok) | (with_reducible apply mGNil_ok) | (with_reducible apply mPar_ok) | (with_reducible apply mPar3_ok) | (with_reducible apply mSet_ok) | (with_reducible apply mSeqI_ok) | (with_reducible apply mRange1_ok) | (with_reducible apply mZip_ok) | (with_reducible apply mFrz_ok) | (with_reducible apply mFor_ok) | (with_reducible apply mCallV_ok) | (with_reducible apply gAddL) | (with_reducible apply gSumL) | (with_reducible apply gMax0) | (with_reducible apply gMax2) | (with_reducible apply gMaxP) | (with_reducible apply gAllL) | (with_reducible apply gTupL) | (with_reducible apply gTupT) | (with_reducible apply gListT) | (with_reducible apply gLenT) | (with_reducible apply gIsiT) | (with_reducible apply gIsNT) | (with_reducible apply gEqL0) | (with_reducible apply gNeL0) | (with_reducible apply gMul_ok) | (with_reducible apply gAdd_ok) | (with_reducible apply gSub_ok) | (with_reducible apply gEqI) | (with_reducible apply gNeI) | (with_reducible apply gLt_ok) | (with_reducible apply gLe_ok) | (with_reducible apply gGt_ok) | (with_reducible apply gGe_ok) | (with_reducible apply gInt_ok) | (with_reducible apply mulB_ok) | (with_reducible apply lim_ok) | ((with_reducible apply ite_t); (first | assumption | (exact decide_eq_true (by omega)) | (exact decide_eq_false (by omega)) | (simp only [Bool.not_eq_true', Bool.not_eq_false', Bool.not_not, decide_eq_false_iff_not, decide_eq_true_eq, Bool.false_eq_true, if_true, if_false, Bool.not_false, Bool.not_true, reduceIte]; omega) | exact rfl)) | ((with_reducible apply ite_f); (first | assumption | (exact decide_eq_true (by omega)) | (exact decide_eq_false (by omega)) | (simp only [Bool.not_eq_true', Bool.not_eq_false', Bool.not_not, decide_eq_false_iff_not, decide_eq_true_eq, Bool.false_eq_true, if_true, if_false, Bool.not_false, Bool.not_true, reduceIte]; omega) | exact rfl)) | (simp only [List.set_cons_succ, List.set_cons_zero, wipeD]; exact rfl) | (simp only [List.length_cons, List.length_nil, List.length_map, List.length_append]; omega) | (exact rfl) | (omega)))) (seqNx ?_)
  refine mSeq_eq (r1 := .nx [some (scriptD ns), some (.cell 1), x2, some (.lst (pl.map encN)), x4, x5, x6, x7, x8, none] mu1) (by (repeat' (first | (with_reducible assumption) | (with_reducible exact aN _) | (with_reducible exact kN _) | (with_reducible exact n1) | (with_reducible apply mVar_ok) | (with_reducible apply mC_ok) | (with_reducible apply mOp_ok) | (with_reducible apply mTest_ok) | (with_reducible apply mCons_ok) | (with_reducible apply mNil_ok) | (with_reducible apply mCall_ok) | (with_reducible apply mCallF_ok) | (with_reducible apply mSeq_eq) | (with_reducible apply seqNx) | (with_reducible apply seqRt) | (with_reducible apply mSkip_ok) | (with_reducible apply mRet_ok) | (with_reducible apply mRetN_ok) | (with_reducible apply mExpr_ok) | (with_reducible apply mAsg_ok) | (with_reducible apply mGName_ok) | (with_reducible apply mIfS_ok) | (with_reducible apply mTAnd_ok) | (with_reducible apply mTOr_ok) | (with_reducible apply mTNot_ok) | (with_reducible apply mAnd_ok) | (with_reducible apply mOr_ok) | (with_reducible apply mNot_ok) | (with_reducible apply mIf_ok) | (with_reducible apply mChain_ok) | (with_reducible apply bindO_ok) | (with_reducible apply mTup_ok) | (with_reducible apply mLst_ok) | (with_reducible apply mLst_okC) | (with_reducible apply mUn_ok) | (with_reducible apply mMet_ok) | (with_reducible apply mMetC_ok) | (with_reducible apply mGTup_ok) | (with_reducible apply mGCons_ok) | (with_reducible apply mGNil_ok) | (with_reducible apply mPar_ok) | (with_reducible apply mPar3_ok) | (with_reducible apply mSet_ok) | (with_reducible apply mSeqI_ok) | (with_reducible apply mRange1_ok) | (with_reducible apply mZip_ok) | (with_reducible apply mFrz_ok) | (with_reducible apply mFor_ok) | (with_reducible apply mCallV_ok) | (with_reducible apply gAddL) | (with_reducible apply gSumL) | (with_reducible apply gMax0) | (with_reducible apply gMax2) | (with_reducible apply gMaxP) | (with_reducible apply gAllL) | (with_reducible apply gTupL) | (with_reducible apply gTupT) | (with_reducible apply gListT) | (with_reducible apply gLenT) | (with_reducible apply gIsiT) | (with_reducible apply gIsNT) | (with_reducible apply gEqL0) | (with_reducible apply gNeL0) | (with_reducible apply gMul_ok) | (with_reducible apply gAdd_ok) | (with_reducible apply gSub_ok) | (with_reducible apply gEqI) | (with_reducible apply gNeI) | (with_reducible apply gLt_ok) | (with_reducible apply gLe_ok) | (with_reducible apply gGt_ok) | (with_reducible apply gGe_ok) | (with_reducible apply gInt_ok) | (with_reducible apply mulB_ok) | (with_reducible apply lim_ok) | ((with_reducible apply ite_t); (first | assumption | (exact decide_eq_true (by omega)) | (exact decide_eq_false (by omega)) | (simp only [Bool.not_eq_true', Bool.not_eq_false', Bool.not_not, decide_eq_false_iff_not, decide_eq_true_eq, Bool.false_eq_true, if_true, if_false, Bool.not_false, Bool.not_true, reduceIte]; omega) | exact rfl)) | ((with_reducible apply ite_f); (first | assumption | (exact decide_eq_true (by omega)) | (exact decide_eq_false (by omega)) | (simp only [Bool.not_eq_true', Bool.not_eq_false', Bool.not_not, decide_eq_false_iff_not, decide_eq_true_eq, Bool.false_eq_true, if_true, if_false, Bool.not_false, Bool.not_true, reduceIte]; omega) | exact rfl)) | (simp only [List.set_cons_succ, List.set_cons_zero, wipeD]; exact rfl) | (simp only [List.length_cons, List.length_nil, List.length_map, List.length_append]; omega) | (exact rfl) | (omega)))) (seqNx ?_)
  refine mSeq_eq (r1 := .nx [some (scriptD ns), some (.cell 1), x2, some (.lst (pl.map encN)), x4, x5, x6, some (.lst (la.map encP)), some (.lst (lb.map encP)), none] mu3) (by (repeat' (first | (with_reducible assumption) | (with_reducible exact e2) | (with_reducible exact e3) | (with_reducible apply mVar_ok) | (with_reducible apply mC_ok) | (with_reducible apply mOp_ok) | (with_reducible apply mTest_ok) | (with_reducible apply mCons_ok) | (with_reducible apply mNil_ok) | (with_reducible apply mCall_ok) | (with_reducible apply mCallF_ok) | (with_reducible apply mSeq_eq) | (with_reducible apply seqNx) | (with_reducible apply seqRt) | (with_reducible apply mSkip_ok) | (with_reducible apply mRet_ok) | (with_reducible apply mRetN_ok) | (with_reducible apply mExpr_ok) | (with_reducible apply mAsg_ok) | (with_reducible apply mGName_ok) | (with_reducible apply mIfS_ok) | (with_reducible apply mTAnd_ok) | (with_reducible apply mTOr_ok) | (with_reducible apply mTNot_ok) | (with_reducible apply mAnd_ok) | (with_reducible apply mOr_ok) | (with_reducible apply mNot_ok) | (with_reducible apply mIf_ok) | (with_reducible apply mChain_ok) | (with_reducible apply bindO_ok) | (with_reducible apply mTup_ok) | (with_reducible apply mLst_ok) | (with_reducible apply mLst_okC) | (with_reducible apply mUn_ok) | (with_reducible apply mMet_ok) | (with_reducible apply mMetC_ok) | (with_reducible apply mGTup_ok) | (with_reducible apply mGCons_ok) | (with_reducible apply mGNil_ok) | (with_reducible apply mPar_ok) | (with_reducible apply mPar3_ok) | (with_reducible apply mSet_ok) | (with_reducible apply mSeqI_ok) | (with_reducible apply mRange1_ok) | (with_reducible apply mZip_ok) | (with_reducible apply mFrz_ok) | (with_reducible apply mFor_ok) | (with_reducible apply mCallV_ok) | (with_reducible apply gAddL) | (with_reducible apply gSumL) | (with_reducible apply gMax0) | (with_reducible apply gMax2) | (with_reducible apply gMaxP) | (with_reducible apply gAllL) | (with_reducible apply gTupL) | (with_reducible apply gTupT) | (with_reducible apply gListT) | (with_reducible apply gLenT) | (with_reducible apply gIsiT) | (with_reducible apply gIsNT) | (with_reducible apply gEqL0) | (with_reducible apply gNeL0) | (with_reducible apply gMul_ok) | (with_reducible apply gAdd_ok) | (with_reducible apply gSub_ok) | (with_reducible apply gEqI) | (with_reducible apply gNeI) | (with_reducible apply gLt_ok) | (with_reducible apply gLe_ok) | (with_reducible apply gGt_ok) | (with_reducible apply gGe_ok) | (with_reducible apply gInt_ok) | (with_reducible apply mulB_ok) | (with_reducible apply lim_ok) | ((with_reducible apply ite_t); (first | assumption | (exact decide_eq_true (by omega)) | (exact decide_eq_false (by omega)) | (simp only [Bool.not_eq_true', Bool.not_eq_false', Bool.not_not, decide_eq_false_iff_not, decide_eq_true_eq, Bool.false_eq_true, if_true, if_false, Bool.not_false, Bool.not_true, reduceIte]; omega) | exact rfl)) | ((with_reducible apply ite_f); (first | assumption | (exact decide_eq_true (by omega)) | (exact decide_eq_false (by omega)) | (simp only [Bool.not_eq_true', Bool.not_eq_false', Bool.not_not, decide_eq_false_iff_not, decide_eq_true_eq, Bool.false_eq_true, if_true, if_false, Bool.not_false, Bool.not_true, reduceIte]; omega) | exact rfl)) | (simp only [List.set_cons_succ, List.set_cons_zero, wipeD]; exact rfl) | (simp only [List.length_cons, List.length_nil, List.length_map, List.length_append]; omega) | (exact rfl) | (omega)))) (seqNx ?_)
  refine mSeq_eq fl (seqNx ?_)
  refine mSeq_eq (r1 := .nx [some (scriptD ns), some (.cell 1), x2, some (.lst (pl.map encN)), some (.lst (fs.map enc5)), x5, x6, some (.lst (la.map encP)), some (.lst (lb.map encP)), none] mu3) (by (repeat' (first | (with_reducible assumption) | (with_reducible exact q1) | (with_reducible exact ix3) | (with_reducible exact kD) | (with_reducible exact nin) | (with_reducible apply mVar_ok) | (with_reducible apply mC_ok) | (with_reducible apply mOp_ok) | (with_reducible apply mTest_ok) | (with_reducible apply mCons_ok) | (with_reducible apply mNil_ok) | (with_reducible apply mCall_ok) | (with_reducible apply mCallF_ok) | (with_reducible apply mSeq_eq) | (with_reducible apply seqNx) | (with_reducible apply seqRt) | (with_reducible apply mSkip_ok) | (with_reducible apply mRet_ok) | (with_reducible apply mRetN_ok) | (with_reducible apply mExpr_ok) | (with_reducible apply mAsg_ok) | (with_reducible apply mGName_ok) | (with_reducible apply mIfS_ok) | (with_reducible apply mTAnd_ok) | (with_reducible apply mTOr_ok) | (with_reducible apply mTNot_ok) | (with_reducible apply mAnd_ok) | (with_reducible apply mOr_ok) | (with_reducible apply mNot_ok) | (with_reducible apply mIf_ok) | (with_reducible apply mChain_ok) | (with_reducible apply bindO_ok) | (with_reducible apply mTup_ok) | (with_reducible apply mLst_ok) | (with_reducible apply mLst_okC) | (with_reducible apply mUn_ok) | (with_reducible apply mMet_ok) | (with_reducible apply mMetC_ok) | (with_reducible apply mGTup_ok) | (with_reducible apply mGCons_ok) | (with_reducible apply mGNil_ok) | (with_reducible apply mPar_ok) | (with_reducible apply mPar3_ok) | (with_reducible apply mSet_ok) | (with_reducible apply mSeqI_ok) | (with_reducible apply mRange1_ok) | (with_reducible apply mZip_ok) | (with_reducible apply mFrz_ok) | (with_reducible apply mFor_ok) | (with_reducible apply mCallV_ok) | (with_reducible apply gAddL) | (with_reducible apply gSumL) | (with_reducible apply gMax0) | (with_reducible apply gMax2) | (with_reducible apply gMaxP) | (with_reducible apply gAllL) | (with_reducible apply gTupL) | (with_reducible apply gTupT) | (with_reducible apply gListT) | (with_reducible apply gLenT) | (with_reducible apply gIsiT) | (with_reducible apply gIsNT) | (with_reducible apply gEqL0) | (with_reducible apply gNeL0) | (with_reducible apply gMul_ok) | (with_reducible apply gAdd_ok) | (with_reducible apply gSub_ok) | (with_reducible apply gEqI) | (with_reducible apply gNeI) | (with_reducible apply gLt_ok) | (with_reducible apply gLe_ok) | (with_reducible apply gGt_ok) | (with_reducible apply gGe_ok) | (with_reducible apply gInt_ok) | (with_reducible apply mulB_ok) | (with_reducible apply lim_ok) | ((with_reducible apply ite_t); (first | assumption | (exact decide_eq_true (by omega)) | (exact decide_eq_false (by omega)) | (simp only [Bool.not_eq_true', Bool.not_eq_false', Bool.not_not, decide_eq_false_iff_not, decide_eq_true_eq, Bool.false_eq_true, if_true, if_false, Bool.not_false, Bool.not_true, reduceIte]; omega) | exact rfl)) | ((with_reducible apply ite_f); (first | assumption | (exact decide_eq_true (by omega)) | (exact decide_eq_false (by omega)) | (simp only [Bool.not_eq_true', Bool.not_eq_false', Bool.not_not, decide_eq_false_iff_not, decide_eq_true_eq, Bool.false_eq_true, if_true, if_false, Bool.not_false, Bool.not_true, reduceIte]; omega) | exact rfl)) | (simp only [List.set_cons_succ, List.set_cons_zero, wipeD]; exact rfl) | (simp only [List.length_cons, List.length_nil, List.length_map, List.length_append]; omega) | (exact rfl) | (omega)))) (seqNx ?_)
  refine mSeq_eq (r1 := .nx [some (scriptD ns), some (.cell 1), x2, some (.lst (pl.map encN)), some (.lst (fs.map enc5)), some (.int k), x6, some (.lst (la.map encP)), some (.lst (lb.map encP)), none] mu4) (by rw [e_pick]; (repeat' (first | (with_reducible assumption) | (with_reducible exact e4) | (with_reducible exact p10_20) | (with_reducible apply mVar_ok) | (with_reducible apply mC_ok) | (with_reducible apply mOp_ok) | (with_reducible apply mTest_ok) | (with_reducible apply mCons_ok) | (with_reducible apply mNil_ok) | (with_reducible apply mCall_ok) | (with_reducible apply mCallF_ok) | (with_reducible apply mSeq_eq) | (with_reducible apply seqNx) | (with_reducible apply seqRt) | (with_reducible apply mSkip_ok) | (with_reducible apply mRet_ok) | (with_reducible apply mRetN_ok) | (with_reducible apply mExpr_ok) | (with_reducible apply mAsg_ok) | (with_reducible apply mGName_ok) | (with_reducible apply mIfS_ok) | (with_reducible apply mTAnd_ok) | (with_reducible apply mTOr_ok) | (with_reducible apply mTNot_ok) | (with_reducible apply mAnd_ok) | (with_reducible apply mOr_ok) | (with_reducible apply mNot_ok) | (with_reducible apply mIf_ok) | (with_reducible apply mChain_ok) | (with_reducible apply bindO_ok) | (with_reducible apply mTup_ok) | (with_reducible apply mLst_ok) | (with_reducible apply mLst_okC) | (with_reducible apply mUn_ok) | (with_reducible apply mMet_ok) | (with_reducible apply mMetC_ok) | (with_reducible apply mGTup_ok) | (with_reducible apply mGCons_ok) | (with_reducible apply mGNil_ok) | (with_reducible apply mPar_ok) | (with_reducible apply mPar3_ok) | (with_reducible apply mSet_ok) | (with_reducible apply mSeqI_ok) | (with_reducible apply mRange1_ok) | (with_reducible apply mZip_ok) | (with_reducible apply mFrz_ok) | (with_reducible apply mFor_ok) | (with_reducible apply mCallV_ok) | (with_reducible apply gAddL) | (with_reducible apply gSumL) | (with_reducible apply gMax0) | (with_reducible apply gMax2) | (with_reducible apply gMaxP) | (with_reducible apply gAllL) | (with_reducible apply gTupL) | (with_reducible apply gTupT) | (with_reducible apply gListT) | (with_reducible apply gLenT) | (with_reducible apply gIsiT) | (with_reducible apply gIsNT) | (with_reducible apply gEqL0) | (with_reducible apply gNeL0) | (with_reducible apply gMul_ok) | (with_reducible apply gAdd_ok) | (with_reducible apply gSub_ok) | (with_reducible apply gEqI) | (with_reducible apply gNeI) | (with_reducible apply gLt_ok) | (with_reducible apply gLe_ok) | (with_reducible apply gGt_ok) | (with_reducible apply gGe_ok) | (with_reducible apply gInt_ok) | (with_reducible apply mulB_ok) | (with_reducible apply lim_ok) | ((with_reducible apply ite_t); (first | assumption | (exact decide_eq_true (by omega)) | (exact decide_eq_false (by omega)) | (simp only [Bool.not_eq_true', Bool.not_eq_false', Bool.not_not, decide_eq_false_iff_not, decide_eq_true_eq, Bool.false_eq_true, if_true, if_false, Bool.not_false, Bool.not_true, reduceIte]; omega) | exact rfl)) | ((with_reducible apply ite_f); (first | assumption | (exact decide_eq_true (by omega)) | (exact decide_eq_false (by omega)) | (simp only [Bool.not_eq_true', Bool.not_eq_false', Bool.not_not, decide_eq_false_iff_not, decide_eq_true_eq, Bool.false_eq_true, if_true, if_false, Bool.not_false, Bool.not_true, reduceIte]; omega) | exact rfl)) | (simp only [List.set_cons_succ, List.set_cons_zero, wipeD]; exact rfl) | (simp only [List.length_cons, List.length_nil, List.length_map, List.length_append]; omega) | (exact rfl) | (omega)))) (seqNx ?_)
  refine mSeq_eq (mFor_ok (ds := fs.map enc5) (m1 := mu4) (by (repeat' (first | (with_reducible assumption) | (with_reducible apply mVar_ok) | (with_reducible apply mC_ok) | (with_reducible apply mOp_ok) | (with_reducible apply mTest_ok) | (with_reducible apply mCons_ok) | (with_reducible apply mNil_ok) | (with_reducible apply mCall_ok) | (with_reducible apply mCallF_ok) | (with_reducible apply mSeq_eq) | (with_reducible apply seqNx) | (with_reducible apply seqRt) | (with_reducible apply mSkip_ok) | (with_reducible apply mRet_ok) | (with_reducible apply mRetN_ok) | (with_reducible apply mExpr_ok) | (with_reducible apply mAsg_ok) | (with_reducible apply mGName_ok) | (with_reducible apply mIfS_ok) | (with_reducible apply mTAnd_ok) | (with_reducible apply mTOr_ok) | (with_reducible apply mTNot_ok) | (with_reducible apply mAnd_ok) | (with_reducible apply mOr_ok) | (with_reducible apply mNot_ok) | (with_reducible apply mIf_ok) | (with_reducible apply mChain_ok) | (with_reducible apply bindO_ok) | (with_reducible apply mTup_ok) | (with_reducible apply mLst_ok) | (with_reducible apply mLst_okC) | (with_reducible apply mUn_ok) | (with_reducible apply mMet_ok) | (with_reducible apply mMetC_ok) | (with_reducible apply mGTup_ok) | (with_reducible apply mGCons_ok) | (with_reducible apply mGNil_ok) | (with_reducible apply mPar_ok) | (with_reducible apply mPar3_ok) | (with_reducible apply mSet_ok) | (with_reducible apply mSeqI_ok) | (with_reducible apply mRange1_ok) | (with_reducible apply mZip_ok) | (with_reducible apply mFrz_ok) | (with_reducible apply mFor_ok) | (with_reducible apply mCallV_ok) | (with_reducible apply gAddL) | (with_reducible apply gSumL) | (with_reducible apply gMax0) | (with_reducible apply gMax2) | (with_reducible apply gMaxP) | (with_reducible apply gAllL) | (with_reducible apply gTupL) | (with_reducible apply gTupT) | (with_reducible apply gListT) | (with_reducible apply gLenT) | (with_reducible apply gIsiT) | (with_reducible apply gIsNT) | (with_reducible apply gEqL0) | (with_reducible apply gNeL0) | (with_reducible apply gMul_ok) | (with_reducible apply gAdd_ok) | (with_reducible apply gSub_ok) | (with_reducible apply gEqI) | (with_reducible apply gNeI) | (with_reducible apply gLt_ok) | (with_reducible apply gLe_ok) | (with_reducible apply gGt_ok) | (with_reducible apply gGe_ok) | (with_reducible apply gInt_ok) | (with_reducible apply mulB_ok) | (with_reducible apply lim_ok) | ((with_reducible apply ite_t); (first | assumption | (exact decide_eq_true (by omega)) | (exact decide_eq_false (by omega)) | (simp only [Bool.not_eq_true', Bool.not_eq_false', Bool.not_not, decide_eq_false_iff_not, decide_eq_true_eq, Bool.false_eq_true, if_true, if_false, Bool.not_false, Bool.not_true, reduceIte]; omega) | exact rfl)) | ((with_reducible apply ite_f); (first | assumption | (exact decide_eq_true (by omega)) | (exact decide_eq_false (by omega)) | (simp only [Bool.not_eq_true', Bool.not_eq_false', Bool.not_not, decide_eq_false_iff_not, decide_eq_true_eq, Bool.false_eq_true, if_true, if_false, Bool.not_false, Bool.not_true, reduceIte]; omega) | exact rfl)) | (simp only [List.set_cons_succ, List.set_cons_zero, wipeD]; exact rfl) | (simp only [List.length_cons, List.length_nil, List.length_map, List.length_append]; omega) | (exact rfl) | (omega)))) k5) (seqNx ?_)
  (repeat' (first | (with_reducible assumption) | (with_reducible exact aN _) | (with_reducible exact IT) | (with_reducible exact a23) | (with_reducible exact AD) | (with_reducible apply mVar_ok) | (with_reducible apply mC_ok) | (with_reducible apply mOp_ok) | (with_reducible apply mTest_ok) | (with_reducible apply mCons_ok) | (with_reducible apply mNil_ok) | (with_reducible apply mCall_ok) | (with_reducible apply mCallF_ok) | (with_reducible apply mSeq_eq) | (with_reducible apply seqNx) | (with_reducible apply seqRt) | (with_reducible apply mSkip_ok) | (with_reducible apply mRet_ok) | (with_reducible apply mRetN_ok) | (with_reducible apply mExpr_ok) | (with_reducible apply mAsg_ok) | (with_reducible apply mGName_ok) | (with_reducible apply mIfS_ok) | (with_reducible apply mTAnd_ok) | (with_reducible apply mTOr_ok) | (with_reducible apply mTNot_ok) | (with_reducible apply mAnd_ok) | (with_reducible apply mOr_ok) | (with_reducible apply mNot_ok) | (with_reducible apply mIf_ok) | (with_reducible apply mChain_ok) | (with_reducible apply bindO_ok) | (with_reducible apply mTup_ok) | (with_reducible apply mLst_ok) | (with_reducible apply mLst_okC) | (with_reducible apply mUn_ok) | (with_reducible apply mMet_ok) | (with_reducible apply mMetC_ok) | (with_reducible apply mGTup_ok) | (with_reducible apply mGCons_ok) | (with_reducible apply mGNil_ok) | (with_reducible apply mPar_ok) | (with_reducible apply mPar3_ok) | (with_reducible apply mSet_ok) | (with_reducible apply mSeqI_ok) | (with_reducible apply mRange1_ok) | (with_reducible apply mZip_ok) | (with_reducible apply mFrz_ok) | (with_reducible apply mFor_ok) | (with_reducible apply mCallV_ok) | (with_reducible apply gAddL) | (with_reducible apply gSumL) | (with_reducible apply gMax0) | (with_reducible apply gMax2) | (with_reducible apply gMaxP) | (with_reducible apply gAllL) | (with_reducible apply gTupL) | (with_reducible apply gTupT) | (with_reducible apply gListT) | (with_reducible apply gLenT) | (with_reducible apply gIsiT) | (with_reducible apply gIsNT) | (with_reducible apply gEqL0) | (with_reducible apply gNeL0) | (with_reducible apply gMul_ok) | (with_reducible apply gAdd_ok) | (with_reducible apply gSub_ok) | (with_reducible apply gEqI) | (with_reducible apply gNeI) | (with_reducible apply gLt_ok) | (with_reducible apply gLe_ok) | (with_reducible apply gGt_ok) | (with_reducible apply gGe_ok) | (with_reducible apply gInt_ok) | (with_reducible apply mulB_ok) | (with_reducible apply lim_ok) | ((with_reducible apply ite_t); (first | assumption | (exact decide_eq_true (by omega)) | (exact decide_eq_false (by omega)) | (simp only [Bool.not_eq_true', Bool.not_eq_false', Bool.not_not, decide_eq_false_iff_not, decide_eq_true_eq, Bool.false_eq_true, if_true, if_false, Bool.not_false, Bool.not_true, reduceIte]; omega) | exact rfl)) | ((with_reducible apply ite_f); (first | assumption | (exact decide_eq_true (by omega)) | (exact decide_eq_false (by omega)) | (simp only [Bool.not_eq_true', Bool.not_eq_false', Bool.not_not, decide_eq_false_iff_not, decide_eq_true_eq, Bool.false_eq_true, if_true, if_false, Bool.not_false, Bool.not_true, reduceIte]; omega) | exact rfl)) | (simp only [List.set_cons_succ, List.set_cons_zero, wipeD]; exact rfl) | (simp only [List.length_cons, List.length_nil, List.length_map, List.length_append]; omega) | (exact rfl) | (omega)))
theorem main : ∀ A : Ad, ∀ ns : List Int, ns.length ≤ 63 → ∃ mu, d_law A [scriptD ns] [] = .ok (.bl true) mu := by
  intro A ns hl
  obtain ⟨mu0, e0, h0, _⟩ := begin_ok hl
  have hlen : gLen mu0 [scriptD ns] = some (.int (ns.length : Nat), mu0) := by
    show some (D.int ((ns.map D.int).length : Nat), mu0) = _
    rw [List.length_map]
  let k : Nat := (max 4 (min 16 (ns.length : Int))).toNat
  have hk : ((k : Nat) : Int) = max 4 (min 16 (ns.length : Int)) := Int.toNat_of_nonneg (by omega)
  have hr : rangeD (max 4 (min 16 (ns.length : Int))) = (List.range k).map fun i => .int (i : Nat) := rfl
  obtain ⟨e, m, k1, _, h1, y2, y3, y4, y5, y6, y7, y8, rfl⟩ := forL_inv (mg := mGName 2) (mb := b_law_4 A) (fun i : Nat => D.int (i : Int))
    (fun xs env m => xs.length ≤ 16 ∧ Draw (1000 * (16 - xs.length)) m ∧ ∃ x2 x3 x4 x5 x6 x7 x8, env = [some (scriptD ns), some (.cell 1), x2, x3, x4, x5, x6, x7, x8, none]) (List.range k)
    [some (scriptD ns), some (.cell 1), none, none, none, none, none, none, none, none] mu0 ⟨by simp; omega, h0.mono (by omega), none, none, none, none, none, none, none, rfl⟩
    (fun x rest env m ⟨g0, g1, x2, x3, x4, x5, x6, x7, x8, g2⟩ => by
      subst g2
      simp only [List.length_cons] at g0 g1
      obtain ⟨m', z3, z4, z5, z6, z7, z8, g3, g4⟩ := b4_ok (A := A) g1 (by omega) ns (some (.int (x : Int))) x3 x4 x5 x6 x7 x8
      exact ⟨_, _, _, _, rfl, .inl g4, by omega, g3.mono (by omega), _, _, _, _, _, _, _, rfl⟩)
  refine ⟨m, denF_rt (env0 := [some (scriptD ns), none, none, none, none, none, none, none, none, none]) rfl ?_⟩
  unfold m_law
  refine mSeq_eq (r1 := .nx [some (scriptD ns), some (.cell 1), none, none, none, none, none, none, none, none] mu0) (by rw [e_begin]; (repeat' (first | (with_reducible assumption) | (with_reducible exact e0) | (with_reducible apply mVar_ok) | (with_reducible apply mC_ok) | (with_reducible apply mOp_ok) | (with_reducible apply mTest_ok) | (with_reducible apply mCons_ok) | (with_reducible apply mNil_ok) | (with_reducible apply mCall_ok) | (with_reducible apply mCallF_ok) | (with_reducible apply mSeq_eq) | (with_reducible apply seqNx) | (with_reducible apply seqRt) | (with_reducible apply mSkip_ok) | (with_reducible apply mRet_ok) | (with_reducible apply mRetN_ok) | (with_reducible apply mExpr_ok) | (with_reducible apply mAsg_ok) | (with_reducible apply mGName_ok) | (with_reducible apply mIfS_ok) | (with_reducible apply mTAnd_ok) | (with_reducible apply mTOr_ok) | (with_reducible apply mTNot_ok) | (with_reducible apply mAnd_ok) | (with_reducible apply mOr_ok) | (with_reducible apply mNot_ok) | (with_reducible apply mIf_ok) | (with_reducible apply mChain_ok) | (with_reducible apply bindO_ok) | (with_reducible apply mTup_ok) | (with_reducible apply mLst_ok) | (with_reducible apply mLst_okC) | (with_reducible apply mUn_ok) | (with_reducible apply mMet_ok) | (with_reducible apply mMetC_ok) | (with_reducible apply mGTup_ok) | (with_reducible apply mGCons_ok) | (with_reducible apply mGNil_ok) | (with_reducible apply mPar_ok) | (with_reducible apply mPar3_ok) | (with_reducible apply mSet_ok) | (with_reducible apply mSeqI_ok) | (with_reducible apply mRange1_ok) | (with_reducible apply mZip_ok) | (with_reducible apply mFrz_ok) | (with_reducible apply mFor_ok) | (with_reducible apply mCallV_ok) | (with_reducible apply gAddL) | (with_reducible apply gSumL) | (with_reducible apply gMax0) | (with_reducible apply gMax2) | (with_reducible apply gMaxP) | (with_reducible apply gAllL) | (with_reducible apply gTupL) | (with_reducible apply gTupT) | (with_reducible apply gListT) | (with_reducible apply gLenT) | (with_reducible apply gIsiT) | (with_reducible apply gIsNT) | (with_reducible apply gEqL0) | (with_reducible apply gNeL0) | (with_reducible apply gMul_ok) | (with_reducible apply gAdd_ok) | (with_reducible apply gSub_ok) | (with_reducible apply gEqI) | (with_reducible apply gNeI) | (with_reducible apply gLt_ok) | (with_reducible apply gLe_ok) | (with_reducible apply gGt_ok) | (with_reducible apply gGe_ok) | (with_reducible apply gInt_ok) | (with_reducible apply mulB_ok) | (with_reducible apply lim_ok) | ((with_reducible apply ite_t); (first | assumption | (exact decide_eq_true (by omega)) | (exact decide_eq_false (by omega)) | (simp only [Bool.not_eq_true', Bool.not_eq_false', Bool.not_not, decide_eq_false_iff_not, decide_eq_true_eq, Bool.false_eq_true, if_true, if_false, Bool.not_false, Bool.not_true, reduceIte]; omega) | exact rfl)) | ((with_reducible apply ite_f); (first | assumption | (exact decide_eq_true (by omega)) | (exact decide_eq_false (by omega)) | (simp only [Bool.not_eq_true', Bool.not_eq_false', Bool.not_not, decide_eq_false_iff_not, decide_eq_true_eq, Bool.false_eq_true, if_true, if_false, Bool.not_false, Bool.not_true, reduceIte]; omega) | exact rfl)) | (simp only [List.set_cons_succ, List.set_cons_zero, wipeD]; exact rfl) | (simp only [List.length_cons, List.length_nil, List.length_map, List.length_append]; omega) | (exact rfl) | (omega)))) (seqNx ?_)
  refine mSeq_eq (mFor_ok (m1 := mu0) (ds := rangeD (max 4 (min 16 (ns.length : Int)))) (by (repeat' (first | (with_reducible assumption) | (with_reducible exact hlen) | (with_reducible exact gMin2) | (with_reducible apply mVar_ok) | (with_reducible apply mC_ok) | (with_reducible apply mOp_ok) | (with_reducible apply mTest_ok) | (with_reducible apply mCons_ok) | (with_reducible apply mNil_ok) | (with_reducible apply mCall_ok) | (with_reducible apply mCallF_ok) | (with_reducible apply mSeq_eq) | (with_reducible apply seqNx) | (with_reducible apply seqRt) | (with_reducible apply mSkip_ok) | (with_reducible apply mRet_ok) | (with_reducible apply mRetN_ok) | (with_reducible apply mExpr_ok) | (with_reducible apply mAsg_ok) | (with_reducible apply mGName_ok) | (with_reducible apply mIfS_ok) | (with_reducible apply mTAnd_ok) | (with_reducible apply mTOr_ok) | (with_reducible apply mTNot_ok) | (with_reducible apply mAnd_ok) | (with_reducible apply mOr_ok) | (with_reducible apply mNot_ok) | (with_reducible apply mIf_ok) | (with_reducible apply mChain_ok) | (with_reducible apply bindO_ok) | (with_reducible apply mTup_ok) | (with_reducible apply mLst_ok) | (with_reducible apply mLst_okC) | (with_reducible apply mUn_ok) | (with_reducible apply mMet_ok) | (with_reducible apply mMetC_ok) | (with_reducible apply mGTup_ok) | (with_reducible apply mGCons_ok) | (with_reducible apply mGNil_ok) | (with_reducible apply mPar_ok) | (with_reducible apply mPar3_ok) | (with_reducible apply mSet_ok) | (with_reducible apply mSeqI_ok) | (with_reducible apply mRange1_ok) | (with_reducible apply mZip_ok) | (with_reducible apply mFrz_ok) | (with_reducible apply mFor_ok) | (with_reducible apply mCallV_ok) | (with_reducible apply gAddL) | (with_reducible apply gSumL) | (with_reducible apply gMax0) | (with_reducible apply gMax2) | (with_reducible apply gMaxP) | (with_reducible apply gAllL) | (with_reducible apply gTupL) | (with_reducible apply gTupT) | (with_reducible apply gListT) | (with_reducible apply gLenT) | (with_reducible apply gIsiT) | (with_reducible apply gIsNT) | (with_reducible apply gEqL0) | (with_reducible apply gNeL0) | (with_reducible apply gMul_ok) | (with_reducible apply gAdd_ok) | (with_reducible apply gSub_ok) | (with_reducible apply gEqI) | (with_reducible apply gNeI) | (with_reducible apply gLt_ok) | (with_reducible apply gLe_ok) | (with_reducible apply gGt_ok) | (with_reducible apply gGe_ok) | (with_reducible apply gInt_ok) | (with_reducible apply mulB_ok) | (with_reducible apply lim_ok) | ((with_reducible apply ite_t); (first | assumption | (exact decide_eq_true (by omega)) | (exact decide_eq_false (by omega)) | (simp only [Bool.not_eq_true', Bool.not_eq_false', Bool.not_not, decide_eq_false_iff_not, decide_eq_true_eq, Bool.false_eq_true, if_true, if_false, Bool.not_false, Bool.not_true, reduceIte]; omega) | exact rfl)) | ((with_reducible apply ite_f); (first | assumption | (exact decide_eq_true (by omega)) | (exact decide_eq_false (by omega)) | (simp only [Bool.not_eq_true', Bool.not_eq_false', Bool.not_not, decide_eq_false_iff_not, decide_eq_true_eq, Bool.false_eq_true, if_true, if_false, Bool.not_false, Bool.not_true, reduceIte]; omega) | exact rfl)) | (simp only [List.set_cons_succ, List.set_cons_zero, wipeD]; exact rfl) | (simp only [List.length_cons, List.length_nil, List.length_map, List.length_append]; omega) | (exact rfl) | (omega)))) (by rw [hr]; exact k1)) (seqNx ?_)
  (repeat' (first | (with_reducible assumption) | (with_reducible apply mVar_ok) | (with_reducible apply mC_ok) | (with_reducible apply mOp_ok) | (with_reducible apply mTest_ok) | (with_reducible apply mCons_ok) | (with_reducible apply mNil_ok) | (with_reducible apply mCall_ok) | (with_reducible apply mCallF_ok) | (with_reducible apply mSeq_eq) | (with_reducible apply seqNx) | (with_reducible apply seqRt) | (with_reducible apply mSkip_ok) | (with_reducible apply mRet_ok) | (with_reducible apply mRetN_ok) | (with_reducible apply mExpr_ok) | (with_reducible apply mAsg_ok) | (with_reducible apply mGName_ok) | (with_reducible apply mIfS_ok) | (with_reducible apply mTAnd_ok) | (with_reducible apply mTOr_ok) | (with_reducible apply mTNot_ok) | (with_reducible apply mAnd_ok) | (with_reducible apply mOr_ok) | (with_reducible apply mNot_ok) | (with_reducible apply mIf_ok) | (with_reducible apply mChain_ok) | (with_reducible apply bindO_ok) | (with_reducible apply mTup_ok) | (with_reducible apply mLst_ok) | (with_reducible apply mLst_okC) | (with_reducible apply mUn_ok) | (with_reducible apply mMet_ok) | (with_reducible apply mMetC_ok) | (with_reducible apply mGTup_ok) | (with_reducible apply mGCons_ok) | (with_reducible apply mGNil_ok) | (with_reducible apply mPar_ok) | (with_reducible apply mPar3_ok) | (with_reducible apply mSet_ok) | (with_reducible apply mSeqI_ok) | (with_reducible apply mRange1_ok) | (with_reducible apply mZip_ok) | (with_reducible apply mFrz_ok) | (with_reducible apply mFor_ok) | (with_reducible apply mCallV_ok) | (with_reducible apply gAddL) | (with_reducible apply gSumL) | (with_reducible apply gMax0) | (with_reducible apply gMax2) | (with_reducible apply gMaxP) | (with_reducible apply gAllL) | (with_reducible apply gTupL) | (with_reducible apply gTupT) | (with_reducible apply gListT) | (with_reducible apply gLenT) | (with_reducible apply gIsiT) | (with_reducible apply gIsNT) | (with_reducible apply gEqL0) | (with_reducible apply gNeL0) | (with_reducible apply gMul_ok) | (with_reducible apply gAdd_ok) | (with_reducible apply gSub_ok) | (with_reducible apply gEqI) | (with_reducible apply gNeI) | (with_reducible apply gLt_ok) | (with_reducible apply gLe_ok) | (with_reducible apply gGt_ok) | (with_reducible apply gGe_ok) | (with_reducible apply gInt_ok) | (with_reducible apply mulB_ok) | (with_reducible apply lim_ok) | ((with_reducible apply ite_t); (first | assumption | (exact decide_eq_true (by omega)) | (exact decide_eq_false (by omega)) | (simp only [Bool.not_eq_true', Bool.not_eq_false', Bool.not_not, decide_eq_false_iff_not, decide_eq_true_eq, Bool.false_eq_true, if_true, if_false, Bool.not_false, Bool.not_true, reduceIte]; omega) | exact rfl)) | ((with_reducible apply ite_f); (first | assumption | (exact decide_eq_true (by omega)) | (exact decide_eq_false (by omega)) | (simp only [Bool.not_eq_true', Bool.not_eq_false', Bool.not_not, decide_eq_false_iff_not, decide_eq_true_eq, Bool.false_eq_true, if_true, if_false, Bool.not_false, Bool.not_true, reduceIte]; omega) | exact rfl)) | (simp only [List.set_cons_succ, List.set_cons_zero, wipeD]; exact rfl) | (simp only [List.length_cons, List.length_nil, List.length_map, List.length_append]; omega) | (exact rfl) | (omega)))
end
end K22

open PySem PySem.W PyProof.Rows
set_option maxRecDepth 100000 in
set_option maxHeartbeats 0 in
theorem PySem.Challenge.cw_anyitems_k22_whole_amounts_keep_list_fac_holds : PySem.Challenge.rw_anyitems_k22_whole_amounts_keep_list_fac.Holds := by
  w_on; o_law; k_head; (case hw => w_witness2)
  k_fill
  refine DL.walk_D (l := PySem.Challenge.rw_anyitems_k22_whole_amounts_keep_list_fac) (k := 6) (x := "_law_script") rfl rfl ⟨rfl, by decide, by decide⟩ (fun w h Y => PySem.W.kIn_of Y) ?F
  case F =>
    intro w mg fa h KX G hmg
    refine' K22.all_mk hmg (K22.mk_T KX G ?e_is_number ?l_is_number ?i_is_number ?k_is_number ?e_is_from_zero ?l_is_from_zero ?i_is_from_zero ?k_is_from_zero ?e_is_size ?l_is_size ?i_is_size ?k_is_size ?e__law_begin ?l__law_begin ?i__law_begin ?k__law_begin ?e__law_blend ?l__law_blend ?i__law_blend ?k__law_blend ?e__law_take ?l__law_take ?i__law_take ?k__law_take ?e__law_pick ?l__law_pick ?i__law_pick ?k__law_pick ?e__law_some_runs ?l__law_some_runs ?i__law_some_runs ?k__law_some_runs ?e_need_told ?l_need_told ?i_need_told ?k_need_told ?e_kind_words ?l_kind_words ?i_kind_words ?k_kind_words ?e_worth_of ?l_worth_of ?i_worth_of ?k_worth_of ?e_list_facts ?l_list_facts ?i_list_facts ?k_list_facts ?e_keeps ?l_keeps ?i_keeps ?k_keeps ?e_kinds ?l_kinds ?i_kinds ?k_kinds ?e_is_list ?l_is_list ?i_is_list ?k_is_list ?e_are_runs ?l_are_runs ?i_are_runs ?k_are_runs ?e_amounts_of_numbers ?l_amounts_of_numbers ?i_amounts_of_numbers ?k_amounts_of_numbers ?e_amounts_of_pairs ?l_amounts_of_pairs ?i_amounts_of_pairs ?k_amounts_of_pairs ?e_amounts ?l_amounts ?i_amounts ?k_amounts ?e__law_with_both ?l__law_with_both ?i__law_with_both ?k__law_with_both ?e_pairs_for_one ?l_pairs_for_one ?i_pairs_for_one ?k_pairs_for_one ?e_pairs_for_two ?l_pairs_for_two ?i_pairs_for_two ?k_pairs_for_two ?e_numbers_for ?l_numbers_for ?i_numbers_for ?k_numbers_for ?e_items_for ?l_items_for ?i_items_for ?k_items_for ?e__law_is_added ?l__law_is_added ?i__law_is_added ?k__law_is_added ?e_law ?l_law ?i_law ?k_law ?z_isinstance ?z_int ?z_bool ?z_tuple ?z_len ?z_all ?z_abs ?z_range ?z_sum ?z_list ?z_max ?z_zip ?z_min ?x_WORDS ?y_WORDS ?u_WORDS ?v_WORDS ?w_WORDS ?x_ONE_BOX ?y_ONE_BOX ?x_KIND_ONE ?y_KIND_ONE ?x_KIND_TWO ?y_KIND_TWO) (fun s v => .of_eq rfl) K22.main
    (case e_is_number => k_is); (case l_is_number => k_is); (case i_is_number => k_is); (case k_is_number => k_is); (case e_is_from_zero => k_is); (case l_is_from_zero => k_is)
    (case i_is_from_zero => k_is); (case k_is_from_zero => k_is); (case e_is_size => k_is); (case l_is_size => k_is); (case i_is_size => k_is); (case k_is_size => k_is)
    (case e__law_begin => k_is); (case l__law_begin => k_is); (case i__law_begin => k_is); (case k__law_begin => k_is); (case e__law_blend => k_is); (case l__law_blend => k_is)
    (case i__law_blend => k_is); (case k__law_blend => k_is); (case e__law_take => k_is); (case l__law_take => k_is); (case i__law_take => k_is); (case k__law_take => k_is)
    (case e__law_pick => k_is); (case l__law_pick => k_is); (case i__law_pick => k_is); (case k__law_pick => k_is); (case e__law_some_runs => k_is); (case l__law_some_runs => k_is)
    (case i__law_some_runs => k_is); (case k__law_some_runs => k_is); (case e_need_told => k_is); (case l_need_told => k_is); (case i_need_told => k_is); (case k_need_told => k_is)
    (case e_kind_words => k_is); (case l_kind_words => k_is); (case i_kind_words => k_is); (case k_kind_words => k_is); (case e_worth_of => k_is); (case l_worth_of => k_is)
    (case i_worth_of => k_is); (case k_worth_of => k_is); (case e_list_facts => k_is); (case l_list_facts => k_is); (case i_list_facts => k_is); (case k_list_facts => k_is)
    (case e_keeps => k_is); (case l_keeps => k_is); (case i_keeps => k_is); (case k_keeps => k_is); (case e_kinds => k_is); (case l_kinds => k_is)
    (case i_kinds => k_is); (case k_kinds => k_is); (case e_is_list => k_is); (case l_is_list => k_is); (case i_is_list => k_is); (case k_is_list => k_is)
    (case e_are_runs => k_is); (case l_are_runs => k_is); (case i_are_runs => k_is); (case k_are_runs => k_is); (case e_amounts_of_numbers => k_is); (case l_amounts_of_numbers => k_is)
    (case i_amounts_of_numbers => k_is); (case k_amounts_of_numbers => k_is); (case e_amounts_of_pairs => k_is); (case l_amounts_of_pairs => k_is); (case i_amounts_of_pairs => k_is); (case k_amounts_of_pairs => k_is)
    (case e_amounts => k_is); (case l_amounts => k_is); (case i_amounts => k_is); (case k_amounts => k_is); (case e__law_with_both => k_is); (case l__law_with_both => k_is)
    (case i__law_with_both => k_is); (case k__law_with_both => k_is); (case e_pairs_for_one => k_is); (case l_pairs_for_one => k_is); (case i_pairs_for_one => k_is); (case k_pairs_for_one => k_is)
    (case e_pairs_for_two => k_is); (case l_pairs_for_two => k_is); (case i_pairs_for_two => k_is); (case k_pairs_for_two => k_is); (case e_numbers_for => k_is); (case l_numbers_for => k_is)
    (case i_numbers_for => k_is); (case k_numbers_for => k_is); (case e_items_for => k_is); (case l_items_for => k_is); (case i_items_for => k_is); (case k_items_for => k_is)
    (case e__law_is_added => k_is); (case l__law_is_added => k_is); (case i__law_is_added => k_is); (case k__law_is_added => k_is); (case e_law => k_is); (case l_law => k_is)
    (case i_law => k_is); (case k_law => k_is); (case z_isinstance => k_is); (case z_int => k_is); (case z_bool => k_is); (case z_tuple => k_is)
    (case z_len => k_is); (case z_all => k_is); (case z_abs => k_is); (case z_range => k_is); (case z_sum => k_is); (case z_list => k_is)
    (case z_max => k_is); (case z_zip => k_is); (case z_min => k_is); (case x_WORDS => k_is); (case y_WORDS => kernel_rfl); (case u_WORDS => k_is)
    (case v_WORDS => rfl); (case w_WORDS => rfl); (case x_ONE_BOX => k_is); (case y_ONE_BOX => kernel_rfl); (case x_KIND_ONE => k_is); (case y_KIND_ONE => kernel_rfl)
    (case x_KIND_TWO => k_is); (case y_KIND_TWO => kernel_rfl)
