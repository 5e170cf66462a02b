import PyProof.Rows.All
import Wide.All
import OpenK.AllK
import Wide.FinOn
import HandS.ForMost
import HandS.ForExc
import HandS.Wide
import HandS.IsInst
import HandS.Lambda
import KE.KDictKeyed
import HandS.Style
import HandS.CallLocal
import HandS.WideBits
import HandS.TupMul
import HandS.TupAny
import HandS.Zip
import HandS.Strs
import HandS.Deep
import HandS.Small
import KE.IntBitsLaws
import HandS.TryOnly
import HandS.ExcIs
import HandS.EndTab
import HandS.HeadWalk
import HandS.SetFor
import PyProof.ReprRoads
import HandS.HeadHook4
import PyProof.EqAt
import HandS.ExcInit
import HandS.ExcValue
import HandS.ClsMeth
import HandS.ExcField
import HandS.Conv
import HandS.TupLe
import PySem.Challenge.RW_anyitems_k24_whole_five_amounts_of_small
set_option Elab.async false
set_option linter.all false
set_option maxRecDepth 100000
set_option maxHeartbeats 4000000
set_option synthInstance.maxHeartbeats 0
set_option synthInstance.maxSize 100000
/-! DL1: deep values, cells, what represents them on the abstract heap; results. -/
namespace DL
open PySem L2

/-- an error that was caught: its object at a, of the class cls, with the dict d -/
def ExH (cls : Value) (d : Option Addr) (a : Addr) : HO := .ext fun h => ∃ (oe : Obj) (vs : Array Value), h.get? a = some oe ∧ Zc cls d oe ∧ oe.data = .fields vs
/-- a code object of the name q -/
def CdO (c : Addr) (q : Str) : HO := LamX.CodeO c q
/-- a deep value: data by content, a thing that may change as a cell's number; rl: a list that is only read (the script) -/
inductive D where
  | non | bl (b : Bool) | int (i : Int) | str (x : Str) | ty (n : String) | ref (a : Addr)
  | tup (l : List D) | lst (l : List D) | rl (l : List D) | dk (l : List (Key × D)) | cell (n : Nat) | exn (cls : Value) | exf (cls : Value) (ns : List Str) (ds : List D)
/-- what a cell holds -/
inductive Cell where
  | dead | lst (l : List D) | dk (l : List (Key × D)) | tab (n : Nat) (P : Addr) (q : Str) | nd (n : Nat) (ks : List NestedKey)
abbrev Mu := List Cell
/-- at a: a dict whose keys are nested tuples: its entries -/
def ndO (w : World) (a : Addr) (xs : List (NestedKey × Addr × Value)) : HO := .ext fun h => (a == sysModules) = false ∧ ∃ (o : Obj) (es : Array DictEntry) (ep : Nat), h.get? a = some o ∧ o.ExactDict ∧ o.data = .dict es ep ∧ es.toList = xs.map (fun x => (⟨x.1.hash w, .ref x.2.1, x.2.2⟩ : DictEntry)) ∧ (xs.map (·.1)).Nodup
mutual
/-- a key as a value -/
def dOf : NestedKey → D
  | .none => .non
  | .num i => .int i
  | .text x => .str x
  | .tup ks => .tup (dOfL ks)
def dOfL : List NestedKey → List D
  | [] => []
  | k :: ks => dOf k :: dOfL ks
end
mutual
/-- a key of numbers and tuples alone -/
def numK : NestedKey → Bool
  | .num _ => true
  | .tup ks => numL ks
  | _ => false
def numL : List NestedKey → Bool
  | [] => true
  | k :: ks => numK k && numL ks
end

mutual
inductive Rep (K : PySem.W.Frag) (F : Hp) (io : List Addr) : V → D → Prop
  | non : Rep K F io .non .non
  | bl {b : Bool} : Rep K F io (.bl b) (.bl b)
  | int {i : Int} : Rep K F io (.int i) (.int i)
  | str {x : Str} : Rep K F io (.str x) (.str x)
  | ty {n : String} : Rep K F io (.ty n) (.ty n)
  | ref {a : Addr} : Rep K F io (.ref a) (.ref a)
  | tup {a : Addr} {xs : List V} {ds : List D} : SqT K F a xs → RepL K F io xs ds → Rep K F io (.ref a) (.tup ds)
  | lst {a : Addr} {xs : List V} {ds : List D} : F a = some (.lst xs) → RepL K F io xs ds → Rep K F io (.ref a) (.lst ds)
  | rl {a : Addr} {xs : List V} {ds : List D} : SqL K F a xs → RepL K F io xs ds → Rep K F io (.ref a) (.rl ds)
  | dk {a : Addr} {o : Obj} {xs : List (Key × V)} {ds : List (Key × D)} : F a = some (.frz o (.dK xs)) → RepK K F io xs ds → Rep K F io (.ref a) (.dk ds)
  | cell {n : Nat} {a : Addr} : io[n]? = some a → Rep K F io (.ref a) (.cell n)
  | exn {a : Addr} {cls : Value} : F a = some (ExH cls none a) → Rep K F io (.ref a) (.exn cls)
  | exf {a d : Addr} {cls : Value} {ns : List Str} {xs : List V} {ds : List D} : F a = some (ExH cls (some d) a) → F d = some (.xd (ns.zip xs)) → ns.length = xs.length → RepL K F io xs ds → Rep K F io (.ref a) (.exf cls ns ds)
inductive RepL (K : PySem.W.Frag) (F : Hp) (io : List Addr) : List V → List D → Prop
  | nil : RepL K F io [] []
  | cons {v : V} {d : D} {vs : List V} {ds : List D} : Rep K F io v d → RepL K F io vs ds → RepL K F io (v :: vs) (d :: ds)
inductive RepK (K : PySem.W.Frag) (F : Hp) (io : List Addr) : List (Key × V) → List (Key × D) → Prop
  | nil : RepK K F io [] []
  | cons {k : Key} {v : V} {d : D} {vs : List (Key × V)} {ds : List (Key × D)} : Rep K F io v d → RepK K F io vs ds → RepK K F io ((k, v) :: vs) ((k, d) :: ds)
end

/-- more is told -/
def Le (F F' : Hp) : Prop := ∀ a o, F a = some o → F' a = some o
theorem Le.rfl {F : Hp} : Le F F := fun _ _ h => h
theorem Le.trans {F G H : Hp} (a : Le F G) (b : Le G H) : Le F H := fun x o h => b x o (a x o h)
theorem Le.rd {F G : Hp} {a : Addr} {u : HO} (l : Le F G) (h : Rd F a u) : Rd G a u := by
  rcases h with h | ⟨o, h⟩
  · exact .inl (l _ _ h)
  · exact .inr ⟨o, l _ _ h⟩
theorem Le.sqt {K : PySem.W.Frag} {F G : Hp} {a : Addr} {xs : List V} (l : Le F G) (h : SqT K F a xs) : SqT K G a xs := by
  rcases h with h | h
  · exact .inl (l.rd h)
  · exact .inr h
theorem Le.sql {K : PySem.W.Frag} {F G : Hp} {a : Addr} {xs : List V} (l : Le F G) (h : SqL K F a xs) : SqL K G a xs := by
  rcases h with h | h
  · exact .inl (l.rd h)
  · exact .inr h
def Pre (io jo : List Addr) : Prop := ∀ (n : Nat) a, io[n]? = some a → jo[n]? = some a
theorem Pre.rfl {io : List Addr} : Pre io io := fun _ _ h => h
theorem Pre.trans {a b c : List Addr} (h : Pre a b) (k : Pre b c) : Pre a c := fun n x e => k n x (h n x e)
theorem Pre.app {a b : List Addr} : Pre a (a ++ b) := fun n x e => by
  have h : n < a.length := (List.getElem?_eq_some_iff.mp e).1
  rw [List.getElem?_append_left h]; exact e
theorem Pre.mem {a b : List Addr} (h : Pre a b) {x : Addr} (hx : x ∈ a) : x ∈ b := by
  obtain ⟨n, e⟩ := List.getElem?_of_mem hx
  exact List.mem_of_getElem? (h n x e)

section
variable {K : PySem.W.Frag} {F G : Hp} {io jo : List Addr}
mutual
theorem Rep.mono (l : Le F G) (p : Pre io jo) : ∀ {v : V} {d : D}, Rep K F io v d → Rep K G jo v d
  | _, _, .non => .non
  | _, _, .bl => .bl
  | _, _, .int => .int
  | _, _, .str => .str
  | _, _, .ty => .ty
  | _, _, .ref => .ref
  | _, _, .tup h r => .tup (l.sqt h) (RepL.mono l p r)
  | _, _, .lst h r => .lst (l _ _ h) (RepL.mono l p r)
  | _, _, .rl h r => .rl (l.sql h) (RepL.mono l p r)
  | _, _, .dk h r => .dk (l _ _ h) (RepK.mono l p r)
  | _, _, .cell h => .cell (p _ _ h)
  | _, _, .exn h => .exn (l _ _ h)
  | _, _, .exf h h2 h3 r => .exf (l _ _ h) (l _ _ h2) h3 (RepL.mono l p r)
theorem RepL.mono (l : Le F G) (p : Pre io jo) : ∀ {v : List V} {d : List D}, RepL K F io v d → RepL K G jo v d
  | _, _, .nil => .nil
  | _, _, .cons r t => .cons (Rep.mono l p r) (RepL.mono l p t)
theorem RepK.mono (l : Le F G) (p : Pre io jo) : ∀ {v : List (Key × V)} {d : List (Key × D)}, RepK K F io v d → RepK K G jo v d
  | _, _, .nil => .nil
  | _, _, .cons r t => .cons (Rep.mono l p r) (RepK.mono l p t)
end
theorem RepL.length : ∀ {v : List V} {d : List D}, RepL K F io v d → v.length = d.length
  | _, _, .nil => rfl
  | _, _, .cons _ t => congrArg (· + 1) (RepL.length t)
theorem RepL.append : ∀ {v : List V} {d : List D} {w : List V} {e : List D}, RepL K F io v d → RepL K F io w e → RepL K F io (v ++ w) (d ++ e)
  | _, _, _, _, .nil, s => s
  | _, _, _, _, .cons r t, s => .cons r (RepL.append t s)
theorem RepL.get : ∀ {v : List V} {d : List D} {n : Nat} {y : D}, RepL K F io v d → d[n]? = some y → ∃ x, v[n]? = some x ∧ Rep K F io x y
  | _, _, _, _, .nil, e => by simp at e
  | _, _, 0, _, .cons r _, e => by simp at e; subst e; exact ⟨_, rfl, r⟩
  | _, _, n + 1, _, .cons _ t, e => by
    obtain ⟨x, h, r⟩ := RepL.get (n := n) t (by simpa using e)
    exact ⟨x, by simpa using h, r⟩
theorem RepL.getV : ∀ {v : List V} {d : List D} {n : Nat} {x : V}, RepL K F io v d → v[n]? = some x → ∃ y, d[n]? = some y ∧ Rep K F io x y
  | _, _, _, _, .nil, e => by simp at e
  | _, _, 0, _, .cons r _, e => by simp at e; subst e; exact ⟨_, rfl, r⟩
  | _, _, n + 1, _, .cons _ t, e => by
    obtain ⟨x, h, r⟩ := RepL.getV (n := n) t (by simpa using e)
    exact ⟨x, by simpa using h, r⟩
theorem RepL.take : ∀ {v : List V} {d : List D} (n : Nat), RepL K F io v d → RepL K F io (v.take n) (d.take n)
  | _, _, 0, _ => by simp only [List.take_zero]; exact .nil
  | _, _, _ + 1, .nil => .nil
  | _, _, n + 1, .cons r t => .cons r (RepL.take n t)
theorem RepL.drop : ∀ {v : List V} {d : List D} (n : Nat), RepL K F io v d → RepL K F io (v.drop n) (d.drop n)
  | _, _, 0, h => h
  | _, _, _ + 1, .nil => .nil
  | _, _, n + 1, .cons _ t => RepL.drop n t
theorem RepL.eraseIdx : ∀ {v : List V} {d : List D} (n : Nat), RepL K F io v d → RepL K F io (v.eraseIdx n) (d.eraseIdx n)
  | _, _, _, .nil => .nil
  | _, _, 0, .cons _ t => t
  | _, _, n + 1, .cons r t => .cons r (RepL.eraseIdx n t)
theorem RepL.set {y : V} {z : D} (q : Rep K F io y z) : ∀ {v : List V} {d : List D} (n : Nat), RepL K F io v d → RepL K F io (v.set n y) (d.set n z)
  | _, _, _, .nil => .nil
  | _, _, 0, .cons _ t => .cons q t
  | _, _, n + 1, .cons r t => .cons r (RepL.set q n t)
theorem RepL.rep {v : List V} {d : List D} (h : RepL K F io v d) : ∀ n : Nat, RepL K F io (List.replicate n v).flatten (List.replicate n d).flatten
  | 0 => .nil
  | n + 1 => by
    rw [List.replicate_succ, List.replicate_succ, List.flatten_cons, List.flatten_cons]
    exact RepL.append h (RepL.rep h n)
theorem RepL.reverse {v : List V} {d : List D} (h : RepL K F io v d) : RepL K F io v.reverse d.reverse := by
  induction v generalizing d with
  | nil => cases h; exact .nil
  | cons x v ih =>
    cases h with
    | cons r t => rw [List.reverse_cons, List.reverse_cons]; exact RepL.append (ih t) (.cons r .nil)
theorem RepK.length : ∀ {v : List (Key × V)} {d : List (Key × D)}, RepK K F io v d → v.length = d.length
  | _, _, .nil => rfl
  | _, _, .cons _ t => congrArg (· + 1) (RepK.length t)

/-! ### values with a known make -/
theorem Rep.int_inv {v : V} {i : Int} (r : Rep K F io v (.int i)) : v = .int i := by cases r; rfl
theorem Rep.bl_inv {v : V} {b : Bool} (r : Rep K F io v (.bl b)) : v = .bl b := by cases r; rfl
theorem Rep.str_inv {v : V} {x : Str} (r : Rep K F io v (.str x)) : v = .str x := by cases r; rfl
theorem Rep.non_inv {v : V} (r : Rep K F io v .non) : v = .non := by cases r; rfl
theorem Rep.ty_inv {v : V} {n : String} (r : Rep K F io v (.ty n)) : v = .ty n := by cases r; rfl
theorem Rep.ref_inv {v : V} {a : Addr} (r : Rep K F io v (.ref a)) : v = .ref a := by cases r; rfl
theorem RepL.ints : ∀ {v : List V} {ns : List Int}, RepL K F io v (ns.map D.int) → v = ns.map V.int
  | [], [], _ => rfl
  | _ :: _, _ :: _, .cons r t => by rw [Rep.int_inv r, RepL.ints t]; rfl
theorem RepL.bls : ∀ {v : List V} {ns : List Bool}, RepL K F io v (ns.map D.bl) → v = ns.map V.bl
  | [], [], _ => rfl
  | _ :: _, _ :: _, .cons r t => by rw [Rep.bl_inv r, RepL.bls t]; rfl
theorem RepL.strs' : ∀ {v : List V} {ns : List Str}, RepL K F io v (ns.map D.str) → v = ns.map V.str
  | [], [], _ => rfl
  | _ :: _, _ :: _, .cons r t => by rw [Rep.str_inv r, RepL.strs' t]; rfl
end

theorem ne_in {l : List Addr} {a p : Addr} (m : a ∈ l) (h : p ∉ l) : a ≠ p := fun q => h (q ▸ m)
/-! ### a step, the memory -/
/-- neither a table nor a thing known by what is true of it -/
def Plain (o : HO) : Prop := (∀ ps, o ≠ .tbl ps) ∧ ∀ φ, o ≠ .ext φ
theorem Plain.lst {xs : List V} : Plain (.lst xs) := ⟨nofun, nofun⟩
theorem Plain.dK {xs : List (Key × V)} : Plain (.dK xs) := ⟨nofun, nofun⟩
structure Step (F : Hp) (io : List Addr) (H : Hp) (F' : Hp) (jo : List Addr) (H' : Hp) : Prop where
  le : Le F F'
  pre : Pre io jo
  keep : ∀ a o, H a = some o → a ∉ io → (∀ ps, o ≠ .tbl ps) → H' a = some o
  new : ∀ a, a ∈ jo → a ∉ io → ∀ o, H a = some o → ∃ ps, o = .tbl ps
  fr : ∀ a o, H a = some o → a ∉ io → Plain o → F a = none → F' a = none
theorem Step.of0 {F F' H H' : Hp} {io jo : List Addr} (le : Le F F') (pre : Pre io jo) (keep : ∀ a o, H a = some o → a ∉ io → H' a = some o) (new : ∀ a, a ∈ jo → a ∉ io → H a = none) (fr : ∀ a o, H a = some o → a ∉ io → F a = none → F' a = none) : Step F io H F' jo H' :=
  ⟨le, pre, fun a o e n _ => keep a o e n, fun a m n o e => (by rw [new a m n] at e; cases e), fun a o e n _ => fr a o e n⟩
theorem Step.rfl {F H : Hp} {io : List Addr} : Step F io H F io H := .of0 Le.rfl Pre.rfl (fun _ _ h _ => h) (fun _ h n => absurd h n) (fun _ _ _ _ h => h)
theorem Step.trans {F F1 F2 H H1 H2 : Hp} {io i1 i2 : List Addr} (a : Step F io H F1 i1 H1) (b : Step F1 i1 H1 F2 i2 H2) : Step F io H F2 i2 H2 :=
  have out : ∀ x o, H x = some o → x ∉ io → (∀ ps, o ≠ .tbl ps) → x ∉ i1 := fun x o e n t m => by
    obtain ⟨ps, q⟩ := a.new x m n o e
    exact t ps q
  { le := a.le.trans b.le
    pre := a.pre.trans b.pre
    keep := fun x o e n t => b.keep x o (a.keep x o e n t) (out x o e n t) t
    new := fun x m n o e => by
      by_cases h : x ∈ i1
      · exact a.new x h n o e
      · by_cases t : ∃ ps, o = .tbl ps
        · exact t
        · exact b.new x m h o (a.keep x o e n fun ps q => t ⟨ps, q⟩)
    fr := fun x o e n pl f => b.fr x o (a.keep x o e n pl.1) (out x o e n pl.1) pl (a.fr x o e n pl f) }

/-- the heap object that stands for a cell's content -/
def CellRep (K : PySem.W.Frag) (F : Hp) (io : List Addr) (o : HO) : Cell → Prop
  | .dead => False
  | .lst ds => ∃ xs, o = .lst xs ∧ RepL K F io xs ds
  | .dk ds => ∃ xs, o = .dK xs ∧ RepK K F io xs ds
  | .tab n P q => io[n]? = some P ∧ ∃ ps : Array Value, o = .tbl ps ∧ TriplesOk ps.toList ∧ ∀ (pos : Pos) (cv : Value), codeAmong pos ps.toList = some cv → ∃ c, cv = .ref c ∧ F c = some (CdO c q)
  | .nd n ks => ∃ (a : Addr) (w : World) (xs : List (NestedKey × Addr × Value)), io[n]? = some a ∧ o = ndO w a xs ∧ xs.map (·.1) = ks ∧ ∀ x ∈ xs, numK x.1 = true ∧ x.1.depth ≤ 8 ∧ x.2.2 = .bool true ∧ Rep K F io (.ref x.2.1) (dOf x.1)
theorem CellRep.mono {K : PySem.W.Frag} {F G : Hp} {io jo : List Addr} {o : HO} {c : Cell} (l : Le F G) (p : Pre io jo) (h : CellRep K F io o c) : CellRep K G jo o c := by
  cases c with
  | dead => exact h
  | lst ds => obtain ⟨xs, e, r⟩ := h; exact ⟨xs, e, RepL.mono l p r⟩
  | dk ds => obtain ⟨xs, e, r⟩ := h; exact ⟨xs, e, RepK.mono l p r⟩
  | tab n P q =>
    obtain ⟨h1, ps, e, t, k⟩ := h
    exact ⟨p _ _ h1, ps, e, t, fun pos cv hc => let ⟨c, e1, e2⟩ := k pos cv hc; ⟨c, e1, l _ _ e2⟩⟩
  | nd n ks =>
    obtain ⟨a, w, xs, h1, h2, h3, h4⟩ := h
    exact ⟨a, w, xs, p _ _ h1, h2, h3, fun x hx => let ⟨a1, a0, a2, a3⟩ := h4 x hx; ⟨a1, a0, a2, Rep.mono l p a3⟩⟩

structure Mem (K : PySem.W.Frag) (F : Hp) (io : List Addr) (H : Hp) (mu : Mu) : Prop where
  nt : ∀ a ps, F a ≠ some (.tbl ps)
  dd : ∀ (n : Nat) a, io[n]? = some a → mu[n]? = some .dead → ∃ o, F a = some o
  le : Le F H
  len : io.length = mu.length
  nd : io.Nodup
  tr : ∀ a, a ∈ io → ∃ o, H a = some o
  cel : ∀ (n : Nat) a c, io[n]? = some a → mu[n]? = some c → c = .dead ∨ (F a = none ∧ ∃ o, H a = some o ∧ CellRep K F io o c)

section
variable {K : PySem.W.Frag} {F H : Hp} {io : List Addr} {mu : Mu} {p : Addr} {o : HO}
theorem Le.put (h : F p = none) : Le F (upd F p o) := fun a u e => by
  rw [upd_ne (ne_of_none e h)]; exact e
theorem Le.put2 {G : Hp} (l : Le F G) : Le (upd F p o) (upd G p o) := fun a u e => by
  by_cases h : a = p
  · subst h; rw [upd_same] at e ⊢; exact e
  · rw [upd_ne h] at e ⊢; exact l _ _ e
theorem Mem.fresh (M : Mem K F io H mu) (hp : H p = none) : F p = none := by
  cases e : F p with
  | none => rfl
  | some u => rw [M.le _ _ e] at hp; cases hp
theorem Mem.notin (M : Mem K F io H mu) (hp : H p = none) : p ∉ io := fun m => by
  obtain ⟨u, e⟩ := M.tr p m
  rw [e] at hp; cases hp
/-- something new, told for good -/
theorem Mem.newF (M : Mem K F io H mu) (hp : H p = none) (hto : ∀ ps, o ≠ .tbl ps := by nofun) : Mem K (upd F p o) io (upd H p o) mu where
  dd := fun n a e1 e2 => let ⟨u, h⟩ := M.dd n a e1 e2; ⟨u, Le.put (M.fresh hp) _ _ h⟩
  nt := fun a ps e => by
    by_cases h : a = p
    · subst h; rw [upd_same] at e; exact hto ps (Option.some.inj e)
    · rw [upd_ne h] at e; exact M.nt a ps e
  le := M.le.put2
  len := M.len
  nd := M.nd
  tr := fun a m => by
    obtain ⟨u, e⟩ := M.tr a m
    exact ⟨u, by rw [upd_ne (ne_in m (M.notin hp))]; exact e⟩
  cel := fun n a c e1 e2 => by
    have ne : a ≠ p := ne_in (List.mem_of_getElem? e1) (M.notin hp)
    rcases M.cel n a c e1 e2 with h | ⟨h, u, hu, r⟩
    · exact .inl h
    · exact .inr ⟨by rw [upd_ne ne]; exact h, u, by rw [upd_ne ne]; exact hu, r.mono (Le.put (M.fresh hp)) Pre.rfl⟩
theorem Mem.stepF (M : Mem K F io H mu) (hp : H p = none) : Step F io H (upd F p o) io (upd H p o) :=
  .of0 (Le.put (M.fresh hp)) Pre.rfl (fun a u e _ => by rw [upd_ne (ne_of_none e hp)]; exact e) (fun _ h n => absurd h n) (fun a u e _ f => by rw [upd_ne (ne_of_none e hp)]; exact f)
/-- something new that is not told at all (a comprehension's list while it grows) -/
theorem Mem.newX (M : Mem K F io H mu) (hp : H p = none) : Mem K F io (upd H p o) mu where
  dd := M.dd
  nt := M.nt
  le := M.le.trans (Le.put hp)
  len := M.len
  nd := M.nd
  tr := fun a m => by
    obtain ⟨u, e⟩ := M.tr a m
    exact ⟨u, by rw [upd_ne (ne_in m (M.notin hp))]; exact e⟩
  cel := fun n a c e1 e2 => by
    have ne : a ≠ p := ne_in (List.mem_of_getElem? e1) (M.notin hp)
    rcases M.cel n a c e1 e2 with h | ⟨h, u, hu, r⟩
    · exact .inl h
    · exact .inr ⟨h, u, by rw [upd_ne ne]; exact hu, r⟩
theorem Mem.stepX (M : Mem K F io H mu) (hp : H p = none) : Step F io H F io (upd H p o) :=
  .of0 Le.rfl Pre.rfl (fun a u e _ => by rw [upd_ne (ne_of_none e hp)]; exact e) (fun _ h n => absurd h n) (fun _ _ _ _ f => f)
/-- what is not told may be written -/
theorem Mem.setX {u : HO} (M : Mem K F io H mu) (hp : p ∉ io) (hf : F p = Option.none) (hu : H p = some u) : Mem K F io (upd H p o) mu where
  dd := M.dd
  nt := M.nt
  le := fun a v e => by rw [upd_ne (ne_of_none e hf)]; exact M.le _ _ e
  len := M.len
  nd := M.nd
  tr := fun a m => by
    obtain ⟨u, e⟩ := M.tr a m
    exact ⟨u, by rw [upd_ne (ne_in m hp)]; exact e⟩
  cel := fun n a c e1 e2 => by
    have ne : a ≠ p := ne_in (List.mem_of_getElem? e1) hp
    rcases M.cel n a c e1 e2 with h | ⟨h, u, hu, r⟩
    · exact .inl h
    · exact .inr ⟨h, u, by rw [upd_ne ne]; exact hu, r⟩
/-- a new cell -/
theorem Mem.newC {c : Cell} (M : Mem K F io H mu) (hp : H p = none) (hc : CellRep K F io o c) : Mem K F (io ++ [p]) (upd H p o) (mu ++ [c]) where
  dd := fun n a e1 e2 => by
    by_cases hn : n < io.length
    · rw [List.getElem?_append_left hn] at e1
      rw [List.getElem?_append_left (by rw [← M.len]; exact hn)] at e2
      exact M.dd n a e1 e2
    · have hn' : n = io.length := by
        have := (List.getElem?_eq_some_iff.mp e1).1
        rw [List.length_append, List.length_singleton] at this
        omega
      subst hn'
      rw [List.getElem?_append_right (by rw [← M.len]; exact Nat.le_refl _), ← M.len, Nat.sub_self] at e2
      simp at e2
      subst e2
      exact hc.elim
  nt := M.nt
  le := M.le.trans (Le.put hp)
  len := by rw [List.length_append, List.length_append, M.len]; rfl
  nd := by
    refine List.nodup_append.mpr ⟨M.nd, by simp, fun a ha b hb => ?_⟩
    simp only [List.mem_singleton] at hb
    subst hb
    exact ne_in ha (M.notin hp)
  tr := fun a m => by
    rcases List.mem_append.mp m with m | m
    · obtain ⟨u, e⟩ := M.tr a m
      exact ⟨u, by rw [upd_ne (ne_in m (M.notin hp))]; exact e⟩
    · simp only [List.mem_singleton] at m
      subst m; exact ⟨o, upd_same⟩
  cel := fun n a c' e1 e2 => by
    by_cases hn : n < io.length
    · rw [List.getElem?_append_left hn] at e1
      rw [List.getElem?_append_left (by rw [← M.len]; exact hn)] at e2
      have ne : a ≠ p := ne_in (List.mem_of_getElem? e1) (M.notin hp)
      rcases M.cel n a c' e1 e2 with h | ⟨h, u, hu, r⟩
      · exact .inl h
      · exact .inr ⟨h, u, by rw [upd_ne ne]; exact hu, r.mono Le.rfl Pre.app⟩
    · have hn' : n = io.length := by
        have := (List.getElem?_eq_some_iff.mp e1).1
        rw [List.length_append, List.length_singleton] at this
        omega
      subst hn'
      rw [List.getElem?_append_right (Nat.le_refl _), Nat.sub_self] at e1
      rw [List.getElem?_append_right (by rw [← M.len]; exact Nat.le_refl _), ← M.len, Nat.sub_self] at e2
      simp at e1 e2
      subst e1; subst e2
      exact .inr ⟨M.fresh hp, o, upd_same, hc.mono Le.rfl Pre.app⟩
/-- what stands already, untold, becomes a cell, or data -/
theorem Mem.adoptC {c : Cell} (M : Mem K F io H mu) (ho : H p = some o) (hf : F p = none) (hi : p ∉ io) (hc : CellRep K F io o c) : Mem K F (io ++ [p]) H (mu ++ [c]) where
  dd := fun n a e1 e2 => by
    by_cases hn : n < io.length
    · rw [List.getElem?_append_left hn] at e1
      rw [List.getElem?_append_left (by rw [← M.len]; exact hn)] at e2
      exact M.dd n a e1 e2
    · have hn' : n = io.length := by
        have := (List.getElem?_eq_some_iff.mp e1).1
        rw [List.length_append, List.length_singleton] at this
        omega
      subst hn'
      rw [List.getElem?_append_right (by rw [← M.len]; exact Nat.le_refl _), ← M.len, Nat.sub_self] at e2
      simp at e2
      subst e2
      exact hc.elim
  nt := M.nt
  le := M.le
  len := by rw [List.length_append, List.length_append, M.len]; rfl
  nd := by
    refine List.nodup_append.mpr ⟨M.nd, by simp, fun a ha b hb => ?_⟩
    simp only [List.mem_singleton] at hb
    subst hb
    exact ne_in ha hi
  tr := fun a m => by
    rcases List.mem_append.mp m with m | m
    · exact M.tr a m
    · simp only [List.mem_singleton] at m
      subst m; exact ⟨o, ho⟩
  cel := fun n a c' e1 e2 => by
    by_cases hn : n < io.length
    · rw [List.getElem?_append_left hn] at e1
      rw [List.getElem?_append_left (by rw [← M.len]; exact hn)] at e2
      rcases M.cel n a c' e1 e2 with h | ⟨h, u, hu, r⟩
      · exact .inl h
      · exact .inr ⟨h, u, hu, r.mono Le.rfl Pre.app⟩
    · have hn' : n = io.length := by
        have := (List.getElem?_eq_some_iff.mp e1).1
        rw [List.length_append, List.length_singleton] at this
        omega
      subst hn'
      rw [List.getElem?_append_right (Nat.le_refl _), Nat.sub_self] at e1
      rw [List.getElem?_append_right (by rw [← M.len]; exact Nat.le_refl _), ← M.len, Nat.sub_self] at e2
      simp at e1 e2
      subst e1; subst e2
      exact .inr ⟨hf, o, ho, hc.mono Le.rfl Pre.app⟩
theorem Mem.adoptF (M : Mem K F io H mu) (ho : H p = some o) (hf : F p = none) (hi : p ∉ io) (hto : ∀ ps, o ≠ .tbl ps := by nofun) : Mem K (upd F p o) io H mu where
  dd := fun n a e1 e2 => let ⟨u, h⟩ := M.dd n a e1 e2; ⟨u, Le.put hf _ _ h⟩
  nt := fun a ps e => by
    by_cases h : a = p
    · subst h; rw [upd_same] at e; exact hto ps (Option.some.inj e)
    · rw [upd_ne h] at e; exact M.nt a ps e
  le := fun a u e => by
    by_cases h : a = p
    · subst h; rw [upd_same] at e; cases e; exact ho
    · rw [upd_ne h] at e; exact M.le _ _ e
  len := M.len
  nd := M.nd
  tr := M.tr
  cel := fun n a c e1 e2 => by
    have ne : a ≠ p := ne_in (List.mem_of_getElem? e1) hi
    rcases M.cel n a c e1 e2 with h | ⟨h, u, hu, r⟩
    · exact .inl h
    · exact .inr ⟨by rw [upd_ne ne]; exact h, u, hu, r.mono (Le.put hf) Pre.rfl⟩
theorem Mem.stepC (M : Mem K F io H mu) (hp : H p = none) : Step F io H F (io ++ [p]) (upd H p o) :=
  .of0 Le.rfl Pre.app (fun a u e _ => by rw [upd_ne (ne_of_none e hp)]; exact e) (fun a m n => by
    rcases List.mem_append.mp m with m | m
    · exact absurd m n
    · simp only [List.mem_singleton] at m
      subst m; exact hp) (fun _ _ _ _ f => f)
theorem Mem.lenR (M : Mem K F io H mu) : (io ++ [p])[mu.length]? = some p := by
  rw [← M.len, List.getElem?_append_right (Nat.le_refl _), Nat.sub_self]; rfl
theorem nd_inj : ∀ {l : List Addr} {n m : Nat} {a : Addr}, l.Nodup → l[n]? = some a → l[m]? = some a → n = m
  | [], _, _, _, _, e, _ => by simp at e
  | _ :: _, 0, 0, _, _, _, _ => rfl
  | x :: l, 0, m + 1, a, h, e1, e2 => by
    simp at e1 e2; subst e1
    exact absurd (List.mem_of_getElem? e2) (List.nodup_cons.mp h).1
  | x :: l, n + 1, 0, a, h, e1, e2 => by
    simp at e1 e2; subst e2
    exact absurd (List.mem_of_getElem? e1) (List.nodup_cons.mp h).1
  | x :: l, n + 1, m + 1, a, h, e1, e2 => by
    simp at e1 e2
    rw [nd_inj (List.nodup_cons.mp h).2 e1 e2]
theorem Mem.nd_eq (M : Mem K F io H mu) {n m : Nat} {a : Addr} (e1 : io[n]? = some a) (e2 : io[m]? = some a) : n = m := by
  have h1 := (List.getElem?_eq_some_iff.mp e1)
  have h2 := (List.getElem?_eq_some_iff.mp e2)
  exact nd_inj M.nd e1 e2
/-- a cell is written -/
theorem Mem.setC {n : Nat} {c c0 : Cell} (M : Mem K F io H mu) (hn : io[n]? = some p) (h0 : mu[n]? = some c0) (hl : c0 ≠ .dead) (hc : CellRep K F io o c) : Mem K F io (upd H p o) (mu.set n c) where
  dd := fun m a e1 e2 => by
    by_cases h : m = n
    · subst h
      rw [List.getElem?_set_self (List.getElem?_eq_some_iff.mp h0).1] at e2
      cases e2
      exact hc.elim
    · rw [List.getElem?_set_ne (fun q => h q.symm)] at e2
      exact M.dd m a e1 e2
  nt := M.nt
  le := fun a v e => by
    rcases M.cel n p c0 hn h0 with h | ⟨h, _⟩
    · exact absurd h hl
    · rw [upd_ne (ne_of_none e h)]; exact M.le _ _ e
  len := by rw [List.length_set]; exact M.len
  nd := M.nd
  tr := fun a m => by
    by_cases h : a = p
    · subst h; exact ⟨o, upd_same⟩
    · obtain ⟨u, e⟩ := M.tr a m
      exact ⟨u, by rw [upd_ne h]; exact e⟩
  cel := fun m a c' e1 e2 => by
    by_cases h : m = n
    · subst h
      rw [hn] at e1; cases e1
      rw [List.getElem?_set_self (List.getElem?_eq_some_iff.mp h0).1] at e2
      cases e2
      rcases M.cel m p c0 hn h0 with h | ⟨h, _⟩
      · exact absurd h hl
      · exact .inr ⟨h, o, upd_same, hc⟩
    · rw [List.getElem?_set_ne (fun q => h q.symm)] at e2
      have ne : a ≠ p := fun q => h (M.nd_eq (by rw [← q]; exact e1) hn)
      rcases M.cel m a c' e1 e2 with h | ⟨h, u, hu, r⟩
      · exact .inl h
      · exact .inr ⟨h, u, by rw [upd_ne ne]; exact hu, r⟩
theorem Mem.stepW {n : Nat} (hn : io[n]? = some p) : Step F io H F io (upd H p o) :=
  .of0 Le.rfl Pre.rfl (fun a u e m => by rw [upd_ne (fun q => m (by rw [q]; exact List.mem_of_getElem? hn))]; exact e) (fun _ h m => absurd h m) (fun _ _ _ _ f => f)
/-- a list's cell becomes data -/
theorem Mem.freeze {n : Nat} {ds : List D} (M : Mem K F io H mu) (hn : io[n]? = some p) (h0 : mu[n]? = some (.lst ds)) :
    ∃ o, Mem K (upd F p o) io H (mu.set n .dead) ∧ Step F io H (upd F p o) io H ∧ Rep K (upd F p o) io (.ref p) (.lst ds) := by
  rcases M.cel n p _ hn h0 with h | ⟨hf, o, ho, xs, rfl, hr⟩
  · cases h
  · have lf : Le F (upd F p (.lst xs)) := Le.put hf
    refine ⟨.lst xs, ⟨fun a ps e => ?_, fun m a e1 e2 => ?_, fun a u e => ?_, by rw [List.length_set]; exact M.len, M.nd, M.tr, fun m a c' e1 e2 => ?_⟩, (.of0 lf Pre.rfl (fun _ _ h _ => h) (fun _ h m => absurd h m) (fun a u _ m f => by rw [upd_ne (fun q => m (by rw [q]; exact List.mem_of_getElem? hn))]; exact f)), ?_⟩
    · by_cases h : a = p
      · subst h; rw [upd_same] at e; cases e
      · rw [upd_ne h] at e; exact M.nt _ _ e
    · by_cases h : m = n
      · subst h
        rw [hn] at e1
        cases e1
        exact ⟨_, upd_same⟩
      · rw [List.getElem?_set_ne (fun q => h q.symm)] at e2
        obtain ⟨u, hu⟩ := M.dd m a e1 e2
        exact ⟨u, lf _ _ hu⟩
    · by_cases h : a = p
      · subst h; rw [upd_same] at e; cases e; exact ho
      · rw [upd_ne h] at e; exact M.le _ _ e
    · by_cases h : m = n
      · subst h
        rw [List.getElem?_set_self (List.getElem?_eq_some_iff.mp h0).1] at e2
        cases e2; exact .inl rfl
      · rw [List.getElem?_set_ne (fun q => h q.symm)] at e2
        have ne : a ≠ p := fun q => h (M.nd_eq (by rw [← q]; exact e1) hn)
        rcases M.cel m a c' e1 e2 with h | ⟨h, u, hu, r⟩
        · exact .inl h
        · exact .inr ⟨by rw [upd_ne ne]; exact h, u, hu, r.mono lf Pre.rfl⟩
    · exact .lst upd_same (RepL.mono lf Pre.rfl hr)
end

/-! ### what a value shows now -/
def view (mu : Mu) : D → D
  | .cell n => match mu[n]? with
    | some (.lst l) => .lst l
    | some (.dk l) => .dk l
    | _ => .cell n
  | d => d
section
variable {K : PySem.W.Frag} {F H : Hp} {io : List Addr} {mu : Mu} {v : V} {d : D}
/-- as Rep, over the heap as it stands, one level deep -/
theorem view_cell (mu : Mu) (n : Nat) : view mu (.cell n) = match mu[n]? with
    | some (.lst l) => .lst l
    | some (.dk l) => .dk l
    | _ => .cell n := rfl
theorem Mem.lst {ds : List D} (M : Mem K F io H mu) (r : Rep K F io v d) (e : view mu d = .lst ds) : ∃ a xs, v = .ref a ∧ H a = some (.lst xs) ∧ RepL K F io xs ds := by
  cases r with
  | lst h r => cases e; exact ⟨_, _, rfl, M.le _ _ h, r⟩
  | @cell n a h =>
    rw [view_cell] at e
    cases q : mu[n]? with
    | none => rw [q] at e; cases e
    | some c =>
      rw [q] at e
      cases c with
      | dead => cases e
      | tab _ _ _ => cases e
      | nd _ _ => cases e
      | dk l => cases e
      | lst l =>
        cases e
        rcases M.cel n a _ h q with z | ⟨_, o, ho, xs, rfl, r⟩
        · cases z
        · exact ⟨a, xs, rfl, ho, r⟩
  | _ => cases e
theorem Mem.tup {ds : List D} (M : Mem K F io H mu) (r : Rep K F io v d) (e : view mu d = .tup ds) : ∃ a xs, v = .ref a ∧ SqT K H a xs ∧ RepL K F io xs ds := by
  cases r with
  | tup h r => cases e; exact ⟨_, _, rfl, M.le.sqt h, r⟩
  | @cell n a h =>
    rw [view_cell] at e
    cases q : mu[n]? with
    | none => rw [q] at e; cases e
    | some c =>
      rw [q] at e
      cases c <;> cases e
  | _ => cases e
theorem Mem.dk {ds : List (Key × D)} (M : Mem K F io H mu) (r : Rep K F io v d) (e : view mu d = .dk ds) : ∃ a xs, v = .ref a ∧ Rd H a (.dK xs) ∧ RepK K F io xs ds := by
  cases r with
  | dk h r => cases e; exact ⟨_, _, rfl, .inr ⟨_, M.le _ _ h⟩, r⟩
  | @cell n a h =>
    rw [view_cell] at e
    cases q : mu[n]? with
    | none => rw [q] at e; cases e
    | some c =>
      rw [q] at e
      cases c with
      | dead => cases e
      | tab _ _ _ => cases e
      | nd _ _ => cases e
      | lst l => cases e
      | dk l =>
        cases e
        rcases M.cel n a _ h q with z | ⟨_, o, ho, xs, rfl, r⟩
        · cases z
        · exact ⟨a, xs, rfl, .inl ho, r⟩
  | _ => cases e
/-- a cell that shows a list, for writing -/
theorem Mem.lstW {n : Nat} {ds : List D} (M : Mem K F io H mu) (r : Rep K F io v (.cell n)) (e : mu[n]? = some (.lst ds)) : ∃ a xs, v = .ref a ∧ io[n]? = some a ∧ H a = some (.lst xs) ∧ RepL K F io xs ds := by
  cases r with
  | cell h =>
    rcases M.cel n _ _ h e with z | ⟨_, o, ho, xs, rfl, r⟩
    · cases z
    · exact ⟨_, xs, rfl, h, ho, r⟩
theorem Mem.dkW {n : Nat} {ds : List (Key × D)} (M : Mem K F io H mu) (r : Rep K F io v (.cell n)) (e : mu[n]? = some (.dk ds)) : ∃ a xs, v = .ref a ∧ io[n]? = some a ∧ H a = some (.dK xs) ∧ RepK K F io xs ds := by
  cases r with
  | cell h =>
    rcases M.cel n _ _ h e with z | ⟨_, o, ho, xs, rfl, r⟩
    · cases z
    · exact ⟨_, xs, rfl, h, ho, r⟩
theorem view_nocell {c : D} (e : view mu d = c) (hc : ∀ l, c ≠ .lst l) (hk : ∀ l, c ≠ .dk l) : d = c := by
  cases d with
  | cell n =>
    rw [view_cell] at e
    cases q : mu[n]? with
    | none => rw [q] at e; exact e
    | some x =>
      rw [q] at e
      cases x with
      | dead => exact e
      | tab _ _ _ => exact e
      | nd _ _ => exact e
      | lst l => exact absurd e.symm (hc l)
      | dk l => exact absurd e.symm (hk l)
  | _ => exact e
end

/-! ### results -/
/-- an exception: its class, its own attributes where it has some -/
structure XD where
  cls : Value
  fs : Option (List (Str × D))
def RepX (K : PySem.W.Frag) (F : Hp) (io : List Addr) (H : Hp) (x : XD) (c : Value) (dd : Option Addr) : Prop :=
  c = x.cls ∧ match x.fs with
    | none => dd = none
    | some fs => ∃ a xs, dd = some a ∧ F a = some (.xd ((fs.map (·.1)).zip xs)) ∧ fs.length = xs.length ∧ RepL K F io xs (fs.map (·.2))
inductive Res (α : Type) where
  | ok (a : α) (m : Mu)
  | exc (x : XD) (m : Mu)
  | stuck
def Res.bind {α β : Type} (r : Res α) (f : α → Mu → Res β) : Res β := match r with
  | .ok a m => f a m
  | .exc x m => .exc x m
  | .stuck => .stuck
def Res.ofO {α : Type} : Option (α × Mu) → Res α
  | some p => .ok p.1 p.2
  | none => .stuck

abbrev WH := Value → Option Addr → Hp → Prop
def Sat {α β : Type} (K : PySem.W.Frag) (rep : Hp → List Addr → β → α → Prop) (F : Hp) (io : List Addr) (H : Hp) (W : WH) (r : Res α) (Q : β → Hp → Prop) : Prop :=
  match r with
  | .ok a m => ∀ F' jo H' b, Step F io H F' jo H' → Mem K F' jo H' m → rep F' jo b a → Q b H'
  | .exc x m => ∀ F' jo H' c dd, Step F io H F' jo H' → Mem K F' jo H' m → RepX K F' jo H' x c dd → W c dd H'
  | .stuck => False
def SatO {α β : Type} (K : PySem.W.Frag) (rep : Hp → List Addr → β → α → Prop) (F : Hp) (io : List Addr) (H : Hp) (r : Option (α × Mu)) (Q : β → Hp → Prop) : Prop :=
  match r with
  | some p => ∀ F' jo H' b, Step F io H F' jo H' → Mem K F' jo H' p.2 → rep F' jo b p.1 → Q b H'
  | none => False
section
variable {α β γ δ : Type} {K : PySem.W.Frag} {rep : Hp → List Addr → β → α → Prop} {rep2 : Hp → List Addr → δ → γ → Prop} {F F' H H' : Hp} {io jo : List Addr} {W : WH} {Q : β → Hp → Prop}
theorem Sat.step {r : Res α} (h : Sat K rep F io H W r Q) (s : Step F io H F' jo H') : Sat K rep F' jo H' W r Q := by
  cases r with
  | ok a m => exact fun F2 j2 H2 b s2 => h F2 j2 H2 b (s.trans s2)
  | exc x m => exact fun F2 j2 H2 c dd s2 => h F2 j2 H2 c dd (s.trans s2)
  | stuck => exact h
theorem Sat.ofO {r : Option (α × Mu)} (h : Sat K rep F io H W (.ofO r) Q) : SatO K rep F io H r Q := by
  cases r with
  | some p => exact h
  | none => exact h
theorem Sat.bind {r : Res α} {f : α → Mu → Res γ} {Q2 : δ → Hp → Prop} (h : Sat K rep2 F io H W (r.bind f) Q2) :
    Sat K rep F io H W r fun b H1 => ∃ F1 j1 m1 a, Step F io H F1 j1 H1 ∧ Mem K F1 j1 H1 m1 ∧ rep F1 j1 b a ∧ Sat K rep2 F1 j1 H1 W (f a m1) Q2 := by
  cases r with
  | ok a m => exact fun F1 j1 H1 b s M r => ⟨F1, j1, m, a, s, M, r, Sat.step h s⟩
  | exc x m => exact h
  | stuck => exact h
/-- as bind, the end told from the beginning -/
theorem Sat.bindB {r : Res α} {f : α → Mu → Res γ} {Q2 : δ → Hp → Prop} (h : Sat K rep2 F io H W (r.bind f) Q2) :
    Sat K rep F io H W r fun b H1 => ∃ F1 j1 m1 a, Step F io H F1 j1 H1 ∧ Mem K F1 j1 H1 m1 ∧ rep F1 j1 b a ∧ Sat K rep2 F io H W (f a m1) Q2 := by
  cases r with
  | ok a m => exact fun F1 j1 H1 b s M r => ⟨F1, j1, m, a, s, M, r, h⟩
  | exc x m => exact h
  | stuck => exact h
theorem Sat.imp {r : Res α} {Q2 : β → Hp → Prop} (h : Sat K rep F io H W r Q) (k : ∀ b H1, Q b H1 → Q2 b H1) : Sat K rep F io H W r Q2 := by
  cases r with
  | ok a m => exact fun F2 j2 H2 b s2 M r => k _ _ (h F2 j2 H2 b s2 M r)
  | exc x m => exact h
  | stuck => exact h
end

/-! ### slots -/
abbrev DEnv := List (Option D)
def EnvR (K : PySem.W.Frag) (F : Hp) (io : List Addr) (σ : L2.St) (env : DEnv) : Prop :=
  σ.length = env.length ∧ ∀ (i : Nat) d, env[i]? = some (some d) → ∃ v, σ[i]? = some (some v) ∧ Rep K F io v d
section
variable {K : PySem.W.Frag} {F F' H H' : Hp} {io jo : List Addr} {σ : L2.St} {env : DEnv}
theorem EnvR.step (h : EnvR K F io σ env) (s : Step F io H F' jo H') : EnvR K F' jo σ env :=
  ⟨h.1, fun i d e => let ⟨v, e1, r⟩ := h.2 i d e; ⟨v, e1, r.mono s.le s.pre⟩⟩
theorem EnvR.set {i : Nat} {v : V} {d : D} (h : EnvR K F io σ env) (r : Rep K F io v d) : EnvR K F io (σ.set i (some v)) (env.set i (some d)) := by
  refine ⟨by rw [List.length_set, List.length_set]; exact h.1, fun j e he => ?_⟩
  by_cases q : i = j
  · subst q
    by_cases hl : i < env.length
    · rw [List.getElem?_set_self hl] at he
      cases he
      exact ⟨v, by rw [List.getElem?_set_self (by rw [h.1]; exact hl)], r⟩
    · rw [List.getElem?_eq_none (by rw [List.length_set]; omega)] at he; cases he
  · rw [List.getElem?_set_ne q] at he
    rw [List.getElem?_set_ne q]
    exact h.2 j e he
theorem EnvR.forget {i : Nat} (h : EnvR K F io σ env) : EnvR K F io (σ.set i none) (env.set i none) := by
  refine ⟨by rw [List.length_set, List.length_set]; exact h.1, fun j e he => ?_⟩
  by_cases q : i = j
  · subst q
    by_cases hl : i < env.length
    · rw [List.getElem?_set_self hl] at he; cases he
    · rw [List.getElem?_eq_none (by rw [List.length_set]; omega)] at he; cases he
  · rw [List.getElem?_set_ne q] at he
    rw [List.getElem?_set_ne q]
    exact h.2 j e he
end
end DL

/-! DL2: meanings of expressions and tests, and the rules. -/
namespace DL
open PySem L2

abbrev DenE := DEnv → Mu → Res D
abbrev DenT := DEnv → Mu → Res Bool
abbrev DenA := DEnv → Mu → Res (List D)
abbrev ORes (α : Type) := Option (α × Mu)
def RepB (_ : Hp) (_ : List Addr) (b b' : Bool) : Prop := b = b'

def tE (K : PySem.W.Frag) (W : WX) (m : DenE) : TE := fun σ H Q => ∃ F io env mu, Mem K F io H mu ∧ EnvR K F io σ env ∧ Sat K (Rep K) F io H (fun c dd H => W c dd σ H) (m env mu) Q
def tT (K : PySem.W.Frag) (W : WX) (m : DenT) : TT := fun σ H Q => ∃ F io env mu, Mem K F io H mu ∧ EnvR K F io σ env ∧ Sat K RepB F io H (fun c dd H => W c dd σ H) (m env mu) Q
def tA (K : PySem.W.Frag) (W : WX) (m : DenA) : TA := fun σ H Q => ∃ F io env mu, Mem K F io H mu ∧ EnvR K F io σ env ∧ Sat K (RepL K) F io H (fun c dd H => W c dd σ H) (m env mu) Q
abbrev DE (X : Cx) (W : WX) (e : Expr) (m : DenE) : Prop := PE X e (tE X.K W m)
abbrev DT (X : Cx) (W : WX) (e : Expr) (m : DenT) : Prop := PT X e (tT X.K W m)
abbrev DW (X : Cx) (W : WX) (e : Expr) (m : DenT) : Prop := PW X e (tT X.K W m)
abbrev DA (X : Cx) (W : WX) (es : List Expr) (m : DenA) : Prop := PA X es (tA X.K W m)

section
variable {X : Cx} {W : WX}
theorem _root_.L2.PE.imp {e : Expr} {t t' : TE} (h : PE X e t) (k : ∀ σ H Q, t' σ H Q → t σ H Q) : PE X e t' := ⟨fun pins s σ H Q I q => h.run pins s σ H Q I (k σ H Q q)⟩
theorem _root_.L2.PT.imp {e : Expr} {t t' : TT} (h : PT X e t) (k : ∀ σ H Q, t' σ H Q → t σ H Q) : PT X e t' := ⟨fun pins s σ H Q I q => h.run pins s σ H Q I (k σ H Q q)⟩
theorem _root_.L2.PW.imp {e : Expr} {t t' : TT} (h : PW X e t) (k : ∀ σ H Q, t' σ H Q → t σ H Q) : PW X e t' := ⟨fun w pins s σ H Q I q => h.run w pins s σ H Q I (k σ H Q q)⟩
theorem _root_.L2.PA.imp {e : List Expr} {t t' : TA} (h : PA X e t) (k : ∀ σ H Q, t' σ H Q → t σ H Q) : PA X e t' := ⟨fun p pins s σ H Q I q => h.run p pins s σ H Q I (k σ H Q q)⟩
theorem _root_.L2.PS.imp {e : Stmt} {t t' : TS} (h : PS X e t) (k : ∀ D σ H, t' D σ H → t D σ H) : PS X e t' := ⟨fun pins s σ H D I q => h.run pins s σ H D I (k D σ H q)⟩
theorem _root_.L2.PSs.imp {e : List Stmt} {t t' : TS} (h : PSs X e t) (k : ∀ D σ H, t' D σ H → t D σ H) : PSs X e t' := ⟨fun pins s σ H D I q => h.run pins s σ H D I (k D σ H q)⟩

/-! ### names, constants -/
def mVar (i : Nat) : DenE := fun env mu => match env[i]? with
  | some (some d) => .ok d mu
  | _ => .stuck
def mC (d : D) : DenE := fun _ mu => .ok d mu
theorem de_var {e : Expr} {i : Nat} (h : PE X e (tVar i)) : DE X W e (mVar i) := h.imp fun σ H Q ⟨F, io, env, mu, M, R, q⟩ => by
  unfold mVar at q
  split at q
  · rename_i d e1
    obtain ⟨v, e2, r⟩ := R.2 i d e1
    exact ⟨v, e2, q F io H v Step.rfl M r⟩
  · exact q.elim
theorem de_c {e : Expr} {v : V} {d : D} (h : PE X e (tC v)) (r : ∀ F io, Rep X.K F io v d) : DE X W e (mC d) := h.imp fun σ H Q ⟨F, io, env, mu, M, R, q⟩ => q F io H v Step.rfl M (r F io)
theorem de_int {i j pos} : DE X W (.Constant (.int i) j pos) (mC (.int i)) := de_c pe_int fun _ _ => .int
theorem de_bl {b j pos} : DE X W (.Constant (.bool b) j pos) (mC (.bl b)) := de_c pe_bl fun _ _ => .bl
theorem de_non {j pos} : DE X W (.Constant .none j pos) (mC .non) := de_c pe_non fun _ _ => .non
theorem de_str {x j pos} : DE X W (.Constant (.str x) j pos) (mC (.str x)) := de_c pe_str fun _ _ => .str

/-! ### operators -/
def OpD (K : PySem.W.Frag) (r : R2) (g : Mu → D → D → ORes D) : Prop := ∀ F io H mu x y dx dy (Q : VK), Mem K F io H mu → Rep K F io x dx → Rep K F io y dy → SatO K (Rep K) F io H (g mu dx dy) Q → r x y H Q
def mOp (g : Mu → D → D → ORes D) (ma mb : DenE) : DenE := fun env mu => (ma env mu).bind fun x m1 => (mb env m1).bind fun y m2 => .ofO (g m2 x y)
theorem tE_op {r : R2} {g : Mu → D → D → ORes D} {K : PySem.W.Frag} {ma mb : DenE} (hg : OpD K r g) : ∀ (σ : L2.St) (H : Hp) (Q : VK), tE K W (mOp g ma mb) σ H Q → tOp r (tE K W ma) (tE K W mb) σ H Q :=
  fun σ H Q ⟨F, io, env, mu, M, R, h⟩ => ⟨F, io, env, mu, M, R, (Sat.bind h).imp fun x H1 ⟨F1, j1, m1, dx, s1, M1, r1, h1⟩ =>
    ⟨F1, j1, env, m1, M1, R.step s1, (Sat.bind h1).imp fun y H2 ⟨F2, j2, m2, dy, s2, M2, r2, h2⟩ => hg F2 j2 H2 m2 x y dx dy Q M2 (r1.mono s2.le s2.pre) r2 (Sat.ofO h2)⟩⟩
section
variable {a b c : Expr} {ma mb mc : DenE} {pos : Pos} {r r' : R2} {g g' : Mu → D → D → ORes D}
theorem de_op {op : Operator} (ho : OpR X (binaryOp op) r) (hg : OpD X.K r g) (ha : DE X W a ma) (hb : DE X W b mb) : DE X W (.BinOp a op b pos) (mOp g ma mb) := (pe_op ho ha hb).imp (tE_op hg)
theorem de_cmp {op : CmpOp} (ho : OpR X (compareOp op) r) (hg : OpD X.K r g) (ha : DE X W a ma) (hb : DE X W b mb) (hm : behindInMarks op b = false) : DE X W (.Compare a [op] [b] pos) (mOp g ma mb) := (pe_cmpR ho ha hb hm).imp (tE_op hg)
theorem de_ix (hr : IxR X r) (hg : OpD X.K r g) (ha : DE X W a ma) (hb : DE X W b mb) (hs : PlainIx b) : DE X W (.Subscript a b pos) (mOp g ma mb) := (pe_ix hr ha hb hs).imp (tE_op hg)
/-- a value as a test -/
def mTest (m : DenE) : DenT := fun env mu => (m env mu).bind fun d m1 => match d with
  | .bl b => .ok b m1
  | _ => .stuck
theorem sat_test {K : PySem.W.Frag} {F : Hp} {io : List Addr} {H : Hp} {W : WH} {r : Res D} {Q : Bool → Hp → Prop} (h : Sat K RepB F io H W (r.bind fun d m1 => match d with
  | .bl b => .ok b m1
  | _ => .stuck) Q) : Sat K (Rep K) F io H W r fun x H1 => ∃ k, x = .bl k ∧ Q k H1 := (Sat.bind h).imp fun x H1 ⟨F1, j1, m1, d, s1, M1, r1, h1⟩ => by
  cases d with
  | bl k => exact ⟨k, r1.bl_inv, h1 F1 j1 H1 k Step.rfl M1 rfl⟩
  | _ => exact h1.elim
theorem tT_test {K : PySem.W.Frag} {m : DenE} : ∀ (σ : L2.St) (H : Hp) (Q : Bool → Hp → Prop), tT K W (mTest m) σ H Q → tE K W m σ H fun x H1 => ∃ k, x = .bl k ∧ Q k H1 := fun σ H Q ⟨F, io, env, mu, M, R, h⟩ => ⟨F, io, env, mu, M, R, sat_test h⟩
theorem dt_cmp {op : CmpOp} (ho : OpR X (compareOp op) r) (hg : OpD X.K r g) (ha : DE X W a ma) (hb : DE X W b mb) (hm : behindInMarks op b = false) : DT X W (.Compare a [op] [b] pos) (mTest (mOp g ma mb)) :=
  (pt_cmpR ho ha hb hm).imp fun σ H Q h => tE_op hg σ H _ (tT_test σ H Q h)
/-- a op1 b op2 c -/
def mChain (g g' : Mu → D → D → ORes D) (ma mb mc : DenE) : DenE := fun env mu => (ma env mu).bind fun x m1 => (mb env m1).bind fun y m2 => (Res.ofO (g m2 x y)).bind fun z m3 => match z with
  | .bl true => (mc env m3).bind fun w m4 => .ofO (g' m4 y w)
  | .bl false => .ok (.bl false) m3
  | _ => .stuck
theorem tE_chain {K : PySem.W.Frag} (hg : OpD K r g) (hg' : OpD K r' g') : ∀ (σ : L2.St) (H : Hp) (Q : VK), tE K W (mChain g g' ma mb mc) σ H Q → tChain r r' (tE K W ma) (tE K W mb) (tE K W mc) σ H Q :=
  fun σ H Q ⟨F, io, env, mu, M, R, h⟩ => ⟨F, io, env, mu, M, R, (Sat.bind h).imp fun x H1 ⟨F1, j1, m1, dx, s1, M1, r1, h1⟩ =>
    ⟨F1, j1, env, m1, M1, R.step s1, (Sat.bind h1).imp fun y H2 ⟨F2, j2, m2, dy, s2, M2, r2, h2⟩ => by
      refine hg F2 j2 H2 m2 x y dx dy _ M2 (r1.mono s2.le s2.pre) r2 ?_
      cases e : g m2 dx dy with
      | none => rw [e] at h2; exact h2
      | some p =>
        rw [e] at h2
        intro F3 j3 H3 z s3 M3 r3
        obtain ⟨d, m3⟩ := p
        have h3 := Sat.step h2 s3
        cases d with
        | bl k =>
          refine ⟨k, Rep.bl_inv r3, ?_⟩
          cases k with
          | true =>
            rw [if_pos rfl]
            have h3' : Sat K (Rep K) F3 j3 H3 (fun c dd H => W c dd σ H) ((mc env m3).bind fun w m4 => .ofO (g' m4 dy w)) Q := h3
            exact ⟨F3, j3, env, m3, M3, (R.step s1).step (s2.trans s3), (Sat.bind h3').imp fun w H4 ⟨F4, j4, m4, dw, s4, M4, r4, h4⟩ => hg' F4 j4 H4 m4 y w dy dw Q M4 (r2.mono (s3.trans s4).le (s3.trans s4).pre) r4 (Sat.ofO h4)⟩
          | false =>
            rw [if_neg Bool.false_ne_true]
            exact h3 F3 j3 H3 (.bl false) Step.rfl M3 .bl
        | _ => exact h3.elim⟩⟩
theorem de_chain {op op' : CmpOp} (ho : OpR X (compareOp op) r) (hg : OpD X.K r g) (ho' : OpR X (compareOp op') r') (hg' : OpD X.K r' g') (ha : DE X W a ma) (hb : DE X W b mb) (hc : DE X W c mc)
    (hm : lastMarks [op, op'] [b, c] = false := by with_unfolding_all rfl) : DE X W (.Compare a [op, op'] [b, c] pos) (mChain g g' ma mb mc) := (pe_chain ho ho' ha hb hc hm).imp (tE_chain hg hg')
theorem dt_chain {op op' : CmpOp} (ho : OpR X (compareOp op) r) (hg : OpD X.K r g) (ho' : OpR X (compareOp op') r') (hg' : OpD X.K r' g') (ha : DE X W a ma) (hb : DE X W b mb) (hc : DE X W c mc)
    (hm : lastMarks [op, op'] [b, c] = false := by with_unfolding_all rfl) : DT X W (.Compare a [op, op'] [b, c] pos) (mTest (mChain g g' ma mb mc)) :=
  (pt_chain ho ho' ha hb hc hm).imp fun σ H Q h => tE_chain hg hg' σ H _ (tT_test σ H Q h)
end
theorem dt_val {e : Expr} {m : DenE} (h : DE X W e m) (he : ∀ whole, isTrue e X.env whole = (do let v ← whole; standAt e.pos; holding [v] (truthy v)) := by intro _; rfl) : DT X W e (mTest m) :=
  (pt_val h he).imp fun σ H Q h => tT_test σ H Q h

/-! ### one operand -/
def UnD (K : PySem.W.Frag) (r : V → Hp → VK → Prop) (g : Mu → D → ORes D) : Prop := ∀ F io H mu x dx (Q : VK), Mem K F io H mu → Rep K F io x dx → SatO K (Rep K) F io H (g mu dx) Q → r x H Q
def mUn (g : Mu → D → ORes D) (ma : DenE) : DenE := fun env mu => (ma env mu).bind fun x m1 => .ofO (g m1 x)
theorem de_un {op : UnaryOp} {a : Expr} {ma : DenE} {pos : Pos} {r : V → Hp → VK → Prop} {g : Mu → D → ORes D} (ho : UnR X (unaryOp op) r) (hg : UnD X.K r g) (ha : DE X W a ma) : DE X W (.UnaryOp op a pos) (mUn g ma) :=
  (pe_un ho ha).imp fun σ H Q ⟨F, io, env, mu, M, R, h⟩ => ⟨F, io, env, mu, M, R, (Sat.bind h).imp fun x H1 ⟨F1, j1, m1, dx, s1, M1, r1, h1⟩ => hg F1 j1 H1 m1 x dx Q M1 r1 (Sat.ofO h1)⟩

/-! ### and, or, not, if -/
section
variable {a b : Expr} {rest : List Expr} {pos : Pos} {ma mb : DenT} {na nb nc : DenE}
def mTAnd (ma mb : DenT) : DenT := fun env mu => (ma env mu).bind fun c m1 => if c then mb env m1 else .ok false m1
def mTOr (ma mb : DenT) : DenT := fun env mu => (ma env mu).bind fun c m1 => if c then .ok true m1 else mb env m1
def mTNot (ma : DenT) : DenT := fun env mu => (ma env mu).bind fun c m1 => .ok (!c) m1
theorem dw_and1 (ha : DT X W a ma) : DW X W (.BoolOp .And [a] pos) ma := pw_and1 ha
theorem dw_or1 (ha : DT X W a ma) : DW X W (.BoolOp .Or [a] pos) ma := pw_or1 ha
theorem dw_and (ha : DT X W a ma) (hb : DW X W (.BoolOp .And (b :: rest) pos) mb) : DW X W (.BoolOp .And (a :: b :: rest) pos) (mTAnd ma mb) :=
  (pw_and ha hb).imp fun σ H Q ⟨F, io, env, mu, M, R, h⟩ => ⟨F, io, env, mu, M, R, (Sat.bind h).imp fun c H1 ⟨F1, j1, m1, d, s1, M1, r1, h1⟩ => by
    cases r1
    cases c with
    | true => exact ⟨F1, j1, env, m1, M1, R.step s1, h1⟩
    | false => exact h1 F1 j1 H1 false Step.rfl M1 rfl⟩
theorem dw_or (ha : DT X W a ma) (hb : DW X W (.BoolOp .Or (b :: rest) pos) mb) : DW X W (.BoolOp .Or (a :: b :: rest) pos) (mTOr ma mb) :=
  (pw_or ha hb).imp fun σ H Q ⟨F, io, env, mu, M, R, h⟩ => ⟨F, io, env, mu, M, R, (Sat.bind h).imp fun c H1 ⟨F1, j1, m1, d, s1, M1, r1, h1⟩ => by
    cases r1
    cases c with
    | false => exact ⟨F1, j1, env, m1, M1, R.step s1, h1⟩
    | true => exact h1 F1 j1 H1 true Step.rfl M1 rfl⟩
theorem dt_w {e : Expr} (h : DW X W e ma) : DT X W e ma := h.pt
theorem dt_not (ha : DT X W a ma) : DT X W (.UnaryOp .Not a pos) (mTNot ma) :=
  (pt_not ha).imp fun σ H Q ⟨F, io, env, mu, M, R, h⟩ => ⟨F, io, env, mu, M, R, (Sat.bind h).imp fun c H1 ⟨F1, j1, m1, d, s1, M1, r1, h1⟩ => by
    cases r1
    exact h1 F1 j1 H1 _ Step.rfl M1 rfl⟩
def mAnd (ma mb : DenE) : DenE := fun env mu => (ma env mu).bind fun d m1 => match d with
  | .bl c => if c then mb env m1 else .ok (.bl false) m1
  | _ => .stuck
def mOr (ma mb : DenE) : DenE := fun env mu => (ma env mu).bind fun d m1 => match d with
  | .bl c => if c then .ok (.bl true) m1 else mb env m1
  | _ => .stuck
def mNot (ma : DenE) : DenE := fun env mu => (ma env mu).bind fun d m1 => match d with
  | .bl c => .ok (.bl (!c)) m1
  | _ => .stuck
theorem de_one {op} (ha : DE X W a na) : DE X W (.BoolOp op [a] pos) na := pe_one ha
theorem de_and (ha : DE X W a na) (hb : DE X W (.BoolOp .And (b :: rest) pos) nb) : DE X W (.BoolOp .And (a :: b :: rest) pos) (mAnd na nb) :=
  (pe_and ha hb).imp fun σ H Q ⟨F, io, env, mu, M, R, h⟩ => ⟨F, io, env, mu, M, R, (Sat.bind h).imp fun x H1 ⟨F1, j1, m1, d, s1, M1, r1, h1⟩ => by
    cases d with
    | bl c =>
      refine ⟨c, r1.bl_inv, ?_⟩
      cases c with
      | true => exact iteT ⟨F1, j1, env, m1, M1, R.step s1, h1⟩
      | false => exact iteF (h1 F1 j1 H1 (.bl false) Step.rfl M1 .bl)
    | _ => exact h1.elim⟩
theorem de_or (ha : DE X W a na) (hb : DE X W (.BoolOp .Or (b :: rest) pos) nb) : DE X W (.BoolOp .Or (a :: b :: rest) pos) (mOr na nb) :=
  (pe_or ha hb).imp fun σ H Q ⟨F, io, env, mu, M, R, h⟩ => ⟨F, io, env, mu, M, R, (Sat.bind h).imp fun x H1 ⟨F1, j1, m1, d, s1, M1, r1, h1⟩ => by
    cases d with
    | bl c =>
      refine ⟨c, r1.bl_inv, ?_⟩
      cases c with
      | false => exact iteF ⟨F1, j1, env, m1, M1, R.step s1, h1⟩
      | true => exact iteT (h1 F1 j1 H1 (.bl true) Step.rfl M1 .bl)
    | _ => exact h1.elim⟩
theorem de_not (ha : DE X W a na) : DE X W (.UnaryOp .Not a pos) (mNot na) :=
  (pe_not ha).imp fun σ H Q ⟨F, io, env, mu, M, R, h⟩ => ⟨F, io, env, mu, M, R, (Sat.bind h).imp fun x H1 ⟨F1, j1, m1, d, s1, M1, r1, h1⟩ => by
    cases d with
    | bl c => exact ⟨c, r1.bl_inv, h1 F1 j1 H1 _ Step.rfl M1 .bl⟩
    | _ => exact h1.elim⟩
def mIf (mt : DenT) (na nb : DenE) : DenE := fun env mu => (mt env mu).bind fun c m1 => if c then na env m1 else nb env m1
theorem de_ifx {c : Expr} (hc : DT X W c ma) (ha : DE X W a na) (hb : DE X W b nb) : DE X W (.IfExp c a b pos) (mIf ma na nb) :=
  (pe_ifExp hc ha hb).imp fun σ H Q ⟨F, io, env, mu, M, R, h⟩ => ⟨F, io, env, mu, M, R, (Sat.bind h).imp fun c H1 ⟨F1, j1, m1, d, s1, M1, r1, h1⟩ => by
    cases r1
    cases c with
    | true => exact iteT ⟨F1, j1, env, m1, M1, R.step s1, h1⟩
    | false => exact iteF ⟨F1, j1, env, m1, M1, R.step s1, h1⟩⟩
end

/-! ### argument lists, displays -/
section
variable {e : Expr} {es : List Expr} {me : DenE} {m : DenA} {pos : Pos}
def mNil : DenA := fun _ mu => .ok [] mu
def mCons (me : DenE) (m : DenA) : DenA := fun env mu => (me env mu).bind fun d m1 => (m env m1).bind fun ds m2 => .ok (d :: ds) m2
theorem da_nil : DA X W [] mNil := pa_nil.imp fun σ H Q ⟨F, io, env, mu, M, R, h⟩ => h F io H [] Step.rfl M .nil
theorem da_cons (ha : DE X W e me) (hr : DA X W es m) (hs : starEach (e :: es) X.env = (false, eval e X.env) :: starEach es X.env := by rfl) : DA X W (e :: es) (mCons me m) :=
  (pa_cons ha hr hs).imp fun σ H Q ⟨F, io, env, mu, M, R, h⟩ => ⟨F, io, env, mu, M, R, (Sat.bind h).imp fun x H1 ⟨F1, j1, m1, dx, s1, M1, r1, h1⟩ =>
    ⟨F1, j1, env, m1, M1, R.step s1, (Sat.bind h1).imp fun xs H2 ⟨F2, j2, m2, ds, s2, M2, r2, h2⟩ => h2 F2 j2 H2 _ Step.rfl M2 (.cons (r1.mono s2.le s2.pre) r2)⟩⟩
/-- how many items a list may have here -/
def lim (n : Nat) : Bool := decide (n ≤ 1000000)
theorem lim_line {n : Nat} (h : lim n = true) : n ≤ sizeLine := by
  have h1 : n ≤ 1000000 := of_decide_eq_true h
  rw [sizeLine_eq]; omega
theorem lim_lt {n : Nat} (h : lim n = true) : n < sizeLine := by
  have h1 : n ≤ 1000000 := of_decide_eq_true h
  rw [sizeLine_eq]; omega
def mTup (m : DenA) : DenE := fun env mu => (m env mu).bind fun ds m1 => if lim ds.length then .ok (.tup ds) m1 else .stuck
theorem de_tup {x1} (h : DA X W es m) : DE X W (.Tuple es x1 pos) (mTup m) :=
  (pe_tup h).imp fun σ H Q ⟨F, io, env, mu, M, R, h⟩ => ⟨F, io, env, mu, M, R, (Sat.bind h).imp fun xs H1 ⟨F1, j1, m1, ds, s1, M1, r1, h1⟩ => by
    cases hl : lim ds.length with
    | false => rw [hl] at h1; exact h1.elim
    | true =>
      rw [hl] at h1
      refine ⟨by rw [r1.length]; exact lim_line hl, fun p hp => ?_⟩
      exact h1 _ _ _ _ (M1.stepF hp) (M1.newF hp) (.tup (SqT.of upd_same) (r1.mono (Le.put (M1.fresh hp)) Pre.rfl))⟩
/-- something fresh: data at once (false), or a cell (true) -/
def mk (b : Bool) (c : Cell) (m : Mu) : ORes D := match b, c with
  | _, .dead => none
  | _, .tab _ _ _ => none
  | _, .nd _ _ => none
  | true, .lst l => some (.cell m.length, m ++ [.lst l])
  | true, .dk l => some (.cell m.length, m ++ [.dk l])
  | false, .lst l => some (.lst l, m)
  | false, .dk _ => none
theorem sat_mk {K : PySem.W.Frag} {F : Hp} {io : List Addr} {H : Hp} {mu : Mu} {b : Bool} {c : Cell} {Q : VK} (M : Mem K F io H mu) (h : SatO K (Rep K) F io H (mk b c mu) Q) : ∀ p o, H p = none → CellRep K F io o c → Q (.ref p) (upd H p o) := fun p o hp hc => by
  cases b with
  | true =>
    cases c with
    | dead => exact hc.elim
    | tab _ _ _ => exact h.elim
    | nd _ _ => exact h.elim
    | lst l => exact h F (io ++ [p]) _ _ (M.stepC hp) (M.newC hp hc) (.cell M.lenR)
    | dk l => exact h F (io ++ [p]) _ _ (M.stepC hp) (M.newC hp hc) (.cell M.lenR)
  | false =>
    cases c with
    | dead => exact hc.elim
    | tab _ _ _ => exact h.elim
    | nd _ _ => exact h.elim
    | lst ds =>
      obtain ⟨xs, rfl, r⟩ := hc
      exact h _ io _ _ (M.stepF hp) (M.newF hp) (.lst upd_same (r.mono (Le.put (M.fresh hp)) Pre.rfl))
    | dk ds => exact h.elim
def mLst (b : Bool) (m : DenA) : DenE := fun env mu => (m env mu).bind fun ds m1 => if lim ds.length then .ofO (mk b (.lst ds) m1) else .stuck
theorem de_lst (b : Bool) (h : DA X W es m) : DE X W (.List es pos) (mLst b m) :=
  (pe_lst h).imp fun σ H Q ⟨F, io, env, mu, M, R, h⟩ => ⟨F, io, env, mu, M, R, (Sat.bind h).imp fun xs H1 ⟨F1, j1, m1, ds, s1, M1, r1, h1⟩ => by
    cases hl : lim ds.length with
    | false => rw [hl] at h1; exact h1.elim
    | true =>
      rw [hl] at h1
      exact ⟨by rw [r1.length]; exact lim_line hl, fun p hp => sat_mk M1 (Sat.ofO h1) p _ hp ⟨xs, rfl, r1⟩⟩⟩
end

/-! ### calls of built-ins, methods of built-in types -/
def CallD (K : PySem.W.Frag) (r : List V → Hp → VK → Prop) (g : Mu → List D → ORes D) : Prop := ∀ F io H mu vs ds (Q : VK), Mem K F io H mu → RepL K F io vs ds → SatO K (Rep K) F io H (g mu ds) Q → r vs H Q
def mCall (g : Mu → List D → ORes D) (m : DenA) : DenE := fun env mu => (m env mu).bind fun ds m1 => .ofO (g m1 ds)
theorem tE_call {K : PySem.W.Frag} {r : List V → Hp → VK → Prop} {g : Mu → List D → ORes D} {m : DenA} (hg : CallD K r g) : ∀ (σ : L2.St) (H : Hp) (Q : VK), tE K W (mCall g m) σ H Q → tCB r (tA K W m) σ H Q :=
  fun σ H Q ⟨F, io, env, mu, M, R, h⟩ => ⟨F, io, env, mu, M, R, (Sat.bind h).imp fun vs H1 ⟨F1, j1, m1, ds, s1, M1, r1, h1⟩ => hg F1 j1 H1 m1 vs ds Q M1 r1 (Sat.ofO h1)⟩
section
variable {x : Str} {p pos : Pos} {e : Expr} {es : List Expr} {m : DenA} {id T : String} {r : List V → Hp → VK → Prop} {g : Mu → List D → ORes D}
theorem de_callB (hc : CallR X (.builtin id) r) (hg : CallD X.K r g) (hG : Gl X x) (hm : X.mg x = none) (hv : bootBuiltins x = some (.builtin id)) (ha : DA X W (e :: es) m) (hn : x ≠ "__name__" := by decide) (hdb : (x == ("__debug__" : Str)) = false := by decide)
    (he : starEach (e :: es) X.env = (false, eval e X.env) :: starEach es X.env := by rfl) (hpl : (backTo pos (starEach es X.env)).any (·.1) = false := by rfl) : DE X W (.Call (.Name x p) (e :: es) [] pos) (mCall g m) := (pe_callB hc hG hm hv ha hn hdb he hpl).imp (tE_call hg)
theorem de_callTy (hc : CallR X (.type T) r) (hg : CallD X.K r g) (hG : Gl X x) (hm : X.mg x = none) (hv : bootBuiltins x = some (.type T)) (ha : DA X W (e :: es) m) (hn : x ≠ "__name__" := by decide) (hdb : (x == ("__debug__" : Str)) = false := by decide)
    (he : starEach (e :: es) X.env = (false, eval e X.env) :: starEach es X.env := by rfl) (hpl : (backTo pos (starEach es X.env)).any (·.1) = false := by rfl) : DE X W (.Call (.Name x p) (e :: es) [] pos) (mCall g m) := (pe_callTy hc hG hm hv ha hn hdb he hpl).imp (tE_call hg)
end
/-- ty: which values are of the type T (a method's receiver) -/
def TyD (K : PySem.W.Frag) (T : String) (ty : Mu → D → Bool) : Prop := ∀ F io H mu x dx, Mem K F io H mu → Rep K F io x dx → ty mu dx = true → tyV K T x H
def MetD (K : PySem.W.Frag) (r : V → List V → Hp → VK → Prop) (g : Mu → D → List D → ORes D) : Prop := ∀ F io H mu x vs dx ds (Q : VK), Mem K F io H mu → Rep K F io x dx → RepL K F io vs ds → SatO K (Rep K) F io H (g mu dx ds) Q → r x vs H Q
def mMet (ty : Mu → D → Bool) (g : Mu → D → List D → ORes D) (mo : DenE) (m : DenA) : DenE := fun env mu => (mo env mu).bind fun d m1 => if ty m1 d then (m env m1).bind fun ds m2 => .ofO (g m2 d ds) else .stuck
section
variable {o e : Expr} {es : List Expr} {mo : DenE} {m : DenA} {name : Str} {apos cpos : Pos} {T id : String} {r : V → List V → Hp → VK → Prop} {g : Mu → D → List D → ORes D} {ty : Mu → D → Bool}
theorem de_bm (pa : PlainAttrs T) (slot : Slot T name id) (hty : typeOf (.builtin id) = pure (.type "method_descriptor")) (hm : MtR X id r) (hT : TyD X.K T ty) (hg : MetD X.K r g) (ho : DE X W o mo) (ha : DA X W (e :: es) m)
    (hbase : attributeBase o name X.env (eval o X.env) = eval o X.env := by rfl)
    (hfew : ((backTo cpos (starEach (e :: es) X.env)).all (fun x => !x.1) && (backToKw cpos (keywordEach [] X.env)).all (fun x => x.1.isSome)
      && decide ((e :: es).length + ([] : List Keyword).length + (if ([] : List Keyword).isEmpty then 0 else 1) < 30)) = true := by rfl)
    (hline : (apos.endLine == cpos.line) = true := by rfl) (hs : starEach (e :: es) X.env = (false, eval e X.env) :: starEach es X.env := by rfl) (hplain : (backTo cpos (starEach es X.env)).any (·.1) = false := by rfl) :
    DE X W (.Call (.Attribute o name apos) (e :: es) [] cpos) (mMet ty g mo m) :=
  (pe_bm pa slot hty hm ho ha hbase hfew hline hs hplain).imp fun σ H Q ⟨F, io, env, mu, M, R, h⟩ => ⟨F, io, env, mu, M, R, (Sat.bind h).imp fun x H1 ⟨F1, j1, m1, dx, s1, M1, r1, h1⟩ => by
    cases ht : ty m1 dx with
    | false => rw [ht] at h1; exact h1.elim
    | true =>
      rw [ht] at h1
      exact ⟨hT F1 j1 H1 m1 x dx M1 r1 ht, F1, j1, env, m1, M1, R.step s1, (Sat.bind h1).imp fun vs H2 ⟨F2, j2, m2, ds, s2, M2, r2, h2⟩ => hg F2 j2 H2 m2 x vs dx ds Q M2 (r1.mono s2.le s2.pre) r2 (Sat.ofO h2)⟩⟩
theorem de_bm0 (pa : PlainAttrs T) (slot : Slot T name id) (hty : typeOf (.builtin id) = pure (.type "method_descriptor")) (hm : MtR X id r) (hT : TyD X.K T ty) (hg : MetD X.K r g) (ho : DE X W o mo)
    (hbase : attributeBase o name X.env (eval o X.env) = eval o X.env := by rfl) (hline : (apos.endLine == cpos.line) = true := by rfl) : DE X W (.Call (.Attribute o name apos) [] [] cpos) (mMet ty g mo mNil) :=
  (pe_bm0 pa slot hty hm ho hbase hline).imp fun σ H Q ⟨F, io, env, mu, M, R, h⟩ => ⟨F, io, env, mu, M, R, (Sat.bind h).imp fun x H1 ⟨F1, j1, m1, dx, s1, M1, r1, h1⟩ => by
    cases ht : ty m1 dx with
    | false => rw [ht] at h1; exact h1.elim
    | true =>
      rw [ht] at h1
      exact ⟨hT F1 j1 H1 m1 x dx M1 r1 ht, hg F1 j1 H1 m1 x [] dx [] Q M1 r1 .nil (Sat.ofO h1)⟩⟩
end
end
end DL

/-! DL3: meanings of targets, statements, loops, comprehensions, defs, and the rules. -/
namespace DL
open PySem L2

/-! ### targets -/
/-- the slots but ts are as they were -/
def Same0 (ts : List Nat) (σ σ' : L2.St) : Prop := σ'.length = σ.length ∧ ∀ i, i ∉ ts → σ'[i]? = σ[i]?
abbrev DenG := D → DEnv → Mu → Res DEnv
abbrev DenGs := List D → DEnv → Mu → Res DEnv
def RepG (K : PySem.W.Frag) (ts : List Nat) (σ : L2.St) (F : Hp) (io : List Addr) (σ' : L2.St) (env : DEnv) : Prop := EnvR K F io σ' env ∧ Same0 ts σ σ'
def tG (K : PySem.W.Frag) (W : WX) (ts : List Nat) (m : DenG) : TG := fun v σ H Q => ∃ F io env mu d, Mem K F io H mu ∧ EnvR K F io σ env ∧ Rep K F io v d ∧ Sat K (RepG K ts σ) F io H (fun c dd H => W c dd σ H) (m d env mu) Q
def tGs (K : PySem.W.Frag) (W : WX) (ts : List Nat) (m : DenGs) : TGs := fun vs σ H Q => ∃ F io env mu ds, Mem K F io H mu ∧ EnvR K F io σ env ∧ RepL K F io vs ds ∧ Sat K (RepG K ts σ) F io H (fun c dd H => W c dd σ H) (m ds env mu) Q
/-- no exception leaves a target here -/
abbrev W0 : WX := fun _ _ _ _ => False
abbrev DG (X : Cx) (e : Expr) (ts : List Nat) (m : DenG) : Prop := PG X e (tG X.K W0 ts m)
abbrev DGs (X : Cx) (es : List Expr) (ts : List Nat) (m : DenGs) : Prop := PGs X es (tGs X.K W0 ts m)
section
variable {X : Cx}
theorem _root_.L2.PG.imp {e : Expr} {t t' : TG} (h : PG X e t) (k : ∀ v σ H Q, t' v σ H Q → t v σ H Q) : PG X e t' := ⟨fun pins s σ H v u Q I r q => h.run pins s σ H v u Q I r (k v σ H Q q)⟩
theorem _root_.L2.PGs.imp {e : List Expr} {t t' : TGs} (h : PGs X e t) (k : ∀ v σ H Q, t' v σ H Q → t v σ H Q) : PGs X e t' := ⟨fun pins s σ H v u Q I r q => h.run pins s σ H v u Q I r (k v σ H Q q)⟩
theorem Same0.refl {ts : List Nat} {σ : L2.St} : Same0 ts σ σ := ⟨rfl, fun _ _ => rfl⟩
theorem Same0.set {ts : List Nat} {σ : L2.St} {i : Nat} {v : Option V} (h : i ∈ ts) : Same0 ts σ (σ.set i v) := ⟨List.length_set, fun j hj => by
  rw [List.getElem?_set_ne]
  rintro rfl; exact hj h⟩
theorem Same0.trans {ts us : List Nat} {a b c : L2.St} (h : Same0 ts a b) (k : Same0 us b c) : Same0 (ts ++ us) a c := ⟨k.1.trans h.1, fun j hj => by
  rw [k.2 j (fun q => hj (List.mem_append_right _ q)), h.2 j (fun q => hj (List.mem_append_left _ q))]⟩
def mGName (i : Nat) : DenG := fun d env mu => .ok (env.set i (some d)) mu
theorem dg_name {i : Nat} {x : Str} {pos : Pos} (hN : X.N.Nodup) (hi : X.N[i]? = some x) (hx : Loc X.env.scope x) (hf : X.fn x = true ∨ X.env.scope.names.lookup x = some .local := by first | exact .inl rfl | exact .inr rfl | assumption) : DG X (.Name x pos) [i] (mGName i) :=
  (pg_name hN hi hx hf).imp fun v σ H Q ⟨F, io, env, mu, d, M, R, r, h⟩ => h F io H _ Step.rfl M ⟨R.set r, Same0.set (List.mem_singleton.mpr rfl)⟩
def mGNil : DenGs := fun ds env mu => match ds with
  | [] => .ok env mu
  | _ :: _ => .stuck
def mGCons (m : DenG) (ms : DenGs) : DenGs := fun ds env mu => match ds with
  | [] => .stuck
  | d :: ds => (m d env mu).bind fun e m1 => ms ds e m1
theorem dgs_nil : DGs X [] [] mGNil := pgs_nil.imp fun vs σ H Q ⟨F, io, env, mu, ds, M, R, r, h⟩ => by
  cases r with
  | nil => exact ⟨rfl, h F io H σ Step.rfl M ⟨R, Same0.refl⟩⟩
  | cons _ _ => exact h.elim
theorem dgs_cons {e : Expr} {es : List Expr} {ts us : List Nat} {m : DenG} {ms : DenGs} (h1 : DG X e ts m) (h2 : DGs X es us ms)
    (hs : (assignEach (e :: es) X.env).map (·.2) = assign e X.env :: (assignEach es X.env).map (·.2) := by rfl) : DGs X (e :: es) (ts ++ us) (mGCons m ms) :=
  (pgs_cons h1 h2 hs).imp fun vs σ H Q ⟨F, io, env, mu, ds, M, R, r, h⟩ => by
    cases r with
    | nil => exact h.elim
    | @cons v d vs ds r rr =>
      refine ⟨v, vs, rfl, F, io, env, mu, d, M, R, r, (Sat.bind (rep := RepG X.K ts σ) h).imp fun σ1 H1 ⟨F1, j1, m1, e1, s1, M1, ⟨R1, S1⟩, q⟩ => ?_⟩
      refine ⟨F1, j1, e1, m1, ds, M1, R1, rr.mono s1.le s1.pre, ?_⟩
      cases hq : ms ds e1 m1 with
      | ok a m2 =>
        rw [hq] at q
        exact fun F2 j2 H2 σ2 s2 M2 ⟨R2, S2⟩ => q F2 j2 H2 σ2 s2 M2 ⟨R2, S1.trans S2⟩
      | exc x m2 =>
        rw [hq] at q
        exact fun F2 j2 H2 c dd s2 M2 r2 => q F2 j2 H2 c dd s2 M2 r2
      | stuck => rw [hq] at q; exact q.elim
def mGTup (n : Nat) (ms : DenGs) : DenG := fun d env mu => match d with
  | .tup ds => if ds.length = n then ms ds env mu else .stuck
  | _ => .stuck
theorem dg_tup {es : List Expr} {k : Nat} {ts : List Nat} {ms : DenGs} {n : Nat} {pos : Pos} (hc : X.calm = true) (h : DGs X es ts ms) (hn : (assignEach es X.env).length = n := by rfl) (hst : (assignEach es X.env).findIdx? (·.1) = none := by rfl) : DG X (.Tuple es k pos) ts (mGTup n ms) :=
  (pg_tup hc h hn hst).imp fun v σ H Q ⟨F, io, env, mu, d, M, R, r, h⟩ => by
    cases r with
    | @tup a xs ds q r =>
      have h2 : Sat X.K (RepG X.K ts σ) F io H (fun c dd H => W0 c dd σ H) (if ds.length = n then ms ds env mu else .stuck) Q := h
      by_cases hl : ds.length = n
      · rw [if_pos hl] at h2
        exact ⟨a, xs, rfl, M.le.sqt q, by rw [r.length]; exact hl, F, io, env, mu, ds, M, R, r, h2⟩
      · rw [if_neg hl] at h2; exact h2.elim
    | _ => exact h.elim
end

/-! ### statements -/
inductive SR where
  | nx (e : DEnv) (m : Mu) | rt (d : D) (m : Mu) | bk (e : DEnv) (m : Mu) | ct (e : DEnv) (m : Mu) | exc (x : XD) (e : DEnv) (m : Mu) | stuck
abbrev DenS := DEnv → Mu → SR
def SatS (K : PySem.W.Frag) (F : Hp) (io : List Addr) (H : Hp) (W : WX) (r : SR) (D : Ends) : Prop := match r with
  | .nx e m => ∀ F' jo H' σ, Step F io H F' jo H' → Mem K F' jo H' m → EnvR K F' jo σ e → D.nx σ H'
  | .bk e m => ∀ F' jo H' σ, Step F io H F' jo H' → Mem K F' jo H' m → EnvR K F' jo σ e → D.bk σ H'
  | .ct e m => ∀ F' jo H' σ, Step F io H F' jo H' → Mem K F' jo H' m → EnvR K F' jo σ e → D.ct σ H'
  | .rt d m => ∀ F' jo H' v, Step F io H F' jo H' → Mem K F' jo H' m → Rep K F' jo v d → D.rt v H'
  | .exc x e m => ∀ F' jo H' σ c dd, Step F io H F' jo H' → Mem K F' jo H' m → EnvR K F' jo σ e → RepX K F' jo H' x c dd → W c dd σ H'
  | .stuck => False
def tS (K : PySem.W.Frag) (W : WX) (m : DenS) : TS := fun D σ H => ∃ F io env mu, Mem K F io H mu ∧ EnvR K F io σ env ∧ SatS K F io H W (m env mu) D
abbrev DS (X : Cx) (W : WX) (st : Stmt) (m : DenS) : Prop := PS X st (tS X.K W m)
abbrev DSs (X : Cx) (W : WX) (st : List Stmt) (m : DenS) : Prop := PSs X st (tS X.K W m)
/-- a result of an expression, then a statement's end -/
def Res.andS {α : Type} (r : Res α) (env : DEnv) (f : α → Mu → SR) : SR := match r with
  | .ok a m => f a m
  | .exc x m => .exc x env m
  | .stuck => .stuck
section
variable {X : Cx} {W : WX} {K : PySem.W.Frag} {F F' H H' : Hp} {io jo : List Addr} {En : Ends}
theorem SatS.step {r : SR} (h : SatS K F io H W r En) (s : Step F io H F' jo H') : SatS K F' jo H' W r En := by
  cases r with
  | nx e m => exact fun F2 j2 H2 σ s2 => h F2 j2 H2 σ (s.trans s2)
  | bk e m => exact fun F2 j2 H2 σ s2 => h F2 j2 H2 σ (s.trans s2)
  | ct e m => exact fun F2 j2 H2 σ s2 => h F2 j2 H2 σ (s.trans s2)
  | rt d m => exact fun F2 j2 H2 v s2 => h F2 j2 H2 v (s.trans s2)
  | exc x e m => exact fun F2 j2 H2 σ c dd s2 => h F2 j2 H2 σ c dd (s.trans s2)
  | stuck => exact h
/-- the expression's part of such a statement -/
theorem SatS.andS {α β : Type} {rep : Hp → List Addr → β → α → Prop} {r : Res α} {env : DEnv} {σ : L2.St} {f : α → Mu → SR} (R : EnvR K F io σ env) (h : SatS K F io H W (r.andS env f) En) :
    Sat K rep F io H (fun c dd H => W c dd σ H) r fun b H1 => ∃ F1 j1 m1 a, Step F io H F1 j1 H1 ∧ Mem K F1 j1 H1 m1 ∧ rep F1 j1 b a ∧ SatS K F1 j1 H1 W (f a m1) En := by
  cases r with
  | ok a m => exact fun F1 j1 H1 b s M r => ⟨F1, j1, m, a, s, M, r, SatS.step h s⟩
  | exc x m => exact fun F1 j1 H1 c dd s M r => h F1 j1 H1 σ c dd s M (R.step s) r
  | stuck => exact h
def mSeq (a b : DenS) : DenS := fun env mu => match a env mu with
  | .nx e m => b e m
  | r => r
def mSkip : DenS := fun env mu => .nx env mu
section
variable {st : Stmt} {sts : List Stmt} {a b : DenS}
theorem dss_nil : DSs X W [] mSkip := pss_nil.imp fun D σ H ⟨F, io, env, mu, M, R, h⟩ => h F io H σ Step.rfl M R
theorem dss_cons (h1 : DS X W st a) (h2 : DSs X W sts b) : DSs X W (st :: sts) (mSeq a b) := (pss_cons h1 h2).imp fun D σ H ⟨F, io, env, mu, M, R, h⟩ => by
  refine ⟨F, io, env, mu, M, R, ?_⟩
  unfold mSeq at h
  cases e : a env mu with
  | nx e1 m1 =>
    rw [e] at h
    exact fun F1 j1 H1 σ1 s1 M1 R1 => ⟨F1, j1, e1, m1, M1, R1, SatS.step h s1⟩
  | _ => rw [e] at h; exact h
theorem dss_one (h : DS X W st a) : DSs X W [st] a := pss_one h
/-- code that is never reached -/
def mStuck : DenS := fun _ _ => .stuck
theorem ds_stuck : DS X W st mStuck := ps_never.imp fun D σ H ⟨_, _, _, _, _, _, h⟩ => h
theorem dss_stuck : DSs X W sts mStuck := pss_never.imp fun D σ H ⟨_, _, _, _, _, _, h⟩ => h
theorem ds_pass {pos : Pos} : DS X W (.Pass pos) mSkip := ps_pass.imp fun D σ H ⟨F, io, env, mu, M, R, h⟩ => h F io H σ Step.rfl M R
def mBrk : DenS := fun env mu => .bk env mu
def mCont : DenS := fun env mu => .ct env mu
theorem ds_brk {pos : Pos} : DS X W (.Break pos) mBrk := ps_break.imp fun D σ H ⟨F, io, env, mu, M, R, h⟩ => h F io H σ Step.rfl M R
theorem ds_cont {pos : Pos} : DS X W (.Continue pos) mCont := ps_continue.imp fun D σ H ⟨F, io, env, mu, M, R, h⟩ => h F io H σ Step.rfl M R
end
section
variable {e tg : Expr} {me : DenE} {mg : DenG} {pos pos' : Pos} {ts : List Nat}
def mExpr (me : DenE) : DenS := fun env mu => (me env mu).andS env fun _ m => .nx env m
theorem ds_expr (he : DE X W e me) (hs : swapsWith e none pos.line X.env = pure false := by rfl) : DS X W (.Expr e pos) (mExpr me) := (ps_expr he hs).imp fun D σ H ⟨F, io, env, mu, M, R, h⟩ =>
  ⟨F, io, env, mu, M, R, (SatS.andS R h).imp fun v H1 ⟨F1, j1, m1, d, s1, M1, r1, q⟩ => q F1 j1 H1 σ Step.rfl M1 (R.step s1)⟩
def mRet (me : DenE) : DenS := fun env mu => (me env mu).andS env fun d m => .rt d m
theorem ds_ret (he : DE X W e me) : DS X W (.Return (some e) pos) (mRet me) := (ps_ret he).imp fun D σ H ⟨F, io, env, mu, M, R, h⟩ =>
  ⟨F, io, env, mu, M, R, (SatS.andS R h).imp fun v H1 ⟨F1, j1, m1, d, s1, M1, r1, q⟩ => q F1 j1 H1 v Step.rfl M1 r1⟩
def mRetN : DenS := fun _ mu => .rt .non mu
theorem ds_retN : DS X W (.Return none pos) mRetN := ps_retN.imp fun D σ H ⟨F, io, env, mu, M, R, h⟩ => h F io H .non Step.rfl M .non
def mAsg (me : DenE) (mg : DenG) : DenS := fun env mu => (me env mu).andS env fun d m => (mg d env m).andS env fun e' m' => .nx e' m'
theorem tS_asg {g : TG} {te : TE} (hE : ∀ σ H Q, tE X.K W me σ H Q → te σ H Q) (hG : ∀ v σ H Q, tG X.K W0 ts mg v σ H Q → g v σ H Q) (hx : ∀ d env mu x m, mg d env mu ≠ .exc x m) : ∀ D σ H, tS X.K W (mAsg me mg) D σ H → tAsg te g D σ H := fun D σ H ⟨F, io, env, mu, M, R, h⟩ =>
  hE _ _ _ ⟨F, io, env, mu, M, R, (SatS.andS R h).imp fun v H1 ⟨F1, j1, m1, d, s1, M1, r1, q⟩ => hG _ _ _ _ ⟨F1, j1, env, m1, d, M1, R.step s1, r1, by
    cases hq : mg d env m1 with
    | ok e2 m2 =>
      rw [hq] at q
      exact fun F2 j2 H2 σ2 s2 M2 ⟨R2, _⟩ => q F2 j2 H2 σ2 s2 M2 R2
    | exc x m2 => exact absurd hq (hx _ _ _ _ _)
    | stuck => rw [hq] at q; exact q.elim⟩⟩
/-- targets let nothing out -/
def GOk (mg : DenG) : Prop := ∀ d env mu x m, mg d env mu ≠ .exc x m
def GsOk (mg : DenGs) : Prop := ∀ d env mu x m, mg d env mu ≠ .exc x m
theorem GOk.name {i : Nat} : GOk (mGName i) := fun _ _ _ _ _ h => nomatch h
theorem GsOk.nil : GsOk mGNil := fun ds _ _ _ _ h => by cases ds <;> cases h
theorem GsOk.cons {m : DenG} {ms : DenGs} (h : GOk m) (k : GsOk ms) : GsOk (mGCons m ms) := fun ds env mu x m2 q => by
  cases ds with
  | nil => cases q
  | cons d ds =>
    have q : (m d env mu).bind (fun e m1 => ms ds e m1) = .exc x m2 := q
    cases e : m d env mu with
    | ok a m1 => rw [e] at q; exact k _ _ _ _ _ q
    | exc x1 m1 => exact h _ _ _ _ _ e
    | stuck => rw [e] at q; cases q
theorem GOk.tup {n : Nat} {ms : DenGs} (k : GsOk ms) : GOk (mGTup n ms) := fun d env mu x m q => by
  unfold mGTup at q
  cases d with
  | tup ds =>
    simp only at q
    split at q
    · exact k _ _ _ _ _ q
    · cases q
  | _ => cases q
theorem ds_set {i : Nat} {x : Str} (hN : X.N.Nodup) (hi : X.N[i]? = some x) (hx : Loc X.env.scope x) (he : DE X W e me) (hs : swapsWith e (some (.Name x pos')) pos.line X.env = pure false := by rfl) (hf : X.fn x = true ∨ X.env.scope.names.lookup x = some .local := by first | exact .inl rfl | exact .inr rfl | assumption) :
    DS X W (.Assign [.Name x pos'] e pos) (mAsg me (mGName i)) := (ps_set hN hi hx he hs hf).imp (tS_asg (ts := [i]) (fun _ _ _ h => h) (fun v σ H Q ⟨F, io, env, mu, d, M, R, r, h⟩ => h F io H _ Step.rfl M ⟨R.set r, Same0.set (List.mem_singleton.mpr rfl)⟩) GOk.name)
theorem ds_asg (hx : GOk mg) (he : DE X W e me) (hg : DG X tg ts mg) (hs : swapsWithSole [tg] e pos.line X.env = pure false := by rfl) (hw : swappedStores [tg] e X.env = pure none := by rfl)
    (h1 : (assignEach [tg] X.env).map (·.2) = [assign tg X.env] := by rfl) : DS X W (.Assign [tg] e pos) (mAsg me mg) := (ps_asg he hg hs hw h1).imp (tS_asg (fun _ _ _ h => h) (fun _ _ _ _ h => h) hx)
end
/-- a, b = x, y -/
def mPar (i j : Nat) (m : DenA) : DenS := fun env mu => (m env mu).andS env fun ds m1 => match ds with
  | [d, e] => .nx ((env.set i (some d)).set j (some e)) m1
  | _ => .stuck
theorem ds_par {i j : Nat} {x y : Str} {a b : Expr} {m : DenA} {px py pt pos : Pos} {kt k2 pt2} (hc : X.calm = true) (hN : X.N.Nodup) (hi : X.N[i]? = some x) (hj : X.N[j]? = some y) (hij : i ≠ j)
    (hx : X.env.scope.names.lookup x = some .local) (hy : X.env.scope.names.lookup y = some .local) (ha : DA X W [a, b] m)
    (hw : swappedStores [.Tuple [.Name x px, .Name y py] kt pt] (.Tuple [a, b] k2 pt2) X.env = pure (some [x, y]))
    (hs : swapsWithSole [.Tuple [.Name x px, .Name y py] kt pt] (.Tuple [a, b] k2 pt2) pos.line X.env = pure false := by rfl) :
    DS X W (.Assign [.Tuple [.Name x px, .Name y py] kt pt] (.Tuple [a, b] k2 pt2) pos) (mPar i j m) := (ps_par hc hN hi hj hij hx hy ha hw hs).imp fun D σ H ⟨F, io, env, mu, M, R, h⟩ =>
  ⟨F, io, env, mu, M, R, (SatS.andS R h).imp fun vs H1 ⟨F1, j1, m1, ds, s1, M1, r1, q⟩ => by
    cases r1 with
    | nil => exact q.elim
    | cons ra r1 =>
      cases r1 with
      | nil => exact q.elim
      | cons rb r1 =>
        cases r1 with
        | nil => exact ⟨_, _, rfl, q F1 j1 H1 _ Step.rfl M1 (((R.step s1).set ra).set rb)⟩
        | cons _ _ => exact q.elim⟩
/-- a, b, c = x, y, z -/
def mPar3 (i j k : Nat) (m : DenA) : DenS := fun env mu => (m env mu).andS env fun ds m1 => match ds with
  | [d, e, f] => .nx (((env.set i (some d)).set j (some e)).set k (some f)) m1
  | _ => .stuck

/-! ### if, while -/
section
variable {c : Expr} {mc : DenT} {sa sb : List Stmt} {ma mb : DenS} {pos : Pos}
def mIfS (mc : DenT) (ma mb : DenS) : DenS := fun env mu => (mc env mu).andS env fun b m => if b then ma env m else mb env m
theorem ds_if (hc : DT X W c mc) (ha : DSs X W sa ma) (hb : DSs X W sb mb) : DS X W (.If c sa sb pos) (mIfS mc ma mb) := (ps_if hc ha hb).imp fun D σ H ⟨F, io, env, mu, M, R, h⟩ =>
  ⟨F, io, env, mu, M, R, (SatS.andS R h).imp fun b H1 ⟨F1, j1, m1, b', s1, M1, r1, q⟩ => by
    cases r1
    cases b with
    | true => exact iteT ⟨F1, j1, env, m1, M1, R.step s1, q⟩
    | false => exact iteF ⟨F1, j1, env, m1, M1, R.step s1, q⟩⟩
/-- fuel: as many turns at most -/
def whileL (mc : DenT) (mb : DenS) : Nat → DEnv → Mu → SR
  | 0, _, _ => .stuck
  | n + 1, env, mu => (mc env mu).andS env fun b m => if b then (match mb env m with
      | .nx e m' => whileL mc mb n e m'
      | .ct e m' => whileL mc mb n e m'
      | .bk e m' => .nx e m'
      | r => r) else .nx env m
def mWhile (fuel : Nat) (mc : DenT) (mb : DenS) : DenS := fun env mu => whileL mc mb fuel env mu
theorem ds_while (fuel : Nat) {body : List Stmt} (hp : PassesOwn (model X.prog X.w) X.A X.env X.xe) (hc : DT X W c mc) (hb : DSs X W body mb) : DS X W (.While c body [] pos) (mWhile fuel mc mb) := (ps_while hp hc hb).imp fun D σ H ⟨F, io, env, mu, M, R, h⟩ => by
  refine ⟨fun n σ H => ∃ F io env mu, Mem X.K F io H mu ∧ EnvR X.K F io σ env ∧ SatS X.K F io H W (whileL mc mb n env mu) D, ⟨fuel, F, io, env, mu, M, R, h⟩, fun n σ H ⟨F, io, env, mu, M, R, h⟩ => ?_⟩
  cases n with
  | zero => exact h.elim
  | succ n =>
    refine ⟨F, io, env, mu, M, R, (SatS.andS R h).imp fun b H1 ⟨F1, j1, m1, b', s1, M1, r1, q⟩ => ?_⟩
    cases r1
    cases b with
    | false => exact iteF (q F1 j1 H1 σ Step.rfl M1 (R.step s1))
    | true =>
      refine iteT ⟨fun σ H => ∃ F io env mu, Mem X.K F io H mu ∧ EnvR X.K F io σ env ∧ SatS X.K F io H W (whileL mc mb n env mu) D, fun σ' H' w => ⟨n, Nat.lt_succ_self n, w⟩, F1, j1, env, m1, M1, R.step s1, ?_⟩
      have q2 : SatS X.K F1 j1 H1 W (match mb env m1 with
        | .nx e m' => whileL mc mb n e m'
        | .ct e m' => whileL mc mb n e m'
        | .bk e m' => .nx e m'
        | r => r) D := q
      cases e : mb env m1 with
      | nx e2 m2 => rw [e] at q2; exact fun F2 j2 H2 σ2 s2 M2 R2 => ⟨F2, j2, e2, m2, M2, R2, SatS.step q2 s2⟩
      | ct e2 m2 => rw [e] at q2; exact fun F2 j2 H2 σ2 s2 M2 R2 => ⟨F2, j2, e2, m2, M2, R2, SatS.step q2 s2⟩
      | bk e2 m2 => rw [e] at q2; exact q2
      | rt d m2 => rw [e] at q2; exact q2
      | exc x e2 m2 => rw [e] at q2; exact q2
      | stuck => rw [e] at q2; exact q2
end

/-! ### what is walked; for -/
abbrev DenI := DEnv → Mu → Res (List D)
/-- the iterator gives the items ds, from wherever one comes back to it -/
def ItRep (K : PySem.W.Frag) (F : Hp) (io : List Addr) (J : It) (ds : List D) : Prop := ∀ F' jo H' mu', Le F F' → Pre io jo → Mem K F' jo H' mu' →
  (∀ (i : Nat) d, ds[i]? = some d → J.go i H' ∧ ∀ x H2, J.yld i H' x H2 → ∃ F2, Step F' jo H' F2 jo H2 ∧ Mem K F2 jo H2 mu' ∧ Rep K F2 jo x d) ∧ ∀ i, ds.length ≤ i → J.stop i H'
theorem ItRep.mono {F F' : Hp} {io jo : List Addr} {J : It} {ds : List D} (h : ItRep K F io J ds) (l : Le F F') (p : Pre io jo) : ItRep K F' jo J ds := fun F2 j2 H2 m2 l2 p2 M2 => h F2 j2 H2 m2 (l.trans l2) (p.trans p2) M2
def tI (K : PySem.W.Frag) (W : WX) (m : DenI) : TI := fun σ H R => ∃ F io env mu, Mem K F io H mu ∧ EnvR K F io σ env ∧ Sat K (ItRep K) F io H (fun c dd H => W c dd σ H) (m env mu) R
abbrev DI (X : Cx) (W : WX) (tg iter : Expr) (m : DenI) : Prop := PI X tg iter (tI X.K W m)
theorem _root_.L2.PI.imp {tg e : Expr} {t t' : TI} (h : PI X tg e t) (k : ∀ σ H R, t' σ H R → t σ H R) : PI X tg e t' := ⟨fun pins s σ H R I q => h.run pins s σ H R I (k σ H R q)⟩
def forL (mg : DenG) (mb : DenS) : List D → DEnv → Mu → SR
  | [], env, mu => .nx env mu
  | d :: ds, env, mu => (mg d env mu).andS env fun e m => match mb e m with
      | .nx e' m' => forL mg mb ds e' m'
      | .ct e' m' => forL mg mb ds e' m'
      | .bk e' m' => .nx e' m'
      | r => r
def mFor (mi : DenI) (mg : DenG) (mb : DenS) : DenS := fun env mu => (mi env mu).andS env fun ds m => forL mg mb ds env m
section
variable {tg iter : Expr} {body : List Stmt} {mi : DenI} {mg : DenG} {mb : DenS} {ts : List Nat} {pos : Pos}
theorem ds_for (hx : GOk mg) (hp : PassesOwn (model X.prog X.w) X.A X.env X.xe) (hc : X.calm = true) (hi : DI X W tg iter mi) (hg : DG X tg ts mg) (hb : DSs X W body mb)
    (hs : ∀ x, foldedSetIterable iter X.env x = pure x := by intro _; rfl) : DS X W (.For tg iter body [] pos) (mFor mi mg mb) := (ps_for hp hc hi hg hb hs).imp fun D σ H ⟨F, io, env, mu, M, R, h⟩ => by
  refine ⟨F, io, env, mu, M, R, (SatS.andS R h).imp fun J H1 ⟨F1, j1, m1, ds, s1, M1, r1, q⟩ => ?_⟩
  refine ⟨fun i m σ H => i + m = ds.length ∧ ∃ F io env mu, Mem X.K F io H mu ∧ EnvR X.K F io σ env ∧ ItRep X.K F io J ds ∧ SatS X.K F io H W (forL mg mb (ds.drop i) env mu) D,
    ⟨ds.length, Nat.zero_add _, F1, j1, env, m1, M1, R.step s1, r1, by rw [List.drop_zero]; exact q⟩, fun i m σ H ⟨hm, F, io, env, mu, M, R, J0, h⟩ => ?_⟩
  obtain ⟨J1, J2⟩ := J0 F io H mu Le.rfl Pre.rfl M
  cases m with
  | zero =>
    rw [List.drop_eq_nil_of_le (by omega)] at h
    exact .inl ⟨J2 i (by omega), h F io H σ Step.rfl M R⟩
  | succ m =>
    have hi : i < ds.length := by omega
    obtain ⟨y, K1⟩ := J1 i ds[i] (List.getElem?_eq_getElem hi)
    rw [List.drop_eq_getElem_cons hi] at h
    refine .inr ⟨y, fun σ H => (i + 1) + m = ds.length ∧ ∃ F io env mu, Mem X.K F io H mu ∧ EnvR X.K F io σ env ∧ ItRep X.K F io J ds ∧ SatS X.K F io H W (forL mg mb (ds.drop (i + 1)) env mu) D, fun σ' H' w => ⟨m, Nat.lt_succ_self m, w⟩, fun x H2 yl => ?_⟩
    obtain ⟨F2, s2, M2, r2⟩ := K1 x H2 yl
    have h2 := SatS.step h s2
    refine ⟨F2, io, env, mu, ds[i], M2, R.step s2, r2, ?_⟩
    have h3 : SatS X.K F2 io H2 W ((mg ds[i] env mu).andS env fun e m => match mb e m with
      | .nx e' m' => forL mg mb (ds.drop (i + 1)) e' m'
      | .ct e' m' => forL mg mb (ds.drop (i + 1)) e' m'
      | .bk e' m' => .nx e' m'
      | r => r) D := h2
    cases hq : mg ds[i] env mu with
    | exc x m2 => exact absurd hq (hx _ _ _ _ _)
    | stuck => rw [hq] at h3; exact h3.elim
    | ok e3 m3 =>
      rw [hq] at h3
      refine fun F3 j3 H3 σ3 s3 M3 ⟨R3, _⟩ => ⟨F3, j3, e3, m3, M3, R3, ?_⟩
      have h4 : SatS X.K F3 j3 H3 W (match mb e3 m3 with
        | .nx e' m' => forL mg mb (ds.drop (i + 1)) e' m'
        | .ct e' m' => forL mg mb (ds.drop (i + 1)) e' m'
        | .bk e' m' => .nx e' m'
        | r => r) D := SatS.step h3 s3
      have J3 : ItRep X.K F3 j3 J ds := J0.mono (s2.trans s3).le (s2.trans s3).pre
      cases e : mb e3 m3 with
      | nx e4 m4 => rw [e] at h4; exact fun F4 j4 H4 σ4 s4 M4 R4 => ⟨by omega, F4, j4, e4, m4, M4, R4, J3.mono s4.le s4.pre, SatS.step h4 s4⟩
      | ct e4 m4 => rw [e] at h4; exact fun F4 j4 H4 σ4 s4 M4 R4 => ⟨by omega, F4, j4, e4, m4, M4, R4, J3.mono s4.le s4.pre, SatS.step h4 s4⟩
      | bk e4 m4 => rw [e] at h4; exact h4
      | rt d m4 => rw [e] at h4; exact h4
      | exc x e4 m4 => rw [e] at h4; exact h4
      | stuck => rw [e] at h4; exact h4
end

/-! ### comprehensions -/
def Res.noX {α : Type} : Res α → Res α
  | .exc _ _ => .stuck
  | r => r
def wipeD (env : DEnv) : List Nat → DEnv
  | [] => env
  | v :: vs => (wipeD env vs).set v none
theorem EnvR.wipe {F : Hp} {io : List Addr} {σ : L2.St} {env : DEnv} (h : EnvR K F io σ env) : ∀ vs, EnvR K F io (wipe σ vs) (wipeD env vs)
  | [] => h
  | v :: vs => (EnvR.wipe h vs).forget
theorem wipe_in : ∀ {vs : List Nat} {i : Nat} {σ : L2.St}, i ∈ vs → i < σ.length → (wipe σ vs)[i]? = some none
  | v :: vs, i, σ, h, hl => by
    unfold wipe
    by_cases q : v = i
    · subst q; rw [List.getElem?_set_self (by rw [wipe_length]; exact hl)]
    · rw [List.getElem?_set_ne q]
      rcases List.mem_cons.mp h with z | z
      · exact absurd z.symm q
      · exact wipe_in z hl
theorem wipe_out' : ∀ {vs : List Nat} {i : Nat} {σ : L2.St}, i ∉ vs → (wipe σ vs)[i]? = σ[i]?
  | [], _, _, _ => rfl
  | v :: vs, i, σ, h => by
    unfold wipe
    rw [List.getElem?_set_ne (fun q => h (by rw [q]; exact List.mem_cons_self)), wipe_out' (fun q => h (List.mem_cons_of_mem _ q))]
theorem wipe_same {ts vs : List Nat} {σ σ2 : L2.St} (hs : ∀ i, i ∈ ts → i ∈ vs) (h : Same0 ts (wipe σ vs) σ2) : wipe σ2 vs = wipe σ vs := by
  have hl : σ2.length = σ.length := h.1.trans (wipe_length σ vs)
  apply List.ext_getElem?
  intro i
  by_cases q : i ∈ vs
  · by_cases hi : i < σ.length
    · rw [wipe_in q hi, wipe_in q (by rw [hl]; exact hi)]
    · rw [List.getElem?_eq_none (by rw [wipe_length]; omega), List.getElem?_eq_none (by rw [wipe_length]; omega)]
  · rw [wipe_out' q, h.2 i (fun z => q (hs i z))]
def lcL (mg : DenG) (mt : DenT) (me : DenE) (env0 : DEnv) : List D → List D → Mu → Res (List D)
  | [], acc, mu => .ok acc mu
  | d :: ds, acc, mu => (mg d env0 mu).noX.bind fun e m1 => (mt e m1).noX.bind fun c m2 => if c then (me e m2).noX.bind fun y m3 => if lim acc.length then lcL mg mt me env0 ds (acc ++ [y]) m3 else .stuck else lcL mg mt me env0 ds acc m2
def mLc (b : Bool) (mi : DenI) (mg : DenG) (mt : DenT) (me : DenE) (own : List Nat) : DenE := fun env mu => (mi env mu).bind fun ds m => (lcL mg mt me (wipeD env own) ds [] m).bind fun out m' => .ofO (mk b (.lst out) m')
def mYes : DenT := fun _ mu => .ok true mu
theorem sat_noX {α β : Type} {rep : Hp → List Addr → β → α → Prop} {V W : WH} {r : Res α} {Q : β → Hp → Prop} (h : Sat K rep F io H V r.noX Q) : Sat K rep F io H W r Q := by
  cases r with
  | ok a m => exact h
  | exc x m => exact h.elim
  | stuck => exact h
theorem noX_bind {α β : Type} {r : Res α} {f : α → Mu → Res β} {x : XD} {m : Mu} (h : ∀ a m', f a m' ≠ .exc x m) : r.noX.bind f ≠ .exc x m := by
  cases r with
  | ok a m' => exact h a m'
  | exc _ _ => exact fun q => nomatch q
  | stuck => exact fun q => nomatch q
theorem lcL_noX {mg : DenG} {mt : DenT} {me : DenE} {env0 : DEnv} {x : XD} {m : Mu} : ∀ (ds acc : List D) (mu : Mu), lcL mg mt me env0 ds acc mu ≠ .exc x m
  | [], _, _ => fun q => nomatch q
  | d :: ds, acc, mu => by
    unfold lcL
    refine noX_bind fun e m1 => noX_bind fun c m2 => ?_
    cases c with
    | false => exact lcL_noX ds acc m2
    | true =>
      refine noX_bind fun y m3 => ?_
      cases lim acc.length with
      | false => exact fun q => nomatch q
      | true => exact lcL_noX ds _ m3
/-- the tests behind «if» -/
structure DTs (X : Cx) (ifs : List Expr) (m : DenT) : Prop where
  h : PTs X ifs (tT X.K W0 m)
theorem dts_nil : DTs X [] mYes := ⟨⟨fun pins s σ H Q I ⟨F, io, env, mu, M, R, h⟩ => pts_nil.run pins s σ H Q I (h F io H true Step.rfl M rfl)⟩⟩
theorem dts_one {c : Expr} {m : DenT} (h : DT X W0 c m) : DTs X [c] m := ⟨pts_one h⟩
section
variable {elt tg iter : Expr} {ifs : List Expr} {scope : Scope} {own : List (Str × Nat)} {pos spos py : Pos} {mi : DenI} {mg : DenG} {mt : DenT} {me : DenE} {ts : List Nat}
theorem sat_bindX {α β γ δ : Type} {rep : Hp → List Addr → β → α → Prop} {rep2 : Hp → List Addr → δ → γ → Prop} {F1 H1 F H : Hp} {j1 io : List Addr} {V : WH} {r : Res α} {f : α → Mu → Res γ} {Q : δ → Hp → Prop} (h : Sat K rep2 F1 j1 H1 V (r.noX.bind f) Q) (s : Step F1 j1 H1 F io H) :
    Sat K rep F io H (fun _ _ _ => False) r fun b H2 => ∃ F2 j2 m2 a, Step F io H F2 j2 H2 ∧ Mem K F2 j2 H2 m2 ∧ rep F2 j2 b a ∧ Sat K rep2 F1 j1 H1 V (f a m2) Q := by
  cases r with
  | ok a m => exact fun F2 j2 H2 b s2 M2 r2 => ⟨F2, j2, m, a, s2, M2, r2, h⟩
  | exc x m => exact h.elim
  | stuck => exact h
theorem bind_assoc {α β γ : Type} {r : Res α} {f : α → Mu → Res β} {g : β → Mu → Res γ} : (r.bind f).bind g = r.bind fun a m => (f a m).bind g := by
  cases r <;> rfl
theorem tE_lc (b : Bool) (hts : ∀ i, i ∈ ts → i ∈ own.map (·.2)) : ∀ (σ : L2.St) (H : Hp) (Q : VK), tE K W (mLc b mi mg mt me (own.map (·.2))) σ H Q →
    tLc (tI K W mi) (tG K W0 ts mg) (tT K W0 mt) (tE K W0 me) (own.map (·.2)) σ H Q := fun σ H Q ⟨F, io, env, mu, M, R, h⟩ => by
  refine ⟨F, io, env, mu, M, R, (Sat.bind h).imp fun J H1 ⟨F1, j1, m1, ds, s1, M1, r1, q⟩ D hD => ?_⟩
  refine ⟨fun i m H => i + m = ds.length ∧ ∃ F io mu acc xs, Step F1 j1 H1 F io H ∧ Mem K F io H mu ∧ H D = some (.lst xs) ∧ F D = none ∧ D ∉ io ∧ RepL K F io xs acc ∧
      Sat K (Rep K) F1 j1 H1 (fun c dd H => W c dd σ H) ((lcL mg mt me (wipeD env (own.map (·.2))) (ds.drop i) acc mu).bind fun out m' => .ofO (mk b (.lst out) m')) Q,
    ⟨ds.length, Nat.zero_add _, F1, j1, m1, [], [], M1.stepX hD, M1.newX hD, upd_same, M1.fresh hD, M1.notin hD, .nil, by rw [List.drop_zero]; exact q⟩,
    fun i m H ⟨hm, F, io, mu, acc, xs, s0, M, hl, hF, hio, ra, h⟩ => ?_⟩
  obtain ⟨J1, J2⟩ := r1 F io H mu s0.le s0.pre M
  have R' : EnvR K F io (wipe σ (own.map (·.2))) (wipeD env (own.map (·.2))) := ((R.step s1).step s0).wipe _
  cases m with
  | zero =>
    refine .inl ⟨J2 i (by omega), ?_⟩
    rw [List.drop_eq_nil_of_le (by omega)] at h
    have h : SatO K (Rep K) F1 j1 H1 (mk b (.lst acc) mu) Q := Sat.ofO h
    cases b with
    | true =>
      refine h F (io ++ [D]) H _ ⟨s0.le, s0.pre.trans Pre.app, s0.keep, fun a ha hn o e => ?_, s0.fr⟩ (M.adoptC hl hF hio ⟨xs, rfl, ra⟩) (.cell M.lenR)
      rcases List.mem_append.mp ha with z | z
      · exact s0.new a z hn o e
      · rw [List.mem_singleton.mp z, hD] at e; cases e
    | false => exact h (upd F D (.lst xs)) io H _ ⟨s0.le.trans (Le.put hF), s0.pre, s0.keep, s0.new, fun a o e m pl f => by rw [upd_ne (ne_of_none e hD)]; exact s0.fr a o e m pl f⟩ (M.adoptF hl hF hio) (.lst upd_same (ra.mono (Le.put hF) Pre.rfl))
  | succ m =>
    have hi : i < ds.length := by omega
    obtain ⟨y, K1⟩ := J1 i ds[i] (List.getElem?_eq_getElem hi)
    rw [List.drop_eq_getElem_cons hi] at h
    unfold lcL at h
    rw [bind_assoc] at h
    refine .inr ⟨y, fun H => (i + 1) + m = ds.length ∧ ∃ F io mu acc xs, Step F1 j1 H1 F io H ∧ Mem K F io H mu ∧ H D = some (.lst xs) ∧ F D = none ∧ D ∉ io ∧ RepL K F io xs acc ∧
      Sat K (Rep K) F1 j1 H1 (fun c dd H => W c dd σ H) ((lcL mg mt me (wipeD env (own.map (·.2))) (ds.drop (i + 1)) acc mu).bind fun out m' => .ofO (mk b (.lst out) m')) Q,
      fun H' w => ⟨m, Nat.lt_succ_self m, w⟩, fun x H2 yl => ?_⟩
    -- what stands untold at D stays there
    have keepD : ∀ {F' H' : Hp} {io' : List Addr}, Step F io H F' io' H' → H' D = some (.lst xs) ∧ F' D = none ∧ D ∉ io' := fun s => by
      refine ⟨s.keep D _ hl hio nofun, s.fr D _ hl hio Plain.lst hF, fun z => ?_⟩
      obtain ⟨ps, q⟩ := s.new D z hio _ hl
      cases q
    obtain ⟨F2, s2, M2, r2⟩ := K1 x H2 yl
    refine ⟨F2, io, _, mu, ds[i], M2, R'.step s2, r2, (sat_bindX (rep := RepG K ts (wipe σ (own.map (·.2)))) h (s0.trans s2)).imp fun σ3 H3 ⟨F3, j3, m3, e3, s3, M3, ⟨R3, S3⟩, h3⟩ => ?_⟩
    refine ⟨wipe_same hts S3, F3, j3, e3, m3, M3, R3, ?_⟩
    have s03 := (s0.trans s2).trans s3
    rw [bind_assoc] at h3
    refine (sat_bindX (rep := RepB) h3 s03).imp fun c H4 ⟨F4, j4, m4, c', s4, M4, r4, h4⟩ => ?_
    cases r4
    have s04 := s03.trans s4
    cases c with
    | false =>
      refine iteF ⟨by omega, F4, j4, m4, acc, xs, s04, M4, (keepD ((s2.trans s3).trans s4)).1, (keepD ((s2.trans s3).trans s4)).2.1, (keepD ((s2.trans s3).trans s4)).2.2, ra.mono ((s2.trans s3).trans s4).le ((s2.trans s3).trans s4).pre, h4⟩
    | true =>
      have h4 : Sat K (Rep K) F1 j1 H1 (fun c dd H => W c dd σ H) (((me e3 m4).noX.bind fun y m3 => if lim acc.length then lcL mg mt me (wipeD env (own.map (·.2))) (ds.drop (i + 1)) (acc ++ [y]) m3 else .stuck).bind fun out m' => .ofO (mk b (.lst out) m')) Q := h4
      rw [bind_assoc] at h4
      refine iteT ⟨F4, j4, e3, m4, M4, R3.step s4, (sat_bindX (rep := Rep K) h4 s04).imp fun y H5 ⟨F5, j5, m5, dy, s5, M5, r5, h5⟩ => ?_⟩
      have st : Step F io H F5 j5 H5 := ((s2.trans s3).trans s4).trans s5
      obtain ⟨k1, k2, k3⟩ := keepD st
      have h6 : Sat K (Rep K) F1 j1 H1 (fun c dd H => W c dd σ H) ((if lim acc.length then lcL mg mt me (wipeD env (own.map (·.2))) (ds.drop (i + 1)) (acc ++ [dy]) m5 else .stuck).bind fun out m' => .ofO (mk b (.lst out) m')) Q := h5
      cases hz : lim acc.length with
      | false => rw [hz] at h6; exact h6.elim
      | true =>
        rw [hz] at h6
        have ra' := ra.mono st.le st.pre
        refine ⟨xs, k1, by rw [ra.length]; exact lim_lt hz, by omega, F5, j5, m5, acc ++ [dy], xs ++ [y], ?_, M5.setX k3 k2 k1, upd_same, k2, k3, ra'.append (.cons r5 .nil), h6⟩
        have sb := s0.trans st
        exact ⟨sb.le, sb.pre, fun a o e n t => by rw [upd_ne (ne_of_none e hD)]; exact sb.keep a o e n t, sb.new, sb.fr⟩
theorem de_lc (b : Bool) (hts : ∀ i, i ∈ ts → i ∈ own.map (·.2)) (hc : X.calm = true) (hN : X.N.Nodup) (hi : DI X W tg iter mi) (ok : BlkOk X.N X.env.scope scope own)
    (hg : ∀ (s : Shared) (H : Hp) (C : Addr) (cl : List (Str × Addr)) (fp : List Addr), DG (X.blk s H scope (compEnvC scope cl C X.env) fp) tg ts mg) (ht : ∀ (s : Shared) (H : Hp) (C : Addr) (cl : List (Str × Addr)) (fp : List Addr), DTs (X.blk s H scope (compEnvC scope cl C X.env) fp) ifs mt)
    (he : ∀ (s : Shared) (H : Hp) (C : Addr) (cl : List (Str × Addr)) (fp : List Addr), DE (X.blk s H scope (compEnvC scope cl C X.env) fp) W0 elt me) (hs : ∀ x, foldedSetIterable iter X.env x = pure x := by intro _; rfl) :
    DE X W (.ListComp elt [⟨tg, iter, ifs, 0⟩] scope pos) (mLc b mi mg mt me (own.map (·.2))) :=
  (pe_lc hc hN hi ok (fun s H C cl fp => hg s H C cl fp) (fun s H C cl fp => (ht s H C cl fp).h) (fun s H C cl fp => he s H C cl fp) hs).imp (tE_lc b hts)
theorem ds_setLc (b : Bool) {i : Nat} {y : Str} (hts : ∀ i, i ∈ ts → i ∈ own.map (·.2)) (hc : X.calm = true) (hN : X.N.Nodup) (hy : X.N[i]? = some y) (hyl : X.env.scope.names.lookup y = some .local)
    (hsw : swapsWith (.ListComp elt [⟨tg, iter, ifs, 0⟩] scope pos) (some (.Name y py)) spos.line X.env = pure true) (hi : DI X W tg iter mi) (ok : BlkOk X.N X.env.scope scope own)
    (hg : ∀ (s : Shared) (H : Hp) (C : Addr) (cl : List (Str × Addr)) (fp : List Addr), DG (X.blk s H scope (compEnvC scope cl C X.env) fp) tg ts mg) (ht : ∀ (s : Shared) (H : Hp) (C : Addr) (cl : List (Str × Addr)) (fp : List Addr), DTs (X.blk s H scope (compEnvC scope cl C X.env) fp) ifs mt)
    (he : ∀ (s : Shared) (H : Hp) (C : Addr) (cl : List (Str × Addr)) (fp : List Addr), DE (X.blk s H scope (compEnvC scope cl C X.env) fp) W0 elt me) (hs : ∀ x, foldedSetIterable iter X.env x = pure x := by intro _; rfl) :
    DS X W (.Assign [.Name y py] (.ListComp elt [⟨tg, iter, ifs, 0⟩] scope pos) spos) (mAsg (mLc b mi mg mt me (own.map (·.2))) (mGName i)) :=
  (ps_setLc hc hN hy hyl hsw hi ok (fun s H C cl fp => hg s H C cl fp) (fun s H C cl fp => (ht s H C cl fp).h) (fun s H C cl fp => he s H C cl fp) hs).imp
    (tS_asg (ts := [i]) (fun σ H Q h => tE_lc b hts σ H Q h) (fun v σ H Q ⟨F, io, env, mu, d, M, R, r, h⟩ => h F io H _ Step.rfl M ⟨R.set r, Same0.set (List.mem_singleton.mpr rfl)⟩) GOk.name)
end

/-! ### a cell becomes data: where a name's cell is let go -/
def mFrz (i : Nat) (m : DenS) : DenS := fun env mu => match env[i]? with
  | some (some (.cell n)) => match mu[n]? with
    | some (.lst l) => m (env.set i (some (.lst l))) (mu.set n .dead)
    | _ => .stuck
  | _ => m env mu
theorem dss_frz (i : Nat) {st : List Stmt} {m : DenS} (h : DSs X W st m) : DSs X W st (mFrz i m) := h.imp fun D σ H ⟨F, io, env, mu, M, R, q⟩ => by
  have plain : mFrz i m env mu = m env mu → tS X.K W m D σ H := fun e => by rw [e] at q; exact ⟨F, io, env, mu, M, R, q⟩
  cases e1 : env[i]? with
  | none => exact plain (by unfold mFrz; rw [e1])
  | some o =>
    cases o with
    | none => exact plain (by unfold mFrz; rw [e1])
    | some d =>
      cases d with
      | cell n =>
        cases e2 : mu[n]? with
        | none => unfold mFrz at q; simp only [e1, e2] at q; exact q.elim
        | some c =>
          cases c with
          | dead => unfold mFrz at q; simp only [e1, e2] at q; exact q.elim
          | dk l => unfold mFrz at q; simp only [e1, e2] at q; exact q.elim
          | tab _ _ _ => unfold mFrz at q; simp only [e1, e2] at q; exact q.elim
          | nd _ _ => unfold mFrz at q; simp only [e1, e2] at q; exact q.elim
          | lst l =>
            obtain ⟨v, ev, rv⟩ := R.2 i _ e1
            cases rv with
            | cell hn =>
              obtain ⟨o, M2, s2, r2⟩ := M.freeze hn e2
              have q2 : SatS X.K F io H W (m (env.set i (some (.lst l))) (mu.set n .dead)) D := by
                unfold mFrz at q; simp only [e1, e2] at q; exact q
              refine ⟨_, io, _, _, M2, ⟨?_, fun j dj hj => ?_⟩, SatS.step q2 s2⟩
              · rw [List.length_set]; exact R.1
              · by_cases z : i = j
                · subst z
                  rw [List.getElem?_set_self (List.getElem?_eq_some_iff.mp e1).1] at hj
                  cases hj
                  exact ⟨_, ev, r2⟩
                · rw [List.getElem?_set_ne z] at hj
                  exact (R.step s2).2 j dj hj
      | _ => exact plain (by unfold mFrz; rw [e1])

/-! ### defs -/
def spD (K : PySem.W.Frag) (n : Nat) (g : List D → Mu → Res D) : Sp := fun vs H Q E => vs.length = n ∧ ∃ F io mu ds, Mem K F io H mu ∧ RepL K F io vs ds ∧ Sat K (Rep K) F io H E (g ds mu) Q
def mCallF (n : Nat) (g : List D → Mu → Res D) (m : DenA) : DenE := fun env mu => (m env mu).bind fun ds m1 => if ds.length = n then g ds m1 else .stuck
section
variable {k : Nat} {f : Addr} {fd : FuncData} {ps : List Str} {x : Str} {p pos : Pos} {e : Expr} {es : List Expr} {m : DenA} {g : List D → Mu → Res D}
theorem tE_callF {n : Nat} {σ : L2.St} {H : Hp} {Q : VK} (h : tE K W (mCallF n g m) σ H Q) : tA K W m σ H fun vs H1 => spD K n g vs H1 Q (WE W σ) := by
  obtain ⟨F, io, env, mu, M, R, h⟩ := h
  refine ⟨F, io, env, mu, M, R, (Sat.bind h).imp fun vs H1 ⟨F1, j1, m1, ds, s1, M1, r1, q⟩ => ?_⟩
  have q : Sat K (Rep K) F1 j1 H1 (fun c dd H => W c dd σ H) (if ds.length = n then g ds m1 else .stuck) Q := q
  by_cases hl : ds.length = n
  · rw [if_pos hl] at q
    exact ⟨by rw [r1.length]; exact hl, F1, j1, m1, ds, M1, r1, q⟩
  · rw [if_neg hl] at q; exact q.elim
theorem de_call (F : FnOk X.prog X.w X.K X.mg X.base (L2.CX X.prog X.w) k f fd ps (spD X.K ps.length g)) (tk : Takes X W) (hr : Room k X.A) (hg : Gl X x) (hm : X.mg x = some (.ref f)) (hk : PySem.W.keepIn X.K (.ref f) = true) (hb : Binds X.K fd ps [])
    (ha : DA X W (e :: es) m) (hdb : (x == ("__debug__" : Str)) = false := by decide) (he : starEach (e :: es) X.env = (false, eval e X.env) :: starEach es X.env := by rfl) (hpl : (backTo pos (starEach es X.env)).any (·.1) = false := by rfl) :
    DE X W (.Call (.Name x p) (e :: es) [] pos) (mCallF ps.length g m) :=
  (pe_callS (E := WE W) F hr hg hm hk hb (fun σ => passAt tk σ) ha hdb he hpl).imp fun σ H Q h => tE_callF h
end
/-- the slots at a def's entry -/
def startD (N : List Str) (ds : List D) : DEnv := ds.map some ++ List.replicate (N.length - ds.length) none
def denF (N : List Str) (m : DenS) : List D → Mu → Res D := fun ds mu => match m (startD N ds) mu with
  | .nx _ m' => .ok .non m'
  | .rt d m' => .ok d m'
  | .exc x _ m' => .exc x m'
  | _ => .stuck
theorem envR_start {F : Hp} {io : List Addr} {N : List Str} : ∀ {vs : List V} {ds : List D}, RepL K F io vs ds → EnvR K F io (L2.start N vs) (startD N ds) := fun {vs ds} r => by
  refine ⟨by unfold L2.start startD; rw [List.length_append, List.length_append, List.length_map, List.length_map, List.length_replicate, List.length_replicate, r.length], fun i d e => ?_⟩
  unfold startD at e
  by_cases hi : i < ds.length
  · rw [List.getElem?_append_left (by simpa using hi), List.getElem?_map] at e
    cases e2 : ds[i]? with
    | none => rw [e2] at e; cases e
    | some d' =>
      rw [e2] at e; cases e
      obtain ⟨v, ev, rv⟩ := r.get e2
      refine ⟨v, ?_, rv⟩
      unfold L2.start
      rw [List.getElem?_append_left (by rw [List.length_map, r.length]; exact hi), List.getElem?_map, ev]; rfl
  · rw [List.getElem?_append_right (by simpa using hi), List.getElem?_replicate] at e
    split at e <;> cases e
/-- THE RULE for a def: its body's derivation gives its promise -/
theorem fn_D {P : Program} {w : World} {mg : Str → Option Value} {base : Heap} {x qual : Str} {st : Stmt} {f : Addr} {fd : FuncData} {N ps : List Str} {k : Nat} {m : DenS} (F : Fun K x qual st f fd) (S : FnScope N ps (defScope st))
    (hbody : ∀ (X : Cx) (E : XK) (cdv : Value) (A : Around) (outer : List Env) (s : Shared) (H : Hp), Room k (A.deeper (PyProof.Rows.envOfC qual (defScope st) s.heap.objs.size f cdv)) → X = cxOf (L2.CX P w) P w K mg base N qual (defScope st) f cdv A outer s H E →
      DSs X (fun c d _ H' => E c d H') (defBody st) m) : FnOk P w K mg base (L2.CX P w) (k + 1) f fd ps (spD K ps.length (denF N m)) := by
  refine F.okX S (fun vs H Q E h => h.1) fun cdv A outer s H vs Q E hr h => ?_
  refine ⟨_, hbody _ E cdv A outer s H hr rfl, ?_⟩
  obtain ⟨hl, F, io, mu, ds, M, r, q⟩ := h
  refine ⟨F, io, startD N ds, mu, M, envR_start r, ?_⟩
  unfold denF at q
  cases e : m (startD N ds) mu with
  | nx e1 m1 => rw [e] at q; exact fun F1 j1 H1 σ1 s1 M1 R1 => q F1 j1 H1 .non s1 M1 .non
  | rt d m1 => rw [e] at q; exact fun F1 j1 H1 v s1 M1 r1 => q F1 j1 H1 v s1 M1 r1
  | exc x e1 m1 => rw [e] at q; exact fun F1 j1 H1 σ1 c dd s1 M1 R1 r1 => q F1 j1 H1 c dd s1 M1 r1
  | bk _ _ => rw [e] at q; exact q.elim
  | ct _ _ => rw [e] at q; exact q.elim
  | stuck => rw [e] at q; exact q.elim
theorem FnOk_congr {P : Program} {w : World} {mg : Str → Option Value} {base : Heap} {f : Addr} {fd : FuncData} {ps : List Str} {k n : Nat} {g g' : List D → Mu → Res D} (h : FnOk P w K mg base (L2.CX P w) k f fd ps (spD K n g)) (e : g = g') : FnOk P w K mg base (L2.CX P w) k f fd ps (spD K n g') := e ▸ h
end
end DL

/-! DL4: the operations on deep values, each with its rule. -/
namespace DL
open PySem L2

/-! ### dicts' pairs -/
def dGet {κ : Type} [DecidableEq κ] (l : List (κ × D)) (k : κ) : Option D := (l.find? fun kv => decide (kv.1 = k)).map (·.2)
def dPut {κ : Type} [DecidableEq κ] (l : List (κ × D)) (k : κ) (d : D) : List (κ × D) := if l.any (fun kv => decide (kv.1 = k)) then l.map (fun kv => if kv.1 = k then (kv.1, d) else kv) else l ++ [(k, d)]
def keyOf : D → Option Key
  | .int i => some (.inl i)
  | .str s => some (.inr s)
  | _ => none
section
variable {K : PySem.W.Frag} {F H : Hp} {io : List Addr} {mu : Mu}
theorem keyOf_rep {v : V} {d : D} {k : Key} (r : Rep K F io v d) (e : keyOf d = some k) : v = kV k := by
  cases r with
  | int => cases e; rfl
  | str => cases e; rfl
  | _ => cases e
theorem RepK.get : ∀ {xs : List (Key × V)} {ds : List (Key × D)} {k : Key} {d : D}, RepK K F io xs ds → dGet ds k = some d → ∃ v, valV xs k = some v ∧ Rep K F io v d
  | _, _, _, _, .nil, e => by cases e
  | _, _, k, d, @RepK.cons _ _ _ k0 v0 d0 vs ds r t, e => by
    by_cases h : k0 = k
    · unfold dGet at e
      rw [List.find?_cons_of_pos (by simpa using h)] at e
      cases e
      exact ⟨v0, valV_pos h, r⟩
    · unfold dGet at e
      rw [List.find?_cons_of_neg (by simpa using h)] at e
      obtain ⟨v, e2, r2⟩ := RepK.get t e
      exact ⟨v, by rw [valV_neg h]; exact e2, r2⟩
theorem RepK.any : ∀ {xs : List (Key × V)} {ds : List (Key × D)} {k : Key}, RepK K F io xs ds → (xs.any fun kv => decide (kv.1 = k)) = ds.any fun kv => decide (kv.1 = k)
  | _, _, _, .nil => rfl
  | _, _, k, .cons r t => by rw [List.any_cons, List.any_cons, RepK.any t]
theorem RepK.append : ∀ {xs ys : List (Key × V)} {ds es : List (Key × D)}, RepK K F io xs ds → RepK K F io ys es → RepK K F io (xs ++ ys) (ds ++ es)
  | _, _, _, _, .nil, s => s
  | _, _, _, _, .cons r t, s => .cons r (RepK.append t s)
theorem RepK.repl {v : V} {d : D} {k : Key} (q : Rep K F io v d) : ∀ {xs : List (Key × V)} {ds : List (Key × D)}, RepK K F io xs ds → RepK K F io (xs.map fun kv => if kv.1 = k then (kv.1, v) else kv) (ds.map fun kv => if kv.1 = k then (kv.1, d) else kv)
  | _, _, .nil => .nil
  | _, _, @RepK.cons _ _ _ k0 v0 d0 vs ds r t => by
    rw [List.map_cons, List.map_cons]
    by_cases h : k0 = k
    · rw [if_pos h, if_pos h]; exact .cons q (RepK.repl q t)
    · rw [if_neg h, if_neg h]; exact .cons r (RepK.repl q t)
theorem RepK.put {xs : List (Key × V)} {ds : List (Key × D)} {v : V} {d : D} {k : Key} (h : RepK K F io xs ds) (q : Rep K F io v d) : RepK K F io (putK xs k v) (dPut ds k d) := by
  unfold putK dPut
  rw [h.any]
  split
  · exact h.repl q
  · exact h.append (.cons q .nil)
end

/-! ### + - * // % ** -/
def gAdd (b : Bool) (mu : Mu) (x y : D) : ORes D := match x, y with
  | .int i, .int j => some (.int (i + j), mu)
  | .str a, .str c => if a.length + c.length ≤ 1000000 then some (.str (a ++ c), mu) else none
  | .tup l, .tup k => if lim (l.length + k.length) = true then some (.tup (l ++ k), mu) else none
  | x, y => match view mu x, view mu y with
    | .lst l, .lst k => if lim (l.length + k.length) then mk b (.lst (l ++ k)) mu else none
    | _, _ => none
def rAddA (K : PySem.W.Frag) : R2 := fun x y H Q => rI0 (fun i j => .int (i + j)) x y H Q ∨ (∃ i j, x = .str i ∧ y = .str j ∧ i.length + j.length ≤ sizeLine ∧ Q (.str (i ++ j)) H) ∨ rCatA K x y H Q ∨ rCat x y H Q
theorem op_addA {X : Cx} : OpR X (binaryOp .Add) (rAddA X.K) := op_add.or (op_add_str.or (op_catA.or op_cat))
section
variable {K : PySem.W.Frag}
theorem satO_some {F H : Hp} {io : List Addr} {mu : Mu} {v : V} {d : D} {Q : VK} (h : SatO K (Rep K) F io H (some (d, mu)) Q) (M : Mem K F io H mu) (r : Rep K F io v d) : Q v H := h F io H v Step.rfl M r
theorem og_add (b : Bool) : OpD K (rAddA K) (gAdd b) := fun F io H mu x y dx dy Q M rx ry h => by
  unfold gAdd at h
  split at h
  · rename_i i j
    exact .inl ⟨i, j, rx.int_inv, ry.int_inv, satO_some h M .int⟩
  · rename_i i j
    split at h
    · rename_i hl
      exact .inr (.inl ⟨i, j, rx.str_inv, ry.str_inv, by rw [sizeLine_eq]; omega, satO_some h M .str⟩)
    · exact h.elim
  · rename_i l k
    split at h
    · rename_i h2
      obtain ⟨a, xs, rfl, qa, r1⟩ := M.tup rx rfl
      obtain ⟨c, ys, rfl, qc, r2⟩ := M.tup ry rfl
      refine .inr (.inr (.inl ⟨a, c, xs, ys, rfl, rfl, qa, qc, by rw [r1.length, r2.length]; exact lim_line h2, fun z => ?_, fun _ z => ?_, fun _ _ p hp => ?_⟩))
      · subst z
        cases r1
        rw [List.nil_append] at h
        exact satO_some h M ry
      · subst z
        cases r2
        rw [List.append_nil] at h
        exact satO_some h M rx
      · exact h _ _ _ _ (M.stepF hp) (M.newF hp) (.tup (SqT.of upd_same) ((r1.append r2).mono (Le.put (M.fresh hp)) Pre.rfl))
    · exact h.elim
  · split at h
    · rename_i l k e1 e2
      split at h
      · rename_i hl
        obtain ⟨a, xs, rfl, qa, r1⟩ := M.lst rx e1
        obtain ⟨c, ys, rfl, qc, r2⟩ := M.lst ry e2
        exact .inr (.inr (.inr ⟨a, c, xs, ys, rfl, rfl, qa, qc, by rw [r1.length, r2.length]; exact lim_line hl, fun p hp => sat_mk M h p _ hp ⟨_, rfl, r1.append r2⟩⟩))
      · exact h.elim
    · exact h.elim
/-- an operation on two ints -/
def gII (c : Int → Int → Bool) (f : Int → Int → D) : Mu → D → D → ORes D := fun mu x y => match x, y with
  | .int i, .int j => if c i j then some (f i j, mu) else none
  | _, _ => none
theorem og_ii {C : Int → Int → Prop} {g : Int → Int → V} {c : Int → Int → Bool} {f : Int → Int → D} (hc : ∀ i j, c i j = true → C i j) (hf : ∀ F io i j, Rep K F io (g i j) (f i j)) : OpD K (rI C g) (gII c f) := fun F io H mu x y dx dy Q M rx ry h => by
  unfold gII at h
  split at h
  · rename_i i j
    split at h
    · rename_i hq
      exact ⟨i, j, rx.int_inv, ry.int_inv, hc i j hq, satO_some h M (hf _ _ _ _)⟩
    · exact h.elim
  · exact h.elim
theorem og_ii0 {g : Int → Int → V} {f : Int → Int → D} (hf : ∀ F io i j, Rep K F io (g i j) (f i j)) : OpD K (rI0 g) (gII (fun _ _ => true) f) := fun F io H mu x y dx dy Q M rx ry h => by
  unfold gII at h
  split at h
  · rename_i i j
    exact ⟨i, j, rx.int_inv, ry.int_inv, satO_some (by simpa using h) M (hf _ _ _ _)⟩
  · exact h.elim
def gSub : Mu → D → D → ORes D := gII (fun _ _ => true) fun i j => .int (i - j)
theorem og_sub : OpD K (rI0 fun i j => .int (i - j)) gSub := og_ii0 fun _ _ _ _ => .int
def modB (_ j : Int) : Bool := decide (0 < j)
def gMod : Mu → D → D → ORes D := gII modB fun i j => .int (i % j)
theorem og_mod : OpD K (rI (fun _ j => 0 < j) fun i j => .int (i % j)) gMod := og_ii (fun i j h => of_decide_eq_true h) fun _ _ _ _ => .int
def divB (_ j : Int) : Bool := decide (0 < j ∧ j.natAbs.log2 < 9000)
def gFdiv : Mu → D → D → ORes D := gII divB fun i j => .int (i / j)
theorem og_fdiv : OpD K (rI CDivW fun i j => .int (i / j)) gFdiv := og_ii (fun i j h => (of_decide_eq_true (h : decide (0 < j ∧ j.natAbs.log2 < 9000) = true) : 0 < j ∧ j.natAbs.log2 < 9000)) fun _ _ _ _ => .int
def CPowW (i j : Int) : Prop := 0 ≤ j ∧ (Builtin.Int.intBits i : Int) * j ≤ 2 ^ 27
def powB (i j : Int) : Bool := decide (0 ≤ j ∧ (Builtin.Int.intBits i : Int) * j ≤ 2 ^ 27)
theorem op_powW {X : Cx} : OpR X (binaryOp .Pow) (rI CPowW fun i j => .int (i ^ j.toNat)) := opI fun _ _ _ _ _ _ _ hc q => PyProof.Rows.pow_int hc.1 hc.2 q
def gPow : Mu → D → D → ORes D := gII powB fun i j => .int (i ^ j.toNat)
theorem og_pow : OpD K (rI CPowW fun i j => .int (i ^ j.toNat)) gPow := og_ii (fun i j h => (of_decide_eq_true (h : decide (0 ≤ j ∧ (Builtin.Int.intBits i : Int) * j ≤ 2 ^ 27) = true) : 0 ≤ j ∧ (Builtin.Int.intBits i : Int) * j ≤ 2 ^ 27)) fun _ _ _ _ => .int
/-- * -/
def mulB (i j : Int) : Bool := decide ((Builtin.Int.intBits i : Int) + (Builtin.Int.intBits j : Int) ≤ 134217728)
def gMul (b : Bool) (mu : Mu) (x y : D) : ORes D := match x, y with
  | .int i, .int j => if mulB i j then some (.int (i * j), mu) else none
  | .tup l, .int k => if l.isEmpty = false ∧ 2 ≤ k ∧ k ≤ 1000 ∧ l.length ≤ 1000 then some (.tup (List.replicate k.toNat l).flatten, mu) else none
  | x, .int k => match view mu x with
    | .lst l => if -(2 ^ 63) ≤ k ∧ k < 2 ^ 63 ∧ lim (l.length * k.toNat) = true then mk b (.lst (List.replicate k.toNat l).flatten) mu else none
    | _ => none
  | _, _ => none
def rMulA (K : PySem.W.Frag) : R2 := fun x y H Q => rI CMulX (fun i j => .int (i * j)) x y H Q ∨ rRepT K x y H Q ∨ rRep x y H Q
theorem op_mulA {X : Cx} : OpR X (binaryOp .Mult) (rMulA X.K) := op_mulX.or (op_repT.or op_rep)
theorem og_mul (b : Bool) : OpD K (rMulA K) (gMul b) := fun F io H mu x y dx dy Q M rx ry h => by
  unfold gMul at h
  split at h
  · rename_i i j
    split at h
    · rename_i hq
      exact .inl ⟨i, j, rx.int_inv, ry.int_inv, (of_decide_eq_true hq : _), satO_some h M .int⟩
    · exact h.elim
  · rename_i l k
    split at h
    · rename_i hl
      obtain ⟨h1, h2, h3, h4⟩ := hl
      obtain ⟨a, xs, rfl, qa, r1⟩ := M.tup rx rfl
      refine .inr (.inl ⟨a, k, xs, rfl, ry.int_inv, qa, fun z => ?_, h2, h3, by rw [r1.length]; exact h4, fun p hp => ?_⟩)
      · subst z; cases r1; simp at h1
      · exact h _ _ _ _ (M.stepF hp) (M.newF hp) (.tup (SqT.of upd_same) ((r1.rep _).mono (Le.put (M.fresh hp)) Pre.rfl))
    · exact h.elim
  · rename_i k _ _
    split at h
    · rename_i l e1
      split at h
      · rename_i hl
        obtain ⟨h1, h2, h3⟩ := hl
        obtain ⟨a, xs, rfl, qa, r1⟩ := M.lst rx e1
        exact .inr (.inr ⟨a, k, xs, rfl, ry.int_inv, qa, h1, h2, by rw [r1.length]; exact lim_line h3, fun p hp => sat_mk M h p _ hp ⟨_, rfl, r1.rep _⟩⟩)
      · exact h.elim
    · exact h.elim
  · exact h.elim
def gNeg (mu : Mu) (x : D) : ORes D := match x with
  | .int i => some (.int (-i), mu)
  | _ => none
theorem ug_neg : UnD K (rU fun i => .int (-i)) gNeg := fun F io H mu x dx Q M rx h => by
  unfold gNeg at h
  split at h
  · rename_i i
    exact ⟨i, rx.int_inv, satO_some h M .int⟩
  · exact h.elim

/-! ### < <= > >= of ints -/
def gLt : Mu → D → D → ORes D := gII (fun _ _ => true) fun i j => .bl (decide (i < j))
def gLe : Mu → D → D → ORes D := gII (fun _ _ => true) fun i j => .bl (decide (i ≤ j))
def gGt : Mu → D → D → ORes D := gII (fun _ _ => true) fun i j => .bl (decide (j < i))
def gGe : Mu → D → D → ORes D := gII (fun _ _ => true) fun i j => .bl (decide (j ≤ i))
theorem og_lt : OpD K (rI0 fun i j => .bl (decide (i < j))) gLt := og_ii0 fun _ _ _ _ => .bl
theorem og_le : OpD K (rI0 fun i j => .bl (decide (i ≤ j))) gLe := og_ii0 fun _ _ _ _ => .bl
theorem og_gt : OpD K (rI0 fun i j => .bl (decide (j < i))) gGt := og_ii0 fun _ _ _ _ => .bl
theorem og_ge : OpD K (rI0 fun i j => .bl (decide (j ≤ i))) gGe := og_ii0 fun _ _ _ _ => .bl

end
/-! ### == != of data -/
mutual
def deq : D → D → Bool
  | .non, d => match d with | .non => true | _ => false
  | .bl a, d => match d with | .bl b => a == b | .int j => (if a then 1 else 0) == j | _ => false
  | .int i, d => match d with | .int j => decide (i = j) | .bl b => i == (if b then 1 else 0) | _ => false
  | .str x, d => match d with | .str y => decide (x = y) | _ => false
  | .lst l, d => match d with | .lst k => deqL l k | _ => false
  | .tup l, d => match d with | .tup k => deqL l k | _ => false
  | .ty _, _ => false
  | .ref _, _ => false
  | .rl _, _ => false
  | .dk _, _ => false
  | .cell _, _ => false
  | .exn _, _ => false
  | .exf _ _ _, _ => false
def deqL : List D → List D → Bool
  | [], d => match d with | [] => true | _ => false
  | x :: xs, d => match d with | y :: ys => deq x y && deqL xs ys | [] => false
end
/-! plain data, at most so deep -/
mutual
def okD : Nat → D → Bool
  | _, .non => true
  | _, .bl _ => true
  | _, .int _ => true
  | _, .str x => PyData.strOk x
  | n + 1, .lst l => okL n l
  | n + 1, .tup l => okL n l
  | _, _ => false
def okL : Nat → List D → Bool
  | _, [] => true
  | n, d :: ds => okD n d && okL n ds
end
mutual
def py : D → PyData
  | .bl b => .bool b
  | .int i => .int i
  | .str x => .str x
  | .lst l => .list (pyL l)
  | .tup l => .tuple (pyL l)
  | _ => .none
def pyL : List D → List PyData
  | [] => []
  | d :: ds => py d :: pyL ds
end
mutual
theorem py_lay : ∀ (n : Nat) (d : D), okD n d = true → (py d).canLay0 = true ∧ (py d).depth ≤ n
  | _, .non, _ => by simp [py, PyData.canLay0, PyData.depth]
  | _, .bl _, _ => by simp [py, PyData.canLay0, PyData.depth]
  | _, .int _, _ => by simp [py, PyData.canLay0, PyData.depth]
  | _, .str x, h => by simp only [okD] at h; simp [py, PyData.canLay0, PyData.depth, h]
  | n + 1, .lst l, h => by
    simp only [okD] at h
    obtain ⟨a, b⟩ := pyL_lay n l h
    simp only [py, PyData.canLay0, PyData.depth]
    exact ⟨a, by omega⟩
  | n + 1, .tup l, h => by
    simp only [okD] at h
    obtain ⟨a, b⟩ := pyL_lay n l h
    simp only [py, PyData.canLay0, PyData.depth]
    exact ⟨a, by omega⟩
  | 0, .lst _, h => by simp [okD] at h
  | 0, .tup _, h => by simp [okD] at h
  | _, .rl _, h => by simp [okD] at h
  | _, .dk _, h => by simp [okD] at h
  | _, .cell _, h => by simp [okD] at h
  | _, .ty _, h => by simp [okD] at h
  | _, .ref _, h => by simp [okD] at h
theorem pyL_lay : ∀ (n : Nat) (l : List D), okL n l = true → PyData.canLayAll0 (pyL l) = true ∧ PyData.depthAll (pyL l) ≤ n
  | _, [], _ => by simp [pyL, PyData.canLayAll0, PyData.depthAll]
  | n, d :: ds, h => by
    simp only [okL, Bool.and_eq_true] at h
    obtain ⟨a1, b1⟩ := py_lay n d h.1
    obtain ⟨a2, b2⟩ := pyL_lay n ds h.2
    simp only [pyL, PyData.canLayAll0, PyData.depthAll, a1, a2, Bool.and_self, true_and]
    omega
end
mutual
theorem py_eqv : ∀ (n m : Nat) (d e : D), okD n d = true → okD m e = true → PyData.eqv (py d) (py e) = deq d e
  | n, m, .non, e, h, k => by cases e <;> simp [py, deq, PyData.eqv] <;> (cases m <;> simp [okD] at k)
  | n, m, .bl a, e, h, k => by cases e <;> simp [py, deq, PyData.eqv] <;> (cases m <;> simp [okD] at k)
  | n, m, .int a, e, h, k => by
    cases e with
    | int j => simp only [py, deq, PyData.eqv]; rw [Bool.beq_eq_decide_eq]
    | _ => simp [py, deq, PyData.eqv] <;> (cases m <;> simp [okD] at k)
  | n, m, .str a, e, h, k => by
    cases e with
    | str j => simp only [py, deq, PyData.eqv]; rw [Bool.beq_eq_decide_eq]
    | _ => simp [py, deq, PyData.eqv] <;> (cases m <;> simp [okD] at k)
  | n + 1, m, .lst l, e, h, k => by
    cases e with
    | lst j =>
      cases m with
      | zero => simp [okD] at k
      | succ m =>
        simp only [okD] at h k
        simp only [py, deq, PyData.eqv]
        exact pyL_eqv n m l j h k
    | _ => simp [py, deq, PyData.eqv] <;> (cases m <;> simp [okD] at k)
  | n + 1, m, .tup l, e, h, k => by
    cases e with
    | tup j =>
      cases m with
      | zero => simp [okD] at k
      | succ m =>
        simp only [okD] at h k
        simp only [py, deq, PyData.eqv]
        exact pyL_eqv n m l j h k
    | _ => simp [py, deq, PyData.eqv] <;> (cases m <;> simp [okD] at k)
  | 0, _, .lst _, _, h, _ => by simp [okD] at h
  | 0, _, .tup _, _, h, _ => by simp [okD] at h
  | n, _, .rl _, _, h, _ => by cases n <;> simp [okD] at h
  | n, _, .dk _, _, h, _ => by cases n <;> simp [okD] at h
  | n, _, .cell _, _, h, _ => by cases n <;> simp [okD] at h
  | n, _, .ty _, _, h, _ => by cases n <;> simp [okD] at h
  | n, _, .ref _, _, h, _ => by cases n <;> simp [okD] at h
theorem pyL_eqv : ∀ (n m : Nat) (d e : List D), okL n d = true → okL m e = true → PyData.eqvAll (pyL d) (pyL e) = deqL d e
  | n, m, [], e, h, k => by cases e <;> simp [pyL, deqL, PyData.eqvAll]
  | n, m, x :: xs, [], h, k => by simp [pyL, deqL, PyData.eqvAll]
  | n, m, x :: xs, y :: ys, h, k => by
    simp only [okL, Bool.and_eq_true] at h k
    simp only [pyL, deqL, PyData.eqvAll]
    rw [py_eqv n m x y h.1 k.1, pyL_eqv n m xs ys h.2 k.2]
end
section
variable {K : PySem.W.Frag} {F G : Hp} {io : List Addr}
mutual
theorem rep_dp (l : Le F G) : ∀ (n : Nat) {v : V} {d : D}, Rep K F io v d → okD n d = true → Dp K G v (py d)
  | _, _, _, .non, _ => by simp only [py]; exact .non
  | _, _, _, .bl, _ => by simp only [py]; exact .bl _
  | _, _, _, .int, _ => by simp only [py]; exact .int _
  | _, _, _, .str, _ => by simp only [py]; exact .str _
  | n + 1, _, _, .lst h r, k => by simp only [okD] at k; simp only [py]; exact .lst (SqL.of (l _ _ h)) (repL_dp l n r k)
  | n + 1, _, _, .tup h r, k => by simp only [okD] at k; simp only [py]; exact .tup (l.sqt h) (repL_dp l n r k)
  | 0, _, _, .lst _ _, k => by simp [okD] at k
  | 0, _, _, .tup _ _, k => by simp [okD] at k
  | n, _, _, .rl _ _, k => by cases n <;> simp [okD] at k
  | n, _, _, .dk _ _, k => by cases n <;> simp [okD] at k
  | n, _, _, .cell _, k => by cases n <;> simp [okD] at k
  | n, _, _, .ty, k => by cases n <;> simp [okD] at k
  | n, _, _, .ref, k => by cases n <;> simp [okD] at k
theorem repL_dp (l : Le F G) : ∀ (n : Nat) {v : List V} {d : List D}, RepL K F io v d → okL n d = true → DpAll K G v (pyL d)
  | _, _, _, .nil, _ => by simp only [pyL]; exact .nil
  | n, _, _, .cons r t, k => by
    simp only [okL, Bool.and_eq_true] at k
    simp only [pyL]
    exact .cons (rep_dp l n r k.1) (repL_dp l n t k.2)
end
end
section
variable {K : PySem.W.Frag} {F H : Hp} {io : List Addr} {mu : Mu}
theorem Mem.dp {n : Nat} {v : V} {d : D} (M : Mem K F io H mu) (r : Rep K F io v d) (k : okD n (view mu d) = true) : Dp K H v (py (view mu d)) := by
  cases d with
  | cell c =>
    cases e : view mu (.cell c) with
    | lst l =>
      rw [e] at k
      obtain ⟨a, xs, rfl, h, r2⟩ := M.lst r e
      cases n with
      | zero => simp [okD] at k
      | succ n =>
        simp only [okD] at k
        simp only [py]
        exact .lst (SqL.of h) (repL_dp M.le n r2 k)
    | _ =>
      rw [e] at k
      first
        | (cases n <;> simp [okD] at k; done)
        | (exfalso
           rw [view_cell] at e
           split at e <;> cases e)
  | _ => exact rep_dp M.le n r k
theorem shaped_py {d : D} (k : okD 60 d = true) : SeqAt.shaped (py d) = true := by
  obtain ⟨a, b⟩ := py_lay 60 d k
  unfold SeqAt.shaped
  rw [a, Bool.true_and]
  exact decide_eq_true (by omega)
def gEq (neg : Bool) (mu : Mu) (x y : D) : ORes D := if okD 60 (view mu x) = true ∧ okD 60 (view mu y) = true then some (.bl (if neg then !deq (view mu x) (view mu y) else deq (view mu x) (view mu y)), mu) else none
theorem og_eq : OpD K (rEqD K) (gEq false) := fun F io H mu x y dx dy Q M rx ry h => by
  unfold gEq at h
  split at h
  · rename_i hk
    refine ⟨_, _, M.dp rx hk.1, M.dp ry hk.2, shaped_py hk.1, shaped_py hk.2, ?_⟩
    rw [py_eqv 60 60 _ _ hk.1 hk.2]
    exact satO_some h M .bl
  · exact h.elim
theorem og_ne : OpD K (rNeD K) (gEq true) := fun F io H mu x y dx dy Q M rx ry h => by
  unfold gEq at h
  split at h
  · rename_i hk
    refine ⟨_, _, M.dp rx hk.1, M.dp ry hk.2, shaped_py hk.1, shaped_py hk.2, ?_⟩
    rw [py_eqv 60 60 _ _ hk.1 hk.2]
    exact satO_some h M .bl
  · exact h.elim
/-! ### in, not in; is None -/
def gIn (neg : Bool) (mu : Mu) (x y : D) : ORes D := match view mu y with
  | .lst l => if okD 60 (view mu x) = true ∧ okD 60 (.lst l) = true then some (.bl (if neg then !(l.any fun z => deq z (view mu x)) else l.any fun z => deq z (view mu x)), mu) else none
  | _ => none
theorem any_py {n m : Nat} {d : D} (hd : okD m d = true) : ∀ {l : List D}, okL n l = true → ((pyL l).any fun z => PyData.eqv z (py d)) = l.any fun z => deq z d
  | [], _ => rfl
  | x :: xs, h => by
    simp only [okL, Bool.and_eq_true] at h
    simp only [pyL, List.any_cons]
    rw [py_eqv n m x d h.1 hd, any_py hd h.2]
theorem og_in : OpD K (rInD K) (gIn false) := fun F io H mu x y dx dy Q M rx ry h => by
  unfold gIn at h
  split at h
  · rename_i l e
    split at h
    · rename_i hk
      refine ⟨_, pyL l, M.dp rx hk.1, ?_, shaped_py hk.1, ?_, ?_⟩
      · have := M.dp (n := 60) ry (by rw [e]; exact hk.2)
        rw [e] at this; simpa only [py] using this
      · have := shaped_py hk.2
        simpa only [py] using this
      · rw [any_py (n := 59) hk.1 (by simpa only [okD] using hk.2)]
        exact satO_some h M .bl
    · exact h.elim
  · exact h.elim
theorem og_notIn : OpD K (rNotInD K) (gIn true) := fun F io H mu x y dx dy Q M rx ry h => by
  unfold gIn at h
  split at h
  · rename_i l e
    split at h
    · rename_i hk
      refine ⟨_, pyL l, M.dp rx hk.1, ?_, shaped_py hk.1, ?_, ?_⟩
      · have := M.dp (n := 60) ry (by rw [e]; exact hk.2)
        rw [e] at this; simpa only [py] using this
      · have := shaped_py hk.2
        simpa only [py] using this
      · rw [any_py (n := 59) hk.1 (by simpa only [okD] using hk.2)]
        exact satO_some h M .bl
    · exact h.elim
  · exact h.elim
def isN : D → Bool
  | .non => true
  | _ => false
theorem isN_rep {v : V} {d : D} (r : Rep K F io v d) : decide (v = .non) = isN d := by
  cases r <;> rfl
def gIsN (neg : Bool) (mu : Mu) (x y : D) : ORes D := match y with
  | .non => some (.bl (if neg then !isN x else isN x), mu)
  | _ => none
theorem og_isN : OpD K (fun x y H Q => y = .non ∧ Q (.bl (decide (x = .non))) H) (gIsN false) := fun F io H mu x y dx dy Q M rx ry h => by
  unfold gIsN at h
  split at h
  · refine ⟨ry.non_inv, ?_⟩
    rw [isN_rep rx]
    exact satO_some h M .bl
  · exact h.elim
theorem og_notN : OpD K (fun x y H Q => y = .non ∧ Q (.bl (!decide (x = .non))) H) (gIsN true) := fun F io H mu x y dx dy Q M rx ry h => by
  unfold gIsN at h
  split at h
  · refine ⟨ry.non_inv, ?_⟩
    rw [isN_rep rx]
    exact satO_some h M .bl
  · exact h.elim
end
end DL

/-! DL5: subscripts, built-in calls, methods, what is walked. -/
namespace DL
open PySem L2

/-! ### a[b] -/
section
open PySem.Spec PyProof.Rows
theorem ix_dict {X : Cx} (hu : X.A.units + 1 < cLine) : IxR X (fun x y H Q => ∃ a v, x = .ref a ∧ DGet H a y (some v) ∧ Q v H) := by
  intro value slice pins s σ H x y v u Q I rx ry h hs
  obtain ⟨a, w, rfl, g, q⟩ := h
  obtain rfl : v = Value.ref a := rx
  have hT := dict_typeIs I g
  unfold subscriptTail
  refine wpAny_bind ?_
  rw [getitemInPython_of_ne hT.not_modules]
  refine wpAny_bind (wpAny_specialOf hT PySem.F.slot_dict_getitem.lookup ?_)
  have fin : wpAny (model X.prog X.w) X.A (subscripted slice false (.ref a) u) (fun r s₃ => wpAny (model X.prog X.w) X.A (letTemporaryGo value (.ref a) r >>= fun _ => pure r) (EP X pins σ Q) X.xe s₃) X.xe s := by
    rw [hs]
    exact wpAny_operating (d_getItem hu I g ry fun w' s' I' r' => wpAny_bind (wpAny_letTemporaryGo (wpAny_pure ⟨w, H, I', r', q⟩)))
  first
    | exact wpAny_pure (wpAny_bind fin)
    | exact wpAny_bind (wpAny_pure (wpAny_bind fin))
    | exact wpAny_bind fin
end
def gIx (mu : Mu) (x y : D) : ORes D := match y with
  | .int i => match view mu x with
    | .lst l => (atI l i).map fun d => (d, mu)
    | .tup l => (atI l i).map fun d => (d, mu)
    | .rl l => (atI l i).map fun d => (d, mu)
    | .str s => if s.length ≤ 1000000 then (atI s.cps.toList i).map fun c => (.str ⟨#[c]⟩, mu) else none
    | .dk l => (dGet l (.inl i)).map fun d => (d, mu)
    | _ => none
  | .str s => match view mu x with
    | .dk l => (dGet l (.inr s)).map fun d => (d, mu)
    | _ => none
  | _ => none
def rIxA (K : PySem.W.Frag) : R2 := fun x y H Q => rIx K x y H Q ∨ ∃ a v, x = .ref a ∧ DGet H a y (some v) ∧ Q v H
theorem ix_all {X : Cx} (hu : X.A.units + 1 < cLine) : IxR X (rIxA X.K) := ix_seq.or (ix_dict hu)
section
variable {K : PySem.W.Frag} {F H : Hp} {io : List Addr} {mu : Mu}
theorem atI_rep {xs : List V} {ds : List D} {i : Int} {d : D} (r : RepL K F io xs ds) (e : atI ds i = some d) : ∃ v, atI xs i = some v ∧ Rep K F io v d := by
  unfold atI at e ⊢
  rw [r.length]
  cases h : ixN ds.length i with
  | none => rw [h] at e; cases e
  | some j => rw [h] at e; exact r.get e
theorem Mem.rl {v : V} {d : D} {ds : List D} (M : Mem K F io H mu) (r : Rep K F io v d) (e : view mu d = .rl ds) : ∃ a xs, v = .ref a ∧ SqL K H a xs ∧ RepL K F io xs ds := by
  have e' : d = .rl ds := view_nocell e (fun _ => nofun) (fun _ => nofun)
  subst e'
  cases r with
  | rl h r => exact ⟨_, _, rfl, M.le.sql h, r⟩
theorem dget_rep {v : V} {d : D} {l : List (Key × D)} {k : Key} {y : D} (M : Mem K F io H mu) (r : Rep K F io v d) (e : view mu d = .dk l) (g : dGet l k = some y) : ∃ a w, v = .ref a ∧ DGet H a (kV k) (some w) ∧ Rep K F io w y := by
  obtain ⟨a, xs, rfl, h, r2⟩ := M.dk r e
  obtain ⟨w, e2, r3⟩ := r2.get g
  exact ⟨a, w, rfl, .inl ⟨xs, k, h, rfl, e2.symm⟩, r3⟩
theorem og_ix : OpD K (rIxA K) gIx := fun F io H mu x y dx dy Q M rx ry h => by
  have some_inv : ∀ {α : Type} {o : Option α} {f : α → D × Mu}, SatO K (Rep K) F io H (o.map f) Q → ∃ a, o = some a ∧ SatO K (Rep K) F io H (some (f a)) Q := fun {α o f} h => by
    cases o with
    | none => exact h.elim
    | some a => exact ⟨a, rfl, h⟩
  unfold gIx at h
  split at h
  · rename_i i
    have hy := ry.int_inv
    subst hy
    split at h
    · rename_i l e
      obtain ⟨d, e2, h⟩ := some_inv h
      obtain ⟨a, xs, rfl, ha, r⟩ := M.lst rx e
      obtain ⟨v, e3, r3⟩ := atI_rep r e2
      exact .inl (.inl ⟨a, xs, i, v, rfl, rfl, SqL.of ha, e3, satO_some h M r3⟩)
    · rename_i l e
      obtain ⟨d, e2, h⟩ := some_inv h
      obtain ⟨a, xs, rfl, ha, r⟩ := M.tup rx e
      obtain ⟨v, e3, r3⟩ := atI_rep r e2
      exact .inl (.inr (.inl ⟨a, xs, i, v, rfl, rfl, ha, e3, satO_some h M r3⟩))
    · rename_i l e
      obtain ⟨d, e2, h⟩ := some_inv h
      obtain ⟨a, xs, rfl, ha, r⟩ := M.rl rx e
      obtain ⟨v, e3, r3⟩ := atI_rep r e2
      exact .inl (.inl ⟨a, xs, i, v, rfl, rfl, ha, e3, satO_some h M r3⟩)
    · rename_i s e
      split at h
      · rename_i hl
        obtain ⟨c, e2, h⟩ := some_inv h
        have e' : _ = D.str _ := view_nocell e (fun _ => nofun) (fun _ => nofun)
        subst e'
        exact .inl (.inr (.inr ⟨s, i, c, rx.str_inv, rfl, by rw [sizeLine_eq]; omega, e2, satO_some h M .str⟩))
      · exact h.elim
    · rename_i l e
      obtain ⟨d, e2, h⟩ := some_inv h
      obtain ⟨a, w, rfl, g, r⟩ := dget_rep M rx e e2
      exact .inr ⟨a, w, rfl, g, satO_some h M r⟩
    · exact h.elim
  · rename_i s
    have hy := ry.str_inv
    subst hy
    split at h
    · rename_i l e
      obtain ⟨d, e2, h⟩ := some_inv h
      obtain ⟨a, w, rfl, g, r⟩ := dget_rep M rx e e2
      exact .inr ⟨a, w, rfl, g, satO_some h M r⟩
    · exact h.elim
  · exact h.elim

/-! ### built-in calls -/
theorem RepL.one_inv {vs : List V} {d : D} (r : RepL K F io vs [d]) : ∃ v, vs = [v] ∧ Rep K F io v d := by
  cases r with
  | cons r t => cases t; exact ⟨_, rfl, r⟩
theorem RepL.two_inv {vs : List V} {d e : D} (r : RepL K F io vs [d, e]) : ∃ v w, vs = [v, w] ∧ Rep K F io v d ∧ Rep K F io w e := by
  cases r with
  | cons r t => cases t with
    | cons r2 t => cases t; exact ⟨_, _, rfl, r, r2⟩
def gLen (mu : Mu) (ds : List D) : ORes D := match ds with
  | [x] => match view mu x with
    | .lst l => some (.int l.length, mu)
    | .tup l => some (.int l.length, mu)
    | .rl l => some (.int l.length, mu)
    | .str s => if s.length ≤ 1000000 then some (.int s.length, mu) else none
    | .dk l => match x with
      | .cell _ => some (.int l.length, mu)
      | _ => none
    | _ => none
  | _ => none
def rLenA (K : PySem.W.Frag) : List V → Hp → VK → Prop := fun xs H Q => (∃ x n, xs = [x] ∧ LenV K x H n ∧ Q (.int n) H) ∨ ∃ a kvs, xs = [V.ref a] ∧ H a = some (.dK kvs) ∧ Q (.int kvs.length) H
theorem call_lenA {X : Cx} : CallR X (.builtin "len") (rLenA X.K) := call_len.or call_lenD
theorem cg_len : CallD K (rLenA K) gLen := fun F io H mu vs ds Q M r h => by
  unfold gLen at h
  split at h
  · rename_i x
    obtain ⟨v, rfl, rx⟩ := r.one_inv
    split at h
    · rename_i l e
      obtain ⟨a, xs, rfl, ha, r2⟩ := M.lst rx e
      exact .inl ⟨_, xs.length, rfl, .inl ⟨xs, SqL.of ha, rfl⟩, by rw [r2.length]; exact satO_some h M .int⟩
    · rename_i l e
      obtain ⟨a, xs, rfl, ha, r2⟩ := M.tup rx e
      exact .inl ⟨_, xs.length, rfl, .inr ⟨xs, ha, rfl⟩, by rw [r2.length]; exact satO_some h M .int⟩
    · rename_i l e
      obtain ⟨a, xs, rfl, ha, r2⟩ := M.rl rx e
      exact .inl ⟨_, xs.length, rfl, .inl ⟨xs, ha, rfl⟩, by rw [r2.length]; exact satO_some h M .int⟩
    · rename_i s e
      split at h
      · rename_i hl
        have e' : _ = D.str _ := view_nocell e (fun _ => nofun) (fun _ => nofun)
        subst e'
        have := rx.str_inv
        subst this
        exact .inl ⟨_, s.length, rfl, ⟨by rw [sizeLine_eq]; omega, rfl⟩, satO_some h M .int⟩
      · exact h.elim
    · rename_i l e
      split at h
      · rename_i n
        have e2 : mu[n]? = some (.dk l) := by
          rw [view_cell] at e
          split at e
          · cases e
          · rename_i q; cases e; exact q
          · cases e
        obtain ⟨a, xs, rfl, hn, ha, r2⟩ := M.dkW rx e2
        exact .inr ⟨a, xs, rfl, ha, by rw [r2.length]; exact satO_some h M .int⟩
      · exact h.elim
    · exact h.elim
  · exact h.elim
def g1I (f : Int → Int) : Mu → List D → ORes D := fun mu ds => match ds with
  | [.int i] => some (.int (f i), mu)
  | _ => none
theorem cg_abs : CallD K (fun xs H Q => ∃ i, xs = [.int i] ∧ Q (.int (if i < 0 then -i else i)) H) (g1I fun i => if i < 0 then -i else i) := fun F io H mu vs ds Q M r h => by
  unfold g1I at h
  split at h
  · rename_i i
    obtain ⟨v, rfl, rx⟩ := r.one_inv
    exact ⟨i, by rw [rx.int_inv], satO_some h M .int⟩
  · exact h.elim
def g2I (f : Int → Int → Int) : Mu → List D → ORes D := fun mu ds => match ds with
  | [.int i, .int j] => some (.int (f i j), mu)
  | _ => none
/-- int(x) -/
def gInt (mu : Mu) (ds : List D) : ORes D := match ds with
  | [.int i] => some (.int i, mu)
  | [.bl b] => some (.int (if b then 1 else 0), mu)
  | _ => none
theorem cg_int : CallD K (fun xs H Q => (∃ i, xs = [.int i] ∧ Q (.int i) H) ∨ ∃ k, xs = [.bl k] ∧ Q (.int (if k then 1 else 0)) H) gInt := fun F io H mu vs ds Q M r h => by
  unfold gInt at h
  split at h
  · rename_i i
    obtain ⟨v, rfl, rx⟩ := r.one_inv
    exact .inl ⟨i, by rw [rx.int_inv], satO_some h M .int⟩
  · rename_i b
    obtain ⟨v, rfl, rx⟩ := r.one_inv
    exact .inr ⟨b, by rw [rx.bl_inv], satO_some h M .int⟩
  · exact h.elim
/-- the ints of a list of ints -/
def intsOf : List D → Option (List Int)
  | [] => some []
  | .int i :: ds => (intsOf ds).map fun l => i :: l
  | _ :: _ => none
theorem intsOf_map {l : List Int} : intsOf (l.map D.int) = some l := by
  induction l with
  | nil => rfl
  | cons i l ih => simp only [List.map_cons, intsOf, ih, Option.map_some]
theorem intsOf_inv : ∀ {ds : List D} {l : List Int}, intsOf ds = some l → ds = l.map D.int
  | [], _, e => by cases e; rfl
  | d :: ds, l, e => by
    cases d with
    | int i =>
      simp only [intsOf, Option.map_eq_some_iff] at e
      obtain ⟨k, e1, rfl⟩ := e
      rw [intsOf_inv e1]; rfl
    | _ => cases e
def blsOf : List D → Option (List Bool)
  | [] => some []
  | .bl i :: ds => (blsOf ds).map fun l => i :: l
  | _ :: _ => none
theorem blsOf_map {l : List Bool} : blsOf (l.map D.bl) = some l := by
  induction l with
  | nil => rfl
  | cons i l ih => simp only [List.map_cons, blsOf, ih, Option.map_some]
theorem blsOf_inv : ∀ {ds : List D} {l : List Bool}, blsOf ds = some l → ds = l.map D.bl
  | [], _, e => by cases e; rfl
  | d :: ds, l, e => by
    cases d with
    | bl i =>
      simp only [blsOf, Option.map_eq_some_iff] at e
      obtain ⟨k, e1, rfl⟩ := e
      rw [blsOf_inv e1]; rfl
    | _ => cases e
def strsOf : List D → Option (List Str)
  | [] => some []
  | .str i :: ds => (strsOf ds).map fun l => i :: l
  | _ :: _ => none
theorem strsOf_map {l : List Str} : strsOf (l.map D.str) = some l := by
  induction l with
  | nil => rfl
  | cons i l ih => simp only [List.map_cons, strsOf, ih, Option.map_some]
theorem strsOf_inv : ∀ {ds : List D} {l : List Str}, strsOf ds = some l → ds = l.map D.str
  | [], _, e => by cases e; rfl
  | d :: ds, l, e => by
    cases d with
    | str i =>
      simp only [strsOf, Option.map_eq_some_iff] at e
      obtain ⟨k, e1, rfl⟩ := e
      rw [strsOf_inv e1]; rfl
    | _ => cases e
/-- one argument, a list of ints -/
def gIL (f : List Int → Option D) : Mu → List D → ORes D := fun mu ds => match ds with
  | [x] => match view mu x with
    | .lst l => match intsOf l with
      | some ns => (f ns).map fun d => (d, mu)
      | none => none
    | _ => none
  | _ => none
theorem gIL_inv {f : List Int → Option D} {vs : List V} {ds : List D} {Q : VK} (M : Mem K F io H mu) (r : RepL K F io vs ds) (h : SatO K (Rep K) F io H (gIL f mu ds) Q) :
    ∃ a ns d, vs = [.ref a] ∧ SqL K H a (ns.map V.int) ∧ f ns = some d ∧ SatO K (Rep K) F io H (some (d, mu)) Q := by
  unfold gIL at h
  split at h
  · rename_i x
    obtain ⟨v, rfl, rx⟩ := r.one_inv
    split at h
    · rename_i l e
      split at h
      · rename_i ns e2
        obtain ⟨a, xs, rfl, ha, r2⟩ := M.lst rx e
        rw [intsOf_inv e2] at r2
        have := r2.ints
        subst this
        cases hf : f ns with
        | none => rw [hf] at h; exact h.elim
        | some d => rw [hf] at h; exact ⟨a, ns, d, rfl, SqL.of ha, hf, h⟩
      · exact h.elim
    · exact h.elim
  · exact h.elim
theorem cg_sum : CallD K (rSum K) (gIL fun ns => some (.int ns.sum)) := fun F io H mu vs ds Q M r h => by
  obtain ⟨a, ns, d, rfl, ha, e, h⟩ := gIL_inv M r h
  cases e
  exact ⟨a, ns, rfl, ha, satO_some h M .int⟩
/-- the greatest, the least of a list -/
def maxI : List Int → Int
  | [] => 0
  | [x] => x
  | x :: xs => max x (maxI xs)
def minI : List Int → Int
  | [] => 0
  | [x] => x
  | x :: xs => min x (minI xs)
theorem maxI_mem : ∀ {l : List Int}, l ≠ [] → maxI l ∈ l ∧ ∀ y, y ∈ l → y ≤ maxI l
  | [], h => absurd rfl h
  | [x], _ => ⟨List.mem_singleton.mpr rfl, fun y hy => by rw [List.mem_singleton.mp hy]; exact Int.le_refl _⟩
  | x :: z :: xs, _ => by
    obtain ⟨h1, h2⟩ := maxI_mem (l := z :: xs) (by simp)
    have e : maxI (x :: z :: xs) = max x (maxI (z :: xs)) := rfl
    rw [e]
    refine ⟨?_, fun y hy => ?_⟩
    · rcases Int.le_total x (maxI (z :: xs)) with h | h
      · rw [Int.max_eq_right h]; exact List.mem_cons_of_mem _ h1
      · rw [Int.max_eq_left h]; exact List.mem_cons_self
    · rcases List.mem_cons.mp hy with q | q
      · rw [q]; exact Int.le_max_left _ _
      · exact Int.le_trans (h2 y q) (Int.le_max_right _ _)
theorem minI_mem : ∀ {l : List Int}, l ≠ [] → minI l ∈ l ∧ ∀ y, y ∈ l → minI l ≤ y
  | [], h => absurd rfl h
  | [x], _ => ⟨List.mem_singleton.mpr rfl, fun y hy => by rw [List.mem_singleton.mp hy]; exact Int.le_refl _⟩
  | x :: z :: xs, _ => by
    obtain ⟨h1, h2⟩ := minI_mem (l := z :: xs) (by simp)
    have e : minI (x :: z :: xs) = min x (minI (z :: xs)) := rfl
    rw [e]
    refine ⟨?_, fun y hy => ?_⟩
    · rcases Int.le_total x (minI (z :: xs)) with h | h
      · rw [Int.min_eq_left h]; exact List.mem_cons_self
      · rw [Int.min_eq_right h]; exact List.mem_cons_of_mem _ h1
    · rcases List.mem_cons.mp hy with q | q
      · rw [q]; exact Int.min_le_left _ _
      · exact Int.le_trans (Int.min_le_right _ _) (h2 y q)
/-- max(xs), max(a, b) -/
def gMax (mu : Mu) (ds : List D) : ORes D := match ds with
  | [.int i, .int j] => some (.int (max i j), mu)
  | ds => gIL (fun ns => if ns.isEmpty then none else some (.int (maxI ns))) mu ds
def gMin (mu : Mu) (ds : List D) : ORes D := match ds with
  | [.int i, .int j] => some (.int (min i j), mu)
  | ds => gIL (fun ns => if ns.isEmpty then none else some (.int (minI ns))) mu ds
def rMaxA (K : PySem.W.Frag) : List V → Hp → VK → Prop := fun xs H Q => (∃ i j, xs = [.int i, .int j] ∧ Q (.int (if j > i then j else i)) H) ∨ rMax K xs H Q
def rMinA (K : PySem.W.Frag) : List V → Hp → VK → Prop := fun xs H Q => (∃ i j, xs = [.int i, .int j] ∧ Q (.int (if j < i then j else i)) H) ∨ rMin K xs H Q
theorem call_maxA {X : Cx} (hc : X.calm = true) : CallR X (.builtin "max") (rMaxA X.K) := (call_max2 hc).or (cr_max hc)
theorem call_minA {X : Cx} (hc : X.calm = true) : CallR X (.builtin "min") (rMinA X.K) := (call_min2 hc).or (cr_min hc)
theorem cg_max : CallD K (rMaxA K) gMax := fun F io H mu vs ds Q M r h => by
  unfold gMax at h
  split at h
  · rename_i i j
    obtain ⟨v, w, rfl, rx, ry⟩ := r.two_inv
    have := rx.int_inv
    subst this
    have := ry.int_inv
    subst this
    refine .inl ⟨i, j, rfl, ?_⟩
    have e : (if j > i then j else i) = max i j := by
      split
      · rw [Int.max_eq_right (by omega)]
      · rw [Int.max_eq_left (by omega)]
    rw [e]
    exact satO_some h M .int
  · obtain ⟨a, ns, d, rfl, ha, e, h⟩ := gIL_inv M r h
    split at e
    · cases e
    · rename_i hne
      cases e
      have hne : ns ≠ [] := fun z => hne (by rw [z]; rfl)
      obtain ⟨h1, h2⟩ := maxI_mem hne
      refine .inr ⟨a, ns, rfl, ha, by cases ns with
        | nil => exact absurd rfl hne
        | cons => simp, fun m hm hle => ?_⟩
      have : m = maxI ns := Int.le_antisymm (h2 m hm) (hle _ h1)
      rw [this]
      exact satO_some h M .int
theorem cg_min : CallD K (rMinA K) gMin := fun F io H mu vs ds Q M r h => by
  unfold gMin at h
  split at h
  · rename_i i j
    obtain ⟨v, w, rfl, rx, ry⟩ := r.two_inv
    have := rx.int_inv
    subst this
    have := ry.int_inv
    subst this
    refine .inl ⟨i, j, rfl, ?_⟩
    have e : (if j < i then j else i) = min i j := by
      split
      · rw [Int.min_eq_right (by omega)]
      · rw [Int.min_eq_left (by omega)]
    rw [e]
    exact satO_some h M .int
  · obtain ⟨a, ns, d, rfl, ha, e, h⟩ := gIL_inv M r h
    split at e
    · cases e
    · rename_i hne
      cases e
      have hne : ns ≠ [] := fun z => hne (by rw [z]; rfl)
      obtain ⟨h1, h2⟩ := minI_mem hne
      refine .inr ⟨a, ns, rfl, ha, by cases ns with
        | nil => exact absurd rfl hne
        | cons => simp, fun m hm hle => ?_⟩
      have : m = minI ns := Int.le_antisymm (hle _ h1) (h2 m hm)
      rw [this]
      exact satO_some h M .int
/-- all(xs), any(xs) of bools -/
def gBL (f : List Bool → Bool) : Mu → List D → ORes D := fun mu ds => match ds with
  | [x] => match view mu x with
    | .lst l => match blsOf l with
      | some ns => some (.bl (f ns), mu)
      | none => none
    | _ => none
  | _ => none
theorem gBL_inv {f : List Bool → Bool} {vs : List V} {ds : List D} {Q : VK} (M : Mem K F io H mu) (r : RepL K F io vs ds) (h : SatO K (Rep K) F io H (gBL f mu ds) Q) : ∃ a ns, vs = [.ref a] ∧ SqL K H a (ns.map V.bl) ∧ Q (.bl (f ns)) H := by
  unfold gBL at h
  split at h
  · rename_i x
    obtain ⟨v, rfl, rx⟩ := r.one_inv
    split at h
    · rename_i l e
      split at h
      · rename_i ns e2
        obtain ⟨a, xs, rfl, ha, r2⟩ := M.lst rx e
        rw [blsOf_inv e2] at r2
        have := r2.bls
        subst this
        exact ⟨a, ns, rfl, SqL.of ha, satO_some h M .bl⟩
      · exact h.elim
    · exact h.elim
  · exact h.elim
theorem cg_all : CallD K (rAll K) (gBL fun l => l.all id) := fun F io H mu vs ds Q M r h => let ⟨a, ns, e, ha, q⟩ := gBL_inv M r h; ⟨a, ns, e, ha, q⟩
theorem cg_any : CallD K (rAny K) (gBL fun l => l.any id) := fun F io H mu vs ds Q M r h => let ⟨a, ns, e, ha, q⟩ := gBL_inv M r h; ⟨a, ns, e, ha, q⟩
/-- list(x), tuple(x) of a list, a tuple -/
def seqOf (mu : Mu) (x : D) : Option (List D) := match view mu x with
  | .lst l => some l
  | .tup l => some l
  | .rl l => some l
  | _ => none
theorem seqOf_inv {x : D} {v : V} {l : List D} (M : Mem K F io H mu) (r : Rep K F io v x) (e : seqOf mu x = some l) : ∃ a xs, v = .ref a ∧ (SqL K H a xs ∨ SqT K H a xs) ∧ RepL K F io xs l := by
  unfold seqOf at e
  split at e
  · rename_i l' e'
    cases e
    obtain ⟨a, xs, rfl, ha, r2⟩ := M.lst r e'
    exact ⟨a, xs, rfl, .inl (SqL.of ha), r2⟩
  · rename_i l' e'
    cases e
    obtain ⟨a, xs, rfl, ha, r2⟩ := M.tup r e'
    exact ⟨a, xs, rfl, .inr ha, r2⟩
  · rename_i l' e'
    cases e
    obtain ⟨a, xs, rfl, ha, r2⟩ := M.rl r e'
    exact ⟨a, xs, rfl, .inl ha, r2⟩
  · cases e
def gList (b : Bool) (mu : Mu) (ds : List D) : ORes D := match ds with
  | [x] => match seqOf mu x with
    | some l => mk b (.lst l) mu
    | none => none
  | _ => none
theorem cg_list (b : Bool) : CallD K (fun xs H Q => ∃ p ys, xs = [.ref p] ∧ (SqL K H p ys ∨ SqT K H p ys) ∧ ∀ l, H l = none → Q (.ref l) (upd H l (.lst ys))) (gList b) := fun F io H mu vs ds Q M r h => by
  unfold gList at h
  split at h
  · rename_i x
    obtain ⟨v, rfl, rx⟩ := r.one_inv
    split at h
    · rename_i l e
      obtain ⟨a, xs, rfl, ha, r2⟩ := seqOf_inv M rx e
      exact ⟨a, xs, rfl, ha, fun p hp => sat_mk M h p _ hp ⟨xs, rfl, r2⟩⟩
    · exact h.elim
  · exact h.elim
def gTuple (mu : Mu) (ds : List D) : ORes D := match ds with
  | [x] => match view mu x with
    | .lst l => some (.tup l, mu)
    | .tup l => some (.tup l, mu)
    | .rl l => some (.tup l, mu)
    | _ => none
  | _ => none
theorem cg_tuple : CallD K (fun xs H Q => ∃ p ys, xs = [.ref p] ∧ ((SqL K H p ys ∧ ∀ l, H l = none → Q (.ref l) (upd H l (.tup ys))) ∨ (SqT K H p ys ∧ Q (.ref p) H))) gTuple := fun F io H mu vs ds Q M r h => by
  unfold gTuple at h
  split at h
  · rename_i x
    obtain ⟨v, rfl, rx⟩ := r.one_inv
    split at h
    · rename_i l e
      obtain ⟨a, xs, rfl, ha, r2⟩ := M.lst rx e
      exact ⟨a, xs, rfl, .inl ⟨SqL.of ha, fun p hp => h _ _ _ _ (M.stepF hp) (M.newF hp) (.tup (SqT.of upd_same) (r2.mono (Le.put (M.fresh hp)) Pre.rfl))⟩⟩
    · rename_i l e
      obtain ⟨a, xs, rfl, ha, r2⟩ := M.tup rx e
      have e' : x = .tup l := view_nocell e (fun _ => nofun) (fun _ => nofun)
      subst e'
      exact ⟨a, xs, rfl, .inr ⟨ha, satO_some h M rx⟩⟩
    · rename_i l e
      obtain ⟨a, xs, rfl, ha, r2⟩ := M.rl rx e
      exact ⟨a, xs, rfl, .inl ⟨ha, fun p hp => h _ _ _ _ (M.stepF hp) (M.newF hp) (.tup (SqT.of upd_same) (r2.mono (Le.put (M.fresh hp)) Pre.rfl))⟩⟩
    · exact h.elim
  · exact h.elim
/-! ### isinstance of built-in classes -/
def tyN (mu : Mu) (x : D) : Option String := match view mu x with
  | .non => some "NoneType"
  | .bl _ => some "bool"
  | .int _ => some "int"
  | .str _ => some "str"
  | .lst _ => some "list"
  | .rl _ => some "list"
  | .tup _ => some "tuple"
  | .dk _ => some "dict"
  | _ => none
theorem tyN_rep {x : D} {v : V} {n : String} (M : Mem K F io H mu) (r : Rep K F io v x) (e : tyN mu x = some n) : TyX K H v (.type n) := by
  unfold tyN at e
  split at e
  · rename_i e'; cases e; rw [view_nocell e' (fun _ => nofun) (fun _ => nofun)] at r; rw [r.non_inv]; exact .base .non
  · rename_i e'; cases e; rw [view_nocell e' (fun _ => nofun) (fun _ => nofun)] at r; rw [r.bl_inv]; exact .base (.bl _)
  · rename_i e'; cases e; rw [view_nocell e' (fun _ => nofun) (fun _ => nofun)] at r; rw [r.int_inv]; exact .base (.int _)
  · rename_i e'; cases e; rw [view_nocell e' (fun _ => nofun) (fun _ => nofun)] at r; rw [r.str_inv]; exact .base (.str _)
  · rename_i e'
    cases e
    obtain ⟨a, xs, rfl, ha, _⟩ := M.lst r e'
    exact .base (.lst ha)
  · rename_i e'
    cases e
    obtain ⟨a, xs, rfl, ha, _⟩ := M.rl r e'
    rcases ha with (ha | ⟨o, ha⟩) | ⟨o, its, k, ha, hc, _⟩
    · exact .base (.lst ha)
    · exact .base (.frz ha)
    · exact .kList ha hc
  · rename_i e'
    cases e
    obtain ⟨a, xs, rfl, ha, _⟩ := M.tup r e'
    rcases ha with (ha | ⟨o, ha⟩) | ⟨o, its, k, ha, hc, _⟩
    · exact .base (.tup ha)
    · exact .fTuple ha
    · exact .kTuple ha hc
  · rename_i e'
    cases e
    obtain ⟨a, xs, rfl, ha, _⟩ := M.dk r e'
    rcases ha with ha | ⟨o, ha⟩
    · exact .base (.dK ha)
    · exact .fDict ha
  · cases e
/-- is a value of the built-in type a one of the class b -/
def isiB (a b : String) : Option Bool :=
  if ["NoneType", "bool", "int", "str", "list", "tuple", "dict"].contains a && ["int", "bool", "str", "list", "tuple", "dict"].contains b then some (a == b || (a == "bool" && b == "int")) else none
theorem isiB_kit {a b : String} {r : Bool} (h : isiB a b = some r) : PySem.W.kitOne K (.type a) (.type b) = some r := by
  have key : ∀ x ∈ (["NoneType", "bool", "int", "str", "list", "tuple", "dict"] : List String), ∀ y ∈ (["int", "bool", "str", "list", "tuple", "dict"] : List String), kitB x y = isiB x y := by decide +kernel
  have h2 := h
  unfold isiB at h
  split at h
  · rename_i hc
    rw [Bool.and_eq_true] at hc
    exact kit_ty ((key a (List.contains_iff_mem.mp hc.1) b (List.contains_iff_mem.mp hc.2)).trans h2)
  · cases h
def isiL (a : String) : List D → Option Bool
  | [] => some false
  | .ty b :: cs => match isiB a b, isiL a cs with
    | some r, some q => some (r || q)
    | _, _ => none
  | _ :: _ => none
def gIsi (mu : Mu) (ds : List D) : ORes D := match ds with
  | [x, .ty b] => match tyN mu x with
    | some a => (isiB a b).map fun r => (.bl r, mu)
    | none => none
  | [x, .tup cs] => match tyN mu x with
    | some a => (isiL a cs).map fun r => (.bl r, mu)
    | none => none
  | _ => none
theorem isiL_kit {a : String} : ∀ {cs : List D} {vs : List V} {r : Bool}, RepL K F io vs cs → isiL a cs = some r → ∃ us, Paired ClsV vs us ∧ PySem.W.kitAny K (.type a) us = some r
  | [], _, r, .nil, h => by cases h; exact ⟨[], .nil, rfl⟩
  | c :: cs, _, r, .cons rc rs, h => by
    cases c with
    | ty b =>
      simp only [isiL] at h
      have := rc.ty_inv
      subst this
      split at h
      · rename_i r q e1 e2
        cases h
        obtain ⟨us, p, z⟩ := isiL_kit rs e2
        refine ⟨_ :: us, .cons (.ty b) p, kitAny_cons (isiB_kit e1) (fun y => ?_) (fun y => ?_)⟩
        · rw [y, Bool.false_or]; exact z
        · rw [y, Bool.true_or]
      · cases h
    | _ => cases h
/-- isinstance(x, (c1, c2, ..)), the tuple wherever it stands -/
def rIsiS (K : PySem.W.Frag) : List V → Hp → VK → Prop := fun xs H Q => ∃ (x : V) (tp : Addr) (cs : List V) (t : Value) (us : List Value) (b : Bool), xs = [x, .ref tp] ∧ SqT K H tp cs ∧ Paired ClsV cs us ∧ TyX K H x t ∧ PySem.W.kitAny K t us = some b ∧ Q (.bl b) H
theorem call_isiS {X : Cx} : CallR X (.builtin "isinstance") (rIsiS X.K) := by
  intro pins s σ H xs us Q I r h
  obtain ⟨x, tp, cs, t, ws, b, rfl, hT, k, ty, e, q⟩ := h
  obtain ⟨u1, u2, rfl, r1, r2⟩ := vals2 r
  cases (show u2 = Value.ref tp from r2)
  obtain ⟨P, Z, p, hx⟩ := kit_of I r1 ty
  obtain ⟨its, rv, ⟨o, h1, h2, n, h3⟩, _⟩ := I.tuple hT
  have e3 := ClsV.all k rv
  subst e3
  obtain ⟨oc, od, dt, sl⟩ := o
  simp only at h2 h3
  subst h2 h3
  exact PySem.W.kia_tup Z I.kIn p h1 e hx fun tk => ⟨.bl b, H, I.tok tk, rfl, q⟩
def rIsiA (K : PySem.W.Frag) : List V → Hp → VK → Prop := fun xs H Q => rIsi K xs H Q ∨ rIsiS K xs H Q
theorem call_isiA {X : Cx} : CallR X (.builtin "isinstance") (rIsiA X.K) := call_isi.or call_isiS
theorem cg_isi : CallD K (rIsiA K) gIsi := fun F io H mu vs ds Q M r h => by
  unfold gIsi at h
  split at h
  · rename_i x b
    obtain ⟨v, w, rfl, rx, ry⟩ := r.two_inv
    have := ry.ty_inv
    subst this
    split at h
    · rename_i a e
      cases e2 : isiB a b with
      | none => rw [e2] at h; exact h.elim
      | some r => rw [e2] at h; exact .inl ⟨v, _, _, _, r, rfl, .ty b, tyN_rep M rx e, isiB_kit e2, satO_some h M .bl⟩
    · exact h.elim
  · rename_i x cs
    obtain ⟨v, w, rfl, rx, ry⟩ := r.two_inv
    split at h
    · rename_i a e
      cases e2 : isiL a cs with
      | none => rw [e2] at h; exact h.elim
      | some rr =>
        rw [e2] at h
        obtain ⟨p, xs, rfl, hp, r2⟩ := M.tup ry rfl
        obtain ⟨us, pu, ku⟩ := isiL_kit r2 e2
        exact .inr ⟨v, p, xs, _, us, rr, rfl, hp, pu, tyN_rep M rx e, ku, satO_some h M .bl⟩
    · exact h.elim
  · exact h.elim

/-! ### methods of lists -/
def isLst (mu : Mu) (x : D) : Bool := match view mu x with
  | .lst _ => true
  | _ => false
theorem ty_lst : TyD K "list" isLst := fun F io H mu x dx M r e => by
  unfold isLst at e
  split at e
  · rename_i l e'
    obtain ⟨a, xs, rfl, ha, _⟩ := M.lst r e'
    exact .inl ⟨rfl, xs, SqL.of ha⟩
  · cases e
/-- xs.append(y), of a cell -/
def gAppend (mu : Mu) (x : D) (ds : List D) : ORes D := match x, ds with
  | .cell n, [y] => match mu[n]? with
    | some (.lst l) => if lim l.length then some (.non, mu.set n (.lst (l ++ [y]))) else none
    | _ => none
  | _, _ => none
theorem mg_append : MetD K rAppend gAppend := fun F io H mu x vs dx ds Q M rx r h => by
  unfold gAppend at h
  split at h
  · rename_i n y
    split at h
    · rename_i l e
      split at h
      · rename_i hl
        obtain ⟨a, xs, rfl, hn, ha, r2⟩ := M.lstW rx e
        obtain ⟨v, rfl, ry⟩ := r.one_inv
        exact ⟨a, xs, v, rfl, rfl, ha, by rw [r2.length]; exact lim_lt hl, h F io _ .non (Mem.stepW hn) (M.setC hn e nofun ⟨_, rfl, r2.append (.cons ry .nil)⟩) .non⟩
      · exact h.elim
    · exact h.elim
  · exact h.elim
/-- xs.extend(ys), of a cell -/
def gExtend (mu : Mu) (x : D) (ds : List D) : ORes D := match x, ds with
  | .cell n, [y] => match mu[n]?, view mu y with
    | some (.lst l), .lst k => if lim (l.length + k.length) then some (.non, mu.set n (.lst (l ++ k))) else none
    | _, _ => none
  | _, _ => none
theorem mg_extend : MetD K rExtend gExtend := fun F io H mu x vs dx ds Q M rx r h => by
  unfold gExtend at h
  split at h
  · rename_i n y
    split at h
    · rename_i l k e e2
      split at h
      · rename_i hl
        obtain ⟨a, xs, rfl, hn, ha, r2⟩ := M.lstW rx e
        obtain ⟨v, rfl, ry⟩ := r.one_inv
        obtain ⟨b, ys, rfl, hb, r3⟩ := M.lst ry e2
        exact ⟨a, b, xs, ys, rfl, rfl, ha, hb, by rw [r2.length, r3.length]; exact lim_line hl, h F io _ .non (Mem.stepW hn) (M.setC hn e nofun ⟨_, rfl, r2.append r3⟩) .non⟩
      · exact h.elim
    · exact h.elim
  · exact h.elim
/-- xs.pop(i), of a cell -/
def gPopAt (mu : Mu) (x : D) (ds : List D) : ORes D := match x, ds with
  | .cell n, [.int i] => match mu[n]? with
    | some (.lst l) => if 0 ≤ i ∧ i < 1000000 then (match l[i.toNat]? with
      | some y => some (y, mu.set n (.lst (l.eraseIdx i.toNat)))
      | none => none) else none
    | _ => none
  | _, _ => none
theorem mg_popAt : MetD K rPopAt gPopAt := fun F io H mu x vs dx ds Q M rx r h => by
  unfold gPopAt at h
  split at h
  · rename_i n i
    split at h
    · rename_i l e
      split at h
      · rename_i hi
        split at h
        · rename_i y ey
          obtain ⟨a, xs, rfl, hn, ha, r2⟩ := M.lstW rx e
          obtain ⟨v, rfl, ri⟩ := r.one_inv
          have := ri.int_inv
          subst this
          obtain ⟨w, ew, rw'⟩ := r2.get ey
          have hl : i.toNat < xs.length := (List.getElem?_eq_some_iff.mp ew).1
          exact ⟨a, xs, i, i.toNat, w, rfl, rfl, ha, by omega, by omega, PySem.seqIndex_of hi.1 (by omega), ew, h F io _ w (Mem.stepW hn) (M.setC hn e nofun ⟨_, rfl, r2.eraseIdx _⟩) rw'⟩
        · exact h.elim
      · exact h.elim
    · exact h.elim
  · exact h.elim
/-- xs.pop(), of a cell -/
def gPop (mu : Mu) (x : D) (ds : List D) : ORes D := match x, ds with
  | .cell n, [] => match mu[n]? with
    | some (.lst l) => match l[l.length - 1]? with
      | some y => some (y, mu.set n (.lst l.dropLast))
      | none => none
    | _ => none
  | _, _ => none
theorem RepL.dropLast {xs : List V} {ds : List D} (r : RepL K F io xs ds) : RepL K F io xs.dropLast ds.dropLast := by
  rw [List.dropLast_eq_take, List.dropLast_eq_take, r.length]; exact r.take _
theorem mg_pop : MetD K rPop gPop := fun F io H mu x vs dx ds Q M rx r h => by
  unfold gPop at h
  split at h
  · rename_i n
    split at h
    · rename_i l e
      split at h
      · rename_i y ey
        obtain ⟨a, xs, rfl, hn, ha, r2⟩ := M.lstW rx e
        cases r
        obtain ⟨w, ew, rw'⟩ := r2.get ey
        exact ⟨a, xs, w, rfl, rfl, ha, by rw [r2.length]; exact ew, h F io _ w (Mem.stepW hn) (M.setC hn e nofun ⟨_, rfl, r2.dropLast⟩) rw'⟩
      · exact h.elim
    · exact h.elim
  · exact h.elim

/-! ### what is walked -/
theorem PI_or {X : Cx} {tg e : Expr} {w w' : TI} (h : PI X tg e w) (h' : PI X tg e w') : PI X tg e (fun σ H R => w σ H R ∨ w' σ H R) := ⟨fun pins s σ H R I q => by
  rcases q with q | q
  · exact h.run pins s σ H R I q
  · exact h'.run pins s σ H R I q⟩
def mSeqI (me : DenE) : DenI := fun env mu => (me env mu).bind fun d m => match d with
  | .lst l => .ok l m
  | .tup l => .ok l m
  | .rl l => .ok l m
  | _ => .stuck
theorem itl_rep {a : Addr} {xs : List V} {ds : List D} (h : SqL K F a xs) (r : RepL K F io xs ds) : ItRep K F io (Itl K a) ds := fun F' jo H' mu' l p M => by
  have hs : SqL K H' a xs := M.le.sql (l.sql h)
  have r' := r.mono l p
  refine ⟨fun i d e => ?_, fun i hi => ⟨xs, hs, by rw [r.length]; exact hi⟩⟩
  obtain ⟨v, ev, rv⟩ := r'.get e
  refine ⟨⟨xs, v, hs, ev⟩, fun x H2 y => ?_⟩
  obtain ⟨rfl, y2⟩ := y
  have := y2 xs hs
  rw [ev] at this; cases this
  exact ⟨F', Step.rfl, M, rv⟩
theorem itt_rep {a : Addr} {xs : List V} {ds : List D} (h : SqT K F a xs) (r : RepL K F io xs ds) : ItRep K F io (Itt K a) ds := fun F' jo H' mu' l p M => by
  have hs : SqT K H' a xs := M.le.sqt (l.sqt h)
  have r' := r.mono l p
  refine ⟨fun i d e => ?_, fun i hi => ⟨xs, hs, by rw [r.length]; exact hi⟩⟩
  obtain ⟨v, ev, rv⟩ := r'.get e
  refine ⟨⟨xs, v, hs, ev⟩, fun x H2 y => ?_⟩
  obtain ⟨rfl, y2⟩ := y
  have := y2 xs hs
  rw [ev] at this; cases this
  exact ⟨F', Step.rfl, M, rv⟩
theorem di_seq {X : Cx} {W : WX} {tg e : Expr} {me : DenE} (he : DE X W e me) : DI X W tg e (mSeqI me) :=
  (PI_or (pi_list he) (pi_tup he)).imp fun σ H R ⟨F, io, env, mu, M, RR, h⟩ => by
    have h : Sat X.K (ItRep X.K) F io H (fun c dd H => W c dd σ H) ((me env mu).bind fun d m => match d with
      | .lst l => .ok l m
      | .tup l => .ok l m
      | .rl l => .ok l m
      | _ => .stuck) R := h
    cases q : me env mu with
    | stuck => rw [q] at h; exact h.elim
    | exc x m =>
      rw [q] at h
      refine .inl ⟨F, io, env, mu, M, RR, ?_⟩
      rw [q]; exact h
    | ok d m =>
      rw [q] at h
      cases d with
      | lst l =>
        refine .inl ⟨F, io, env, mu, M, RR, ?_⟩
        rw [q]
        intro F1 j1 H1 v s1 M1 r1
        cases r1 with
        | lst hf r => exact ⟨_, rfl, ⟨_, M1.le.sql (SqL.of hf)⟩, h F1 j1 H1 _ s1 M1 (itl_rep (SqL.of hf) r)⟩
      | rl l =>
        refine .inl ⟨F, io, env, mu, M, RR, ?_⟩
        rw [q]
        intro F1 j1 H1 v s1 M1 r1
        cases r1 with
        | rl hf r => exact ⟨_, rfl, ⟨_, M1.le.sql hf⟩, h F1 j1 H1 _ s1 M1 (itl_rep hf r)⟩
      | tup l =>
        refine .inr ⟨F, io, env, mu, M, RR, ?_⟩
        rw [q]
        intro F1 j1 H1 v s1 M1 r1
        cases r1 with
        | tup hf r => exact ⟨_, rfl, ⟨_, M1.le.sqt hf⟩, h F1 j1 H1 _ s1 M1 (itt_rep hf r)⟩
      | _ => exact h.elim
def rangeD (n : Int) : List D := (List.range n.toNat).map fun i => .int (i : Nat)
/-- range(n), range(a, b), in a for or a comprehension -/
def mRange1 (m : DenA) : DenI := fun env mu => (m env mu).bind fun ds m1 => match ds with
  | [.int n] => if -1000000000000 ≤ n ∧ n ≤ 1000000000000 then .ok (rangeD n) m1 else .stuck
  | _ => .stuck
def mRange2 (m : DenA) : DenI := fun env mu => (m env mu).bind fun ds m1 => match ds with
  | [.int a, .int b] => if -1000000000000 ≤ a ∧ a ≤ 1000000000000 ∧ -1000000000000 ≤ b ∧ b ≤ 1000000000000 then .ok ((List.range (b - a).toNat).map fun i => .int (a + (i : Nat))) m1 else .stuck
  | _ => .stuck
theorem itr_rep {lo : Int} {n : Nat} : ItRep K F io (Itr lo n) ((List.range n).map fun i => .int (lo + (i : Nat))) := fun F' jo H' mu' l p M => by
  refine ⟨fun i d e => ?_, fun i hi => ?_⟩
  · rw [List.getElem?_map] at e
    by_cases hi : i < n
    · rw [List.getElem?_range hi] at e
      cases e
      refine ⟨hi, fun x H2 y => ?_⟩
      obtain ⟨rfl, rfl⟩ := y
      exact ⟨F', Step.rfl, M, .int⟩
    · rw [List.getElem?_eq_none (by rw [List.length_range]; omega)] at e; cases e
  · rw [List.length_map, List.length_range] at hi
    exact hi
theorem di_range1 {X : Cx} {W : WX} {tg a : Expr} {m : DenA} {p pos : Pos} (hg : Gl X "range") (hm : X.mg "range" = none) (ha : DA X W [a] m) (hs : starEach [a] X.env = [(false, eval a X.env)] := by rfl) : DI X W tg (.Call (.Name "range" p) [a] [] pos) (mRange1 m) :=
  (pi_range1 hg hm ha hs).imp fun σ H R ⟨F, io, env, mu, M, RR, h⟩ => ⟨F, io, env, mu, M, RR, (Sat.bind h).imp fun vs H1 ⟨F1, j1, m1, ds, s1, M1, r1, q⟩ => by
    match ds, r1, q with
    | [.int n], r1, q =>
      obtain ⟨v, rfl, rx⟩ := r1.one_inv
      have := rx.int_inv
      subst this
      have q : Sat X.K (ItRep X.K) F1 j1 H1 (fun c dd H => W c dd σ H) (if -1000000000000 ≤ n ∧ n ≤ 1000000000000 then .ok (rangeD n) m1 else .stuck) R := q
      split at q
      · rename_i hn
        refine ⟨n, rfl, by omega, by omega, q F1 j1 H1 _ Step.rfl M1 ?_⟩
        have e := itr_rep (K := X.K) (F := F1) (io := j1) (lo := 0) (n := n.toNat)
        unfold rangeD
        simpa only [Int.zero_add] using e
      · exact q.elim⟩
theorem di_range2 {X : Cx} {W : WX} {tg a b : Expr} {m : DenA} {p pos : Pos} (hg : Gl X "range") (hm : X.mg "range" = none) (ha : DA X W [a, b] m) (hs : starEach [a, b] X.env = [(false, eval a X.env), (false, eval b X.env)] := by rfl) (hs2 : starEach [b] X.env = [(false, eval b X.env)] := by rfl) :
    DI X W tg (.Call (.Name "range" p) [a, b] [] pos) (mRange2 m) :=
  (pi_range2 hg hm ha hs hs2).imp fun σ H R ⟨F, io, env, mu, M, RR, h⟩ => ⟨F, io, env, mu, M, RR, (Sat.bind h).imp fun vs H1 ⟨F1, j1, m1, ds, s1, M1, r1, q⟩ => by
    match ds, r1, q with
    | [.int a, .int b], r1, q =>
      obtain ⟨v, w, rfl, rx, ry⟩ := r1.two_inv
      have := rx.int_inv
      subst this
      have := ry.int_inv
      subst this
      have q : Sat X.K (ItRep X.K) F1 j1 H1 (fun c dd H => W c dd σ H) (if -1000000000000 ≤ a ∧ a ≤ 1000000000000 ∧ -1000000000000 ≤ b ∧ b ≤ 1000000000000 then .ok ((List.range (b - a).toNat).map fun i => .int (a + (i : Nat))) m1 else .stuck) R := q
      split at q
      · rename_i hn
        exact ⟨a, b, rfl, ⟨by omega, by omega, by omega, by omega⟩, q F1 j1 H1 _ Step.rfl M1 itr_rep⟩
      · exact q.elim⟩
/-- zip(xs, ys) of two lists, of two tuples -/
def zipD : List D → List D → List D
  | x :: xs, y :: ys => .tup [x, y] :: zipD xs ys
  | _, _ => []
def mZip (m : DenA) : DenI := fun env mu => (m env mu).bind fun ds m1 => match ds with
  | [.lst l, .lst k] => .ok (zipD l k) m1
  | [.tup l, .tup k] => .ok (zipD l k) m1
  | _ => .stuck
theorem zipD_get : ∀ {l k : List D} {i : Nat} {d : D}, (zipD l k)[i]? = some d → ∃ x y, l[i]? = some x ∧ k[i]? = some y ∧ d = .tup [x, y]
  | [], _, _, _, e => by simp [zipD] at e
  | _ :: _, [], _, _, e => by simp [zipD] at e
  | x :: l, y :: k, 0, d, e => by simp [zipD] at e; exact ⟨x, y, rfl, rfl, e.symm⟩
  | x :: l, y :: k, i + 1, d, e => by
    simp only [zipD, List.getElem?_cons_succ] at e
    obtain ⟨a, b, h1, h2, h3⟩ := zipD_get e
    exact ⟨a, b, by simpa using h1, by simpa using h2, h3⟩
theorem zipD_len : ∀ {l k : List D} {i : Nat}, (zipD l k).length ≤ i → l.length ≤ i ∨ k.length ≤ i
  | [], _, _, _ => .inl (Nat.zero_le _)
  | _ :: _, [], _, _ => .inr (Nat.zero_le _)
  | x :: l, y :: k, i, h => by
    simp only [zipD, List.length_cons] at h ⊢
    cases i with
    | zero => omega
    | succ i =>
      rcases zipD_len (l := l) (k := k) (i := i) (by omega) with q | q
      · exact .inl (by omega)
      · exact .inr (by omega)
end
end DL

/-! DL6: zip, dict displays, stores by subscript, calls of a name that holds a def, methods of constants. -/
namespace DL
open PySem L2

section
variable {K : PySem.W.Frag} {F H : Hp} {io : List Addr} {mu : Mu}
theorem itz_rep {a b : Addr} {xs ys : List V} {l k : List D} (h : SqL K F a xs) (r : RepL K F io xs l) (h2 : SqL K F b ys) (r2 : RepL K F io ys k) : ItRep K F io (Itz K a b) (zipD l k) := fun F' jo H' mu' le p M => by
  have hs : SqL K H' a xs := M.le.sql (le.sql h)
  have hs2 : SqL K H' b ys := M.le.sql (le.sql h2)
  have r' := r.mono le p
  have r2' := r2.mono le p
  refine ⟨fun i d e => ?_, fun i hi => ⟨xs, ys, hs, hs2, ?_⟩⟩
  · obtain ⟨x, y, ex, ey, rfl⟩ := zipD_get e
    obtain ⟨v, ev, rv⟩ := r'.get ex
    obtain ⟨w, ew, rw'⟩ := r2'.get ey
    refine ⟨⟨xs, ys, v, w, hs, hs2, ev, ew⟩, fun z H2 q => ?_⟩
    obtain ⟨T, x', y', rfl, hT, rfl, q1, q2⟩ := q
    have e1 := q1 xs hs
    have e2 := q2 ys hs2
    rw [ev] at e1; cases e1
    rw [ew] at e2; cases e2
    have lp : Le F' (upd F' T (.tup [v, w])) := Le.put (M.fresh hT)
    exact ⟨_, M.stepF hT, M.newF hT, .tup (SqT.of upd_same) (.cons (rv.mono lp Pre.rfl) (.cons (rw'.mono lp Pre.rfl) .nil))⟩
  · rw [r.length, r2.length]; exact zipD_len hi
theorem itzT_rep {a b : Addr} {xs ys : List V} {l k : List D} (h : SqT K F a xs) (r : RepL K F io xs l) (h2 : SqT K F b ys) (r2 : RepL K F io ys k) : ItRep K F io (RZ.ItzT K a b) (zipD l k) := fun F' jo H' mu' le p M => by
  have hs : SqT K H' a xs := M.le.sqt (le.sqt h)
  have hs2 : SqT K H' b ys := M.le.sqt (le.sqt h2)
  have r' := r.mono le p
  have r2' := r2.mono le p
  refine ⟨fun i d e => ?_, fun i hi => ⟨xs, ys, hs, hs2, ?_⟩⟩
  · obtain ⟨x, y, ex, ey, rfl⟩ := zipD_get e
    obtain ⟨v, ev, rv⟩ := r'.get ex
    obtain ⟨w, ew, rw'⟩ := r2'.get ey
    refine ⟨⟨xs, ys, v, w, hs, hs2, ev, ew⟩, fun z H2 q => ?_⟩
    obtain ⟨T, x', y', rfl, hT, rfl, q1, q2⟩ := q
    have e1 := q1 xs hs
    have e2 := q2 ys hs2
    rw [ev] at e1; cases e1
    rw [ew] at e2; cases e2
    have lp : Le F' (upd F' T (.tup [v, w])) := Le.put (M.fresh hT)
    exact ⟨_, M.stepF hT, M.newF hT, .tup (SqT.of upd_same) (.cons (rv.mono lp Pre.rfl) (.cons (rw'.mono lp Pre.rfl) .nil))⟩
  · rw [r.length, r2.length]; exact zipD_len hi
end
section
variable {X : Cx} {W : WX}
theorem di_zip {e e2 : Expr} {m : DenA} {p pos tpos : Pos} {elts : List Expr} {kk : Nat} (hg : Gl X "zip") (hm : X.mg "zip" = none) (ha : DA X W [e, e2] m)
    (hs : starEach [e, e2] X.env = (false, eval e X.env) :: starEach [e2] X.env := by rfl) (hpl : (backTo pos (starEach [e2] X.env)).any (·.1) = false := by rfl) :
    DI X W (.Tuple elts kk tpos) (.Call (.Name "zip" p) [e, e2] [] pos) (mZip m) :=
  (RZ.pi_zipA hg hm ha hs hpl).imp fun σ H R ⟨F, io, env, mu, M, RR, h⟩ => ⟨F, io, env, mu, M, RR, (Sat.bind h).imp fun vs H1 ⟨F1, j1, m1, ds, s1, M1, r1, q⟩ => by
    match ds, r1, q with
    | [.lst l, .lst k], r1, q =>
      obtain ⟨v, w, rfl, rx, ry⟩ := r1.two_inv
      cases rx with
      | lst h1 q1 =>
        cases ry with
        | lst h2 q2 => exact ⟨_, _, _, _, rfl, .inl ⟨M1.le.sql (SqL.of h1), M1.le.sql (SqL.of h2), q F1 j1 H1 _ Step.rfl M1 (itz_rep (SqL.of h1) q1 (SqL.of h2) q2)⟩⟩
    | [.tup l, .tup k], r1, q =>
      obtain ⟨v, w, rfl, rx, ry⟩ := r1.two_inv
      cases rx with
      | tup h1 q1 =>
        cases ry with
        | tup h2 q2 => exact ⟨_, _, _, _, rfl, .inr ⟨M1.le.sqt h1, M1.le.sqt h2, q F1 j1 H1 _ Step.rfl M1 (itzT_rep h1 q1 h2 q2)⟩⟩⟩

/-! ### {k: v, ..}, a cell -/
def mPairs : List (DenE × DenE) → DEnv → Mu → Res (List (D × D))
  | [], _, mu => .ok [] mu
  | (k, v) :: r, env, mu => (k env mu).bind fun x m1 => (v env m1).bind fun y m2 => (mPairs r env m2).bind fun ps m3 => .ok ((x, y) :: ps) m3
def keysOf : List (D × D) → Option (List (Key × D))
  | [] => some []
  | (x, y) :: r => match keyOf x, keysOf r with
    | some k, some l => some ((k, y) :: l)
    | _, _ => none
def mergeD (l more : List (Key × D)) : List (Key × D) := more.foldl (fun acc kv => dPut acc kv.1 kv.2) l
def mDisp (prs : List (DenE × DenE)) : DenE := fun env mu => (mPairs prs env mu).bind fun ps m1 => match keysOf ps with
  | some l => if l.length ≤ 15 then .ofO (mk true (.dk (mergeD [] l)) m1) else .stuck
  | none => .stuck
/-- pairs of values -/
def RepP (K : PySem.W.Frag) (F : Hp) (io : List Addr) : List (V × V) → List (D × D) → Prop
  | [], [] => True
  | (v, w) :: r, (x, y) :: s => Rep K F io v x ∧ Rep K F io w y ∧ RepP K F io r s
  | _, _ => False
theorem RepP.mono {K : PySem.W.Frag} {F G : Hp} {io jo : List Addr} (l : Le F G) (p : Pre io jo) : ∀ {a : List (V × V)} {b : List (D × D)}, RepP K F io a b → RepP K G jo a b
  | [], [], h => h
  | (v, w) :: r, (x, y) :: s, h => ⟨h.1.mono l p, h.2.1.mono l p, RepP.mono l p h.2.2⟩
  | [], _ :: _, h => h.elim
  | _ :: _, [], h => h.elim
theorem tPairs_of {K : PySem.W.Frag} : ∀ (prs : List (DenE × DenE)) (σ : L2.St) (H : Hp) (Q : List (V × V) → Hp → Prop), (∃ F io env mu, Mem K F io H mu ∧ EnvR K F io σ env ∧ Sat K (RepP K) F io H (fun c dd H => W c dd σ H) (mPairs prs env mu) Q) →
    tPairs (prs.map fun p => (tE K W p.1, tE K W p.2)) σ H Q
  | [], σ, H, Q, ⟨F, io, env, mu, M, R, h⟩ => h F io H [] Step.rfl M True.intro
  | (k, v) :: r, σ, H, Q, ⟨F, io, env, mu, M, R, h⟩ => by
    refine ⟨F, io, env, mu, M, R, (Sat.bind h).imp fun x H1 ⟨F1, j1, m1, dx, s1, M1, r1, h1⟩ => ⟨F1, j1, env, m1, M1, R.step s1, (Sat.bind h1).imp fun y H2 ⟨F2, j2, m2, dy, s2, M2, r2, h2⟩ => ?_⟩⟩
    refine tPairs_of r σ H2 _ ⟨F2, j2, env, m2, M2, (R.step s1).step s2, (Sat.bind h2).imp fun ps H3 ⟨F3, j3, m3, ds, s3, M3, r3, h3⟩ => ?_⟩
    exact h3 F3 j3 H3 _ Step.rfl M3 ⟨r1.mono (s2.trans s3).le (s2.trans s3).pre, r2.mono s3.le s3.pre, r3⟩
theorem keysOf_rep {K : PySem.W.Frag} {F : Hp} {io : List Addr} : ∀ {ps : List (V × V)} {ds : List (D × D)} {l : List (Key × D)}, RepP K F io ps ds → keysOf ds = some l → ∃ kvs : List (Key × V), ps = kvs.map (fun kv => (kV kv.1, kv.2)) ∧ RepK K F io kvs l
  | [], [], l, _, e => by cases e; exact ⟨[], rfl, .nil⟩
  | (v, w) :: r, (x, y) :: s, l, h, e => by
    simp only [keysOf] at e
    split at e
    · rename_i k l' e1 e2
      cases e
      obtain ⟨kvs, rfl, rk⟩ := keysOf_rep h.2.2 e2
      refine ⟨(k, w) :: kvs, ?_, .cons h.2.1 rk⟩
      rw [keyOf_rep h.1 e1]; rfl
    · cases e
  | [], _ :: _, _, h, _ => h.elim
  | _ :: _, [], _, h, _ => h.elim
theorem merge_rep {K : PySem.W.Frag} {F : Hp} {io : List Addr} : ∀ {more : List (Key × V)} {dm : List (Key × D)} {l : List (Key × V)} {dl : List (Key × D)}, RepK K F io more dm → RepK K F io l dl → RepK K F io (mergeK l more) (mergeD dl dm)
  | _, _, _, _, .nil, r => r
  | _, _, l, dl, @RepK.cons _ _ _ k v d vs ds q t, r => by
    show RepK K F io (mergeK (putK l k v) vs) (mergeD (dPut dl k d) ds)
    exact merge_rep t (r.put q)
theorem de_disp {pos : Pos} {keys : List (Option Expr)} {values : List Expr} {prs : List (DenE × DenE)} (h : PPs X pos keys values (prs.map fun p => (tE X.K W p.1, tE X.K W p.2))) (hall : keys.all (·.isSome) = true) (hl : keys.length = values.length) (h0 : keys ≠ [])
    (h15 : keys.length ≤ 15) : DE X W (.Dict keys values pos) (mDisp prs) := (pe_disp h hall hl h0 h15).imp fun σ H Q ⟨F, io, env, mu, M, R, q⟩ p hp => by
  refine tPairs_of prs σ _ _ ⟨F, io, env, mu, M.newX hp, R, ?_⟩
  have q : Sat X.K (Rep X.K) F io H (fun c dd H => W c dd σ H) ((mPairs prs env mu).bind fun ps m1 => match keysOf ps with
    | some l => if l.length ≤ 15 then .ofO (mk true (.dk (mergeD [] l)) m1) else .stuck
    | none => .stuck) Q := q
  have s0 : Step F io H F io (upd H p (.dK [])) := M.stepX hp
  cases e : mPairs prs env mu with
  | stuck => rw [e] at q; exact q.elim
  | exc x m =>
    rw [e] at q
    exact Sat.step q s0
  | ok ps m1 =>
    rw [e] at q
    intro F2 j2 H2 vs s2 M2 r2
    have q : Sat X.K (Rep X.K) F io H (fun c dd H => W c dd σ H) (match keysOf ps with
      | some l => if l.length ≤ 15 then .ofO (mk true (.dk (mergeD [] l)) m1) else .stuck
      | none => .stuck) Q := q
    have hs := s0.trans s2
    have hpi : p ∉ io := M.notin hp
    have h2 : H2 p = some (.dK []) := s2.keep p _ upd_same hpi nofun
    have f2 : F2 p = none := s2.fr p _ upd_same hpi Plain.dK (M.fresh hp)
    have n2 : p ∉ j2 := fun z => by
      obtain ⟨ps, q⟩ := s2.new p z hpi _ upd_same
      cases q
    cases ek : keysOf ps with
    | none => rw [ek] at q; exact q.elim
    | some l =>
      rw [ek] at q
      have q : Sat X.K (Rep X.K) F io H (fun c dd H => W c dd σ H) (if l.length ≤ 15 then .ofO (mk true (.dk (mergeD [] l)) m1) else .stuck) Q := q
      by_cases hk : l.length ≤ 15
      · rw [if_pos hk] at q
        obtain ⟨kvs, rfl, rk⟩ := keysOf_rep r2 ek
        refine ⟨h2, kvs, rfl, by rw [rk.length]; exact hk, ?_⟩
        have M3 : Mem X.K F2 j2 (upd H2 p (.dK (mergeK [] kvs))) m1 := M2.setX n2 f2 h2
        have q : SatO X.K (Rep X.K) F io H (some (.cell m1.length, m1 ++ [.dk (mergeD [] l)])) Q := q
        refine q F2 (j2 ++ [p]) _ _ ⟨hs.le, hs.pre.trans Pre.app, fun a o ea na t => ?_, fun a ha na o ea => ?_, hs.fr⟩ (M3.adoptC upd_same f2 n2 ⟨_, rfl, merge_rep rk .nil⟩) (.cell M3.lenR)
        · rw [upd_ne (ne_of_none ea hp)]; exact hs.keep a o ea na t
        · rcases List.mem_append.mp ha with z | z
          · exact hs.new a z na o ea
          · rw [List.mem_singleton.mp z, hp] at ea; cases ea
      · rw [if_neg hk] at q; exact q.elim

/-! ### o[i] = v -/
theorem PSet_or {t t' : TSet} (h : PSet X t) (h' : PSet X t') : PSet X (fun o i v H Q => t o i v H Q ∨ t' o i v H Q) := by
  intro pins s σ H o i v ov iv u Q I ro ri rv q
  rcases q with q | q
  · exact h pins s σ H o i v ov iv u Q I ro ri rv q
  · exact h' pins s σ H o i v ov iv u Q I ro ri rv q
def gSet (mu : Mu) (o i v : D) : Option Mu := match o with
  | .cell n => match mu[n]? with
    | some (.dk l) => match keyOf i with
      | some k => if lim l.length then some (mu.set n (.dk (dPut l k v))) else none
      | none => none
    | some (.lst l) => match i with
      | .int j => match ixN l.length j with
        | some k => some (mu.set n (.lst (l.set k v)))
        | none => none
      | _ => none
    | _ => none
  | _ => none
def mSet (mv mo mi : DenE) : DenS := fun env mu => (mv env mu).andS env fun v m1 => (mo env m1).andS env fun o m2 => (mi env m2).andS env fun i m3 => match gSet m3 o i v with
  | some m4 => .nx env m4
  | none => .stuck
theorem ds_sub {o i value : Expr} {mo mi mv : DenE} {pos p : Pos} (hu : X.A.units + 1 < cLine) (ho : DE X W o mo) (hi : DE X W i mi) (hv : DE X W value mv)
    (hs : swapsWithSole [.Subscript o i p] value pos.line X.env = pure false := by rfl) (hw : swappedStores [.Subscript o i p] value X.env = pure none := by rfl)
    (h1 : (assignEach [.Subscript o i p] X.env).map (·.2) = [assign (.Subscript o i p) X.env] := by rfl)
    (ha : ∀ v, assign (.Subscript o i p) X.env v = (do
      let ov ← holding [v] (eval o X.env)
      let iv ← holding [v, ov] (eval i X.env)
      standAt p
      holding [v, ov, iv] (setItem ov iv v)
      release [v, ov, iv] []) := by intro _; rfl) : DS X W (.Assign [.Subscript o i p] value pos) (mSet mv mo mi) :=
  (ps_asg hv (pg_sub ho hi (PSet_or set_list (set_dict hu)) ha) hs hw h1).imp fun D σ H ⟨F, io, env, mu, M, R, h⟩ =>
    ⟨F, io, env, mu, M, R, (SatS.andS R h).imp fun v H1 ⟨F1, j1, m1, dv, s1, M1, r1, h1⟩ =>
      ⟨F1, j1, env, m1, M1, R.step s1, (SatS.andS (R.step s1) h1).imp fun o H2 ⟨F2, j2, m2, dO, s2, M2, r2, h2⟩ =>
        ⟨F2, j2, env, m2, M2, (R.step s1).step s2, (SatS.andS ((R.step s1).step s2) h2).imp fun i H3 ⟨F3, j3, m3, di, s3, M3, r3, h3⟩ => by
          have rv := r1.mono (s2.trans s3).le (s2.trans s3).pre
          have ro := r2.mono s3.le s3.pre
          have R3 := ((R.step s1).step s2).step s3
          have h3 : SatS X.K F3 j3 H3 W (match gSet m3 dO di dv with
            | some m4 => .nx env m4
            | none => .stuck) D := h3
          cases e : gSet m3 dO di dv with
          | none => rw [e] at h3; exact h3.elim
          | some m4 =>
            rw [e] at h3
            unfold gSet at e
            split at e
            · rename_i n
              split at e
              · rename_i l el
                split at e
                · rename_i k ek
                  split at e
                  · rename_i hl
                    cases e
                    obtain ⟨a, xs, rfl, hn, ha, rk⟩ := M3.dkW ro el
                    have := keyOf_rep r3 ek
                    subst this
                    exact .inr ⟨a, _, rfl, DPut.k ha (by rw [rk.length]; exact lim_lt hl), h3 F3 j3 _ σ (Mem.stepW hn) (M3.setC hn el nofun ⟨_, rfl, rk.put rv⟩) R3⟩
                  · cases e
                · cases e
              · rename_i l el
                split at e
                · rename_i j
                  split at e
                  · rename_i k ek
                    cases e
                    obtain ⟨a, xs, rfl, hn, ha, rk⟩ := M3.lstW ro el
                    have := r3.int_inv
                    subst this
                    exact .inl ⟨a, xs, j, k, rfl, rfl, ha, by rw [rk.length]; exact ek, h3 F3 j3 _ σ (Mem.stepW hn) (M3.setC hn el nofun ⟨_, rfl, rk.set rv k⟩) R3⟩
                  · cases e
                · cases e
              · cases e
            · cases e⟩⟩⟩

/-! ### a call of a name that holds a def -/
theorem held_of {P : Program} {w : World} {K : PySem.W.Frag} {mg : Str → Option Value} {base : Heap} {k : Nat} {f : Addr} {fd : FuncData} {ps : List Str} {sp : Sp} (Fn : FnOk P w K mg base (L2.CX P w) k f fd ps sp) (hk : PySem.W.keepIn K (.ref f) = true) (hb : Binds K fd ps []) :
    Held P w K mg base k f (fun vs H Q _ => sp vs H Q fun _ _ _ => False) := ⟨fd, ps, ⟨fun vs H Q E h => Fn.len vs H Q _ h, fun A outer s H args us vs Q E hr he hbt hv h =>
  codeAny_mono (Fn.run A outer s H args us vs Q (fun _ _ _ => False) hr he hbt hv h) fun r s' hq => by
    cases r with
    | error e =>
      obtain ⟨_, _, _, _, _, _, _, _, _, _, _, _, z⟩ := (show L2.CX P w outer H s (fun _ _ _ => False) e s' from hq)
      exact z.elim
    | ok fl =>
      cases fl with
      | ret u => exact hq
      | next => exact hq
      | brk => exact hq
      | cont => exact hq⟩, hk, hb⟩
/-- the defs that a name may hold: address, number of parameters, meaning -/
abbrev FTab := List (Addr × Nat × (List D → Mu → Res D))
def ftGet (T : FTab) (f : Addr) : Option (Nat × (List D → Mu → Res D)) := (T.find? fun p => decide (p.1 = f)).map (·.2)
def mCallV (i : Nat) (T : FTab) (m : DenA) : DenE := fun env mu => match env[i]? with
  | some (some (.ref f)) => match ftGet T f with
    | some (n, g) => (m env mu).noX.bind fun ds m1 => if ds.length = n then (g ds m1).noX else .stuck
    | none => .stuck
  | _ => .stuck
theorem de_callV {k i : Nat} {T : FTab} {x : Str} {p pos : Pos} {e : Expr} {es : List Expr} {m : DenA}
    (hT : ∀ q, q ∈ T → Held X.prog X.w X.K X.mg X.base k q.1 (fun vs H Q _ => spD X.K q.2.1 q.2.2 vs H Q fun _ _ _ => False)) (hr : Room k X.A) (hN : X.N[i]? = some x) (hv : Vis X.env.scope x) (ha : DA X W e' m) (hes : e' = e :: es)
    (hdb : (x == ("__debug__" : Str)) = false := by decide) (hcd : (x == ("__classdict__" : Str)) = false := by decide)
    (he : starEach (e :: es) X.env = (false, eval e X.env) :: starEach es X.env := by rfl) (hpl : (backTo pos (starEach es X.env)).any (·.1) = false := by rfl) : DE X W (.Call (.Name x p) (e :: es) [] pos) (mCallV i T m) := by
  subst hes
  refine (pe_callA (S := fun f => (ftGet T f).map fun q => fun vs H Q _ => spD X.K q.1 q.2 vs H Q fun _ _ _ => False) (fun f sp hf => ?_) hr hN hv ha hdb hcd he hpl).imp fun σ H Q ⟨F, io, env, mu, M, R, h⟩ => ?_
  · cases eq : ftGet T f with
    | none => rw [eq] at hf; cases hf
    | some q =>
      rw [eq] at hf
      cases hf
      unfold ftGet at eq
      cases e2 : T.find? (fun p => decide (p.1 = f)) with
      | none => rw [e2] at eq; cases eq
      | some t =>
        rw [e2] at eq
        cases eq
        have h1 := List.mem_of_find?_eq_some e2
        have h2 : t.1 = f := by simpa using List.find?_some e2
        rw [← h2]
        exact hT t h1
  · unfold mCallV at h
    cases e1 : env[i]? with
    | none => rw [e1] at h; exact h.elim
    | some o =>
      rw [e1] at h
      match o, e1, h with
      | some (.ref f), e1, h =>
        have h : Sat X.K (Rep X.K) F io H (fun c dd H => W c dd σ H) (match ftGet T f with
          | some (n, g) => (m env mu).noX.bind fun ds m1 => if ds.length = n then (g ds m1).noX else .stuck
          | none => .stuck) Q := h
        cases e2 : ftGet T f with
        | none => rw [e2] at h; exact h.elim
        | some q =>
          rw [e2] at h
          obtain ⟨n, g⟩ := q
          obtain ⟨v, ev, rv⟩ := R.2 i _ e1
          have := rv.ref_inv
          subst this
          have h : Sat X.K (Rep X.K) F io H (fun c dd H => W c dd σ H) ((m env mu).noX.bind fun ds m1 => if ds.length = n then (g ds m1).noX else .stuck) Q := h
          refine ⟨f, _, ev, (by show (ftGet T f).map _ = _; rw [e2]; rfl), F, io, env, mu, M, R, ?_⟩
          have h2 := sat_bindX (rep := RepL X.K) h Step.rfl
          cases em : m env mu with
          | stuck => rw [em] at h; exact h.elim
          | exc x m1 => rw [em] at h; exact h.elim
          | ok ds m1 =>
            rw [em] at h
            have h : Sat X.K (Rep X.K) F io H (fun c dd H => W c dd σ H) (if ds.length = n then (g ds m1).noX else .stuck) Q := h
            intro F1 j1 H1 vs s1 M1 r1
            by_cases hl : ds.length = n
            · rw [if_pos hl] at h
              exact ⟨by rw [r1.length]; exact hl, F1, j1, m1, ds, M1, r1, sat_noX (V := fun c dd H => W c dd σ H) (Sat.step h s1)⟩
            · rw [if_neg hl] at h; exact h.elim

/-! ### methods of a constant: c.m(e, ..) -/
def mMetC (d : D) (g : Mu → D → List D → ORes D) (m : DenA) : DenE := fun env mu => (m env mu).bind fun ds m1 => .ofO (g m1 d ds)
theorem de_bmC {o e : Expr} {es : List Expr} {m : DenA} {name : Str} {apos cpos : Pos} {T id : String} {r : V → List V → Hp → VK → Prop} {g : Mu → D → List D → ORes D} {v : V} {d : D} (pa : PlainAttrs T) (slot : Slot T name id)
    (hty : typeOf (.builtin id) = pure (.type "method_descriptor")) (hm : MtR X id r) (hT : ∀ H, tyV X.K T v H) (hr : ∀ F io, Rep X.K F io v d) (hg : MetD X.K r g) (ho : PE X o (tC v)) (ha : DA X W (e :: es) m)
    (hbase : attributeBase o name X.env (eval o X.env) = eval o X.env := by rfl)
    (hfew : ((backTo cpos (starEach (e :: es) X.env)).all (fun x => !x.1) && (backToKw cpos (keywordEach [] X.env)).all (fun x => x.1.isSome)
      && decide ((e :: es).length + ([] : List Keyword).length + (if ([] : List Keyword).isEmpty then 0 else 1) < 30)) = true := by rfl)
    (hline : (apos.endLine == cpos.line) = true := by rfl) (hs : starEach (e :: es) X.env = (false, eval e X.env) :: starEach es X.env := by rfl) (hplain : (backTo cpos (starEach es X.env)).any (·.1) = false := by rfl) :
    DE X W (.Call (.Attribute o name apos) (e :: es) [] cpos) (mMetC d g m) :=
  (pe_bm pa slot hty hm ho ha hbase hfew hline hs hplain).imp fun σ H Q ⟨F, io, env, mu, M, R, h⟩ => ⟨hT H, F, io, env, mu, M, R, (Sat.bind h).imp fun vs H1 ⟨F1, j1, m1, ds, s1, M1, r1, h1⟩ =>
    hg F1 j1 H1 m1 v vs d ds Q M1 (hr F1 j1) r1 (Sat.ofO h1)⟩
/-- t.index(x) of texts -/
def idxS (x : Str) : List Str → Option Nat
  | [] => none
  | y :: ys => if y = x then some 0 else (idxS x ys).map (· + 1)
theorem idxS_spec {x : Str} : ∀ {ys : List Str} {j : Nat}, idxS x ys = some j → ys[j]? = some x ∧ ∀ m, m < j → ys[m]? ≠ some x
  | [], _, e => by cases e
  | y :: ys, j, e => by
    simp only [idxS] at e
    split at e
    · rename_i h
      cases e
      exact ⟨by rw [h]; rfl, fun m hm => absurd hm (Nat.not_lt_zero m)⟩
    · rename_i h
      rw [Option.map_eq_some_iff] at e
      obtain ⟨k, e1, rfl⟩ := e
      obtain ⟨h1, h2⟩ := idxS_spec e1
      refine ⟨h1, fun m hm => ?_⟩
      cases m with
      | zero => exact fun z => h (Option.some.inj z)
      | succ m => exact h2 m (by omega)
def gIndex (mu : Mu) (x : D) (ds : List D) : ORes D := match x, ds with
  | .tup l, [.str z] => match strsOf l with
    | some ys => (idxS z ys).map fun j => (.int (j : Nat), mu)
    | none => none
  | _, _ => none
theorem mg_tup_index {K : PySem.W.Frag} : MetD K (fun x xs H Q => ∃ p, ∃ ys : List Str, ∃ z j, x = .ref p ∧ xs = [.str z] ∧ SqT K H p (ys.map V.str) ∧ ys[j]? = some z ∧ (∀ m, m < j → ys[m]? ≠ some z) ∧ Q (.int (j : Nat)) H) gIndex := fun F io H mu x vs dx ds Q M rx r h => by
  unfold gIndex at h
  split at h
  · rename_i l z
    split at h
    · rename_i ys e
      cases e2 : idxS z ys with
      | none => rw [e2] at h; exact h.elim
      | some j =>
        rw [e2] at h
        obtain ⟨v, rfl, rz⟩ := r.one_inv
        have := rz.str_inv
        subst this
        obtain ⟨a, xs, rfl, ha, r2⟩ := M.tup rx rfl
        rw [strsOf_inv e] at r2
        have := r2.strs'
        subst this
        obtain ⟨h1, h2⟩ := idxS_spec e2
        exact ⟨a, ys, z, j, rfl, rfl, ha, h1, h2, satO_some h M .int⟩
    · exact h.elim
  · exact h.elim
end
end DL

/-! DL7: what a program's text brings: defs, constants, built-in names; the end of a law. -/
namespace DL
open PySem L2

theorem bt_len : bootBuiltins "len" = some (.builtin "len") := by decide +kernel
theorem bt_abs : bootBuiltins "abs" = some (.builtin "abs") := by decide +kernel
theorem bt_max : bootBuiltins "max" = some (.builtin "max") := by decide +kernel
theorem bt_min : bootBuiltins "min" = some (.builtin "min") := by decide +kernel
theorem bt_sum : bootBuiltins "sum" = some (.builtin "sum") := by decide +kernel
theorem bt_all : bootBuiltins "all" = some (.builtin "all") := by decide +kernel
theorem bt_any : bootBuiltins "any" = some (.builtin "any") := by decide +kernel
theorem bt_isinstance : bootBuiltins "isinstance" = some (.builtin "isinstance") := by decide +kernel
theorem bt_int : bootBuiltins "int" = some (.type "int") := by decide +kernel
theorem bt_bool : bootBuiltins "bool" = some (.type "bool") := by decide +kernel
theorem bt_str : bootBuiltins "str" = some (.type "str") := by decide +kernel
theorem bt_list : bootBuiltins "list" = some (.type "list") := by decide +kernel
theorem bt_tuple : bootBuiltins "tuple" = some (.type "tuple") := by decide +kernel
theorem bt_dict : bootBuiltins "dict" = some (.type "dict") := by decide +kernel
theorem bt_set : bootBuiltins "set" = some (.type "set") := by decide +kernel
theorem bt_repr : bootBuiltins "repr" = some (.builtin "repr") := by decide +kernel
theorem bt_sorted : bootBuiltins "sorted" = some (.builtin "sorted") := by decide +kernel

section
variable {X : Cx} {W : WX}
/-- a, b, c = x, y, z -/
theorem ds_par3 {i j l : Nat} {x y z : Str} {a b c : Expr} {m : DenA} {px py pz pt pos : Pos} {kt k2 pt2} (hc : X.calm = true) (hN : X.N.Nodup) (hi : X.N[i]? = some x) (hj : X.N[j]? = some y) (hl : X.N[l]? = some z) (hij : i ≠ j) (hil : i ≠ l) (hjl : j ≠ l)
    (hx : X.env.scope.names.lookup x = some .local) (hy : X.env.scope.names.lookup y = some .local) (hz : X.env.scope.names.lookup z = some .local) (ha : DA X W [a, b, c] m)
    (hw : swappedStores [.Tuple [.Name x px, .Name y py, .Name z pz] kt pt] (.Tuple [a, b, c] k2 pt2) X.env = pure (some [x, y, z]))
    (hs : swapsWithSole [.Tuple [.Name x px, .Name y py, .Name z pz] kt pt] (.Tuple [a, b, c] k2 pt2) pos.line X.env = pure false := by rfl) :
    DS X W (.Assign [.Tuple [.Name x px, .Name y py, .Name z pz] kt pt] (.Tuple [a, b, c] k2 pt2) pos) (mPar3 i j l m) := (ps_par3 hc hN hi hj hl hij hil hjl hx hy hz ha hw hs).imp fun D σ H ⟨F, io, env, mu, M, R, h⟩ =>
  ⟨F, io, env, mu, M, R, (SatS.andS R h).imp fun vs H1 ⟨F1, j1, m1, ds, s1, M1, r1, q⟩ => by
    cases r1 with
    | nil => exact q.elim
    | cons ra r1 =>
      cases r1 with
      | nil => exact q.elim
      | cons rb r1 =>
        cases r1 with
        | nil => exact q.elim
        | cons rc r1 =>
          cases r1 with
          | nil => exact ⟨_, _, _, rfl, q F1 j1 H1 _ Step.rfl M1 ((((R.step s1).set ra).set rb).set rc)⟩
          | cons _ _ => exact q.elim⟩
end

/-- a def as the top has made it -/
structure FnF (K : PySem.W.Frag) (mg : Str → Option Value) (x : Str) (st : Stmt) (ps : List Str) where
  a : Addr
  fd : FuncData
  F : Fun K x x st a fd
  b : Binds K fd ps []
  g : mg x = some (.ref a)
def FnF.of {K : PySem.W.Frag} {h : Heap} {mg : Str → Option Value} {x : Str} {st : Stmt} {ps : List Str} {f : Addr} {oc : Value} {od an : Option Addr} {osl : Array (Option Value)} {kV doc pm cdv ct : Value} (KX : K.In h) (G : h.Ns mainGlobals mg)
    (hb : ∀ (kV doc pm : Value) (an : Option Addr) (cdv ct : Value) (us : List Value), us.length = ps.length → bindArgs (PySem.W.fnOf x x (defArgs st) (defBody st) (defScope st) .none kV doc pm an cdv ct) ⟨us, []⟩ = pure (ps.zip us))
    (e : PySem.W.nsIn K mainGlobals x = some (some (.ref f))) (l : K.lookup f = some ⟨oc, od, .func (PySem.W.fnOf x x (defArgs st) (defBody st) (defScope st) .none kV doc pm an cdv ct), osl⟩) (c : PySem.W.codeIn K cdv x = true) (k : PySem.W.keepIn K (.ref f) = true) : FnF K mg x st ps :=
  ⟨f, _, fun_mk l c k, (fun_mk l c k).binds hb, PySem.W.mg_of KX G e⟩
theorem FnF.ne {K : PySem.W.Frag} {mg : Str → Option Value} {x y : Str} {st su : Stmt} {ps qs : List Str} (A : FnF K mg x st ps) (B : FnF K mg y su qs) (h : x ≠ y) : A.a ≠ B.a := fun e => by
  obtain ⟨oc, od, kV, doc, pm, an, cdv, ct, osl, e1, l1, _⟩ := A.F.ex
  obtain ⟨oc', od', kV', doc', pm', an', cdv', ct', osl', e2, l2, _⟩ := B.F.ex
  rw [e, l2] at l1
  have : B.fd = A.fd := by
    injection l1 with l1
    injection l1 with _ _ l3 _
    injection l3
  rw [e1, e2] at this
  have z := congrArg FuncData.name this
  exact h z.symm

/-! ### constants of the text -/
def optL {α β : Type} (f : α → Option β) : List α → Option (List β)
  | [] => some []
  | v :: vs => match f v with
    | some d => match optL f vs with
      | some ds => some (d :: ds)
      | none => none
    | none => none
def atomK : Value → Option D
  | .none => some .non
  | .bool b => some (.bl b)
  | .int i _ => some (.int i)
  | .str x _ => some (.str x)
  | .type n => some (.ty n)
  | _ => none
/-- what a value of the written part is worth, so deep at most -/
def repK (K : PySem.W.Frag) : Nat → Value → Option D
  | 0, v => atomK v
  | n + 1, v => match v with
    | .ref a => match K.lookup a with
      | some ⟨.type "tuple", _, .seq its _, _⟩ => if its.size ≤ 1000000 then (match optL (repK K n) its.toList with
        | some ds => some (.tup ds)
        | none => none) else none
      | _ => none
    | v => atomK v
section
variable {K : PySem.W.Frag} {F : Hp} {io : List Addr}
theorem atomK_rep {u : Value} {d : D} (h : atomK u = some d) : ∃ v, RelV v u ∧ Rep K F io v d := by
  cases u with
  | none => cases h; exact ⟨.non, rfl, .non⟩
  | bool b => cases h; exact ⟨.bl b, rfl, .bl⟩
  | int i t => cases h; exact ⟨.int i, ⟨_, rfl⟩, .int⟩
  | str x t => cases h; exact ⟨.str x, ⟨_, rfl⟩, .str⟩
  | type n => cases h; exact ⟨.ty n, rfl, .ty⟩
  | _ => cases h
theorem optL_rep {f : Value → Option D} (hf : ∀ u d, f u = some d → ∃ v, RelV v u ∧ Rep K F io v d) : ∀ {us : List Value} {ds : List D}, optL f us = some ds → ∃ vs, Vals vs us ∧ RepL K F io vs ds
  | [], _, h => by cases h; exact ⟨[], .nil, .nil⟩
  | u :: us, ds, h => by
    simp only [optL] at h
    split at h
    · rename_i d e
      split at h
      · rename_i ds' e2
        cases h
        obtain ⟨v, r, q⟩ := hf u d e
        obtain ⟨vs, r2, q2⟩ := optL_rep hf e2
        exact ⟨v :: vs, .cons r r2, .cons q q2⟩
      · cases h
    · cases h
theorem repK_rep : ∀ (n : Nat) (u : Value) (d : D), repK K n u = some d → ∃ v, RelV v u ∧ Rep K F io v d
  | 0, u, d, h => atomK_rep h
  | n + 1, u, d, h => by
    unfold repK at h
    split at h
    · rename_i a
      split at h
      · rename_i dd its k sl e
        split at h
        · rename_i hz
          split at h
          · rename_i ds e2
            cases h
            obtain ⟨vs, r, q⟩ := optL_rep (repK_rep n) e2
            exact ⟨.ref a, rfl, .tup (.inr ⟨_, its, k, e, rfl, rfl, by rw [sizeLine_eq]; omega, r⟩) q⟩
          · cases h
        · cases h
      · cases h
    · exact atomK_rep h
/-- a constant of the text: its value, its worth -/
structure CnF (K : PySem.W.Frag) (mg : Str → Option Value) (x : Str) (d : D) where
  u : Value
  v : V
  g : mg x = some u
  rv : RelV v u
  rep : ∀ F io, Rep K F io v d
theorem cn_rep (n : Nat) {u : Value} {v : V} {d : D} (h : repK K n u = some d) (r : RelV v u) : ∀ F io, Rep K F io v d := fun F io => by
  obtain ⟨w, r2, q⟩ := repK_rep (F := F) (io := io) n u d h
  rw [r.inj r2]; exact q
def CnF.ref {h : Heap} {mg : Str → Option Value} {x : Str} {d : D} {a : Addr} (n : Nat) (KX : K.In h) (G : h.Ns mainGlobals mg) (e : PySem.W.nsIn K mainGlobals x = some (some (.ref a))) (hr : repK K n (.ref a) = some d) : CnF K mg x d :=
  ⟨.ref a, .ref a, PySem.W.mg_of KX G e, rfl, cn_rep n hr rfl⟩
def CnF.int {h : Heap} {mg : Str → Option Value} {x : Str} {i : Int} {t : Tok} (KX : K.In h) (G : h.Ns mainGlobals mg) (e : PySem.W.nsIn K mainGlobals x = some (some (.int i t))) : CnF K mg x (.int i) :=
  ⟨.int i t, .int i, PySem.W.mg_of KX G e, ⟨_, rfl⟩, fun _ _ => .int⟩
def CnF.str {h : Heap} {mg : Str → Option Value} {x : Str} {i : Str} {t : Tok} (KX : K.In h) (G : h.Ns mainGlobals mg) (e : PySem.W.nsIn K mainGlobals x = some (some (.str i t))) : CnF K mg x (.str i) :=
  ⟨.str i t, .str i, PySem.W.mg_of KX G e, ⟨_, rfl⟩, fun _ _ => .str⟩
/-- a constant tuple as the receiver of a method -/
theorem CnF.tupV {mg : Str → Option Value} {x : Str} {a : Addr} {o : Obj} (hl : K.lookup a = some o) (hc : o.cls = .type "tuple") (hd : o.dict = none) : ∀ H, tyV K "tuple" (.ref a) H := fun H => .inr (.inl ⟨rfl, o, hl, hc, hd⟩)
end

/-! ### the end of a law -/
theorem cx_none {P : Program} {w : World} {H : Hp} {s : Shared} {e : Value} {s' : Shared} (h : L2.CX P w [] H s (fun _ _ _ => False) e s') : False := by
  obtain ⟨_, _, _, _, _, _, _, _, _, _, _, _, z⟩ := h
  exact z
/-- the script, as data that is only read -/
def scriptD (ns : List Int) : D := .rl (ns.map D.int)
theorem repL_ints {K : PySem.W.Frag} {F : Hp} {io : List Addr} : ∀ ns : List Int, RepL K F io (ns.map V.int) (ns.map D.int)
  | [] => .nil
  | _ :: ns => .cons .int (repL_ints ns)
def noTab (H : Hp) : Hp := fun a => match H a with
  | some (.tbl _) => none
  | o => o
theorem noTab_le {H : Hp} : Le (noTab H) H := fun a o e => by
  unfold noTab at e
  split at e
  · cases e
  · exact e
theorem noTab_nt {H : Hp} (a : Addr) (ps : Array Value) : noTab H a ≠ some (.tbl ps) := fun e => by
  unfold noTab at e
  split at e
  · cases e
  · rename_i h; exact h ps e
theorem noTab_of {H : Hp} {a : Addr} {o : HO} (e : H a = some o) (h : ∀ ps, o ≠ .tbl ps) : noTab H a = some o := by
  unfold noTab
  split
  · rename_i ps q; rw [e] at q; cases q; exact absurd rfl (h ps)
  · exact e
theorem noTab_sql {K : PySem.W.Frag} {H : Hp} {a : Addr} {xs : List V} (h : SqL K H a xs) : SqL K (noTab H) a xs := by
  rcases h with (h | ⟨o, h⟩) | h
  · exact .inl (.inl (noTab_of h nofun))
  · exact .inl (.inr ⟨o, noTab_of h nofun⟩)
  · exact .inr h
theorem walk_D {l : PySem.W.OpenLaw} {k : Nat} {q : Program} {loose : List Str} {XP : (Str → Option Value) → Heap → Prop} {YP : World → Heap → Prop} {d : DefRec} {K : Params → PySem.W.Frag} {x : Str}
    (hn : l.most = some 63) (hdf : d.params.defaults = []) (hr : Room k callerA) (hY : ∀ (w : World) (h : Heap), YP w h → (K w.params).In h)
    (F : ∀ (w : World) (mg : Str → Option Value) (fa : Addr) (h : Heap), (K w.params).In h → h.Ns mainGlobals mg → mg d.name = some (.ref fa) →
      ∃ (fd : FuncData) (g : List D → Mu → Res D), (∀ (s : Shared) (u : Value), BindsTo s fd ⟨[u], []⟩ [(x, u)]) ∧ (∀ base : Heap, (K w.params).In base → base.Ns mainGlobals mg → FnOk l.prog w (K w.params) mg base (L2.CX l.prog w) k fa fd [x] (spD (K w.params) 1 g)) ∧
        ∀ ns : List Int, ns.length ≤ 63 → ∃ mu, g [scriptD ns] [] = .ok (.bl true) mu) :
    PySem.W.WalkO q loose XP YP l.row.toRowW d [] (fun f vs => PySem.call f vs) := by
  refine L2.walk_of (n := 63) (k := k) (x := x) (CX := fun w => L2.CX l.prog w) (sp := fun w => fun vs H Q E => ∃ a ns, vs = [.ref a] ∧ SqL (K w.params) H a (ns.map V.int) ∧ ns.length ≤ 63 ∧ ∀ H', Q (.bl true) H') hn (by decide) hdf hr hY (fun w mg fa h KX G hmg => ?_) (fun w H a ns hl _ hS => ⟨a, ns, rfl, hS, hl, fun _ => rfl⟩) fun _ _ _ _ _ z => cx_none z
  obtain ⟨fd, g, hb, hF, hg⟩ := F w mg fa h KX G hmg
  refine ⟨fd, hb, fun base h1 h2 => (hF base h1 h2).imp fun vs H Q E ⟨a, ns, e, hS, hl, hq⟩ => ?_⟩
  subst e
  obtain ⟨mu, hg⟩ := hg ns hl
  refine ⟨rfl, noTab H, [], [], [scriptD ns], ⟨noTab_nt, fun n a e => by simp at e, noTab_le, rfl, List.nodup_nil, fun _ m => absurd m (by simp), fun n a c e => by simp at e⟩, .cons (.rl (noTab_sql hS) (repL_ints ns)) .nil, ?_⟩
  rw [hg]
  intro F' jo H' v s M r
  rw [r.bl_inv]
  exact hq H'
end DL

/-! DL8: rules in the shape in which gen.py prints them. -/
namespace DL
open PySem L2
theorem hu65_of {A : Around} {k : Nat} (hr : Room k A) : A.units + 65 < cLine := by
  have := hr.un
  omega
section
variable {X : Cx} {W : WX}
theorem de_callN {k n : Nat} {f : Addr} {fd : FuncData} {ps : List Str} {x : Str} {p pos : Pos} {e : Expr} {es : List Expr} {m : DenA} {g : List D → Mu → Res D} (hg : Gl X x) (hl : ps.length = n) (F : FnOk X.prog X.w X.K X.mg X.base (L2.CX X.prog X.w) k f fd ps (spD X.K n g)) (tk : Takes X W) (hr : Room k X.A) (hm : X.mg x = some (.ref f)) (hk : PySem.W.keepIn X.K (.ref f) = true) (hb : Binds X.K fd ps [])
    (ha : DA X W (e :: es) m) (hdb : (x == ("__debug__" : Str)) = false := by decide) (he : starEach (e :: es) X.env = (false, eval e X.env) :: starEach es X.env := by rfl) (hpl : (backTo pos (starEach es X.env)).any (·.1) = false := by rfl) :
    DE X W (.Call (.Name x p) (e :: es) [] pos) (mCallF n g m) := by
  subst hl
  exact de_call F tk hr hg hm hk hb ha hdb he hpl
theorem de_ty {x : Str} {pos : Pos} {n : String} (hg : Gl X x) (hm : X.mg x = none) (hv : bootBuiltins x = some (.type n)) (hn : x ≠ "__name__" := by decide) (hd : (x == ("__debug__" : Str)) = false := by decide) : DE X W (.Name x pos) (mC (.ty n)) :=
  de_c (pe_bltn (v := .ty n) hg hm hv rfl hn hd) fun _ _ => .ty
theorem de_def {x : Str} {pos : Pos} {a : Addr} (hg : Gl X x) (hm : X.mg x = some (.ref a)) (hd : (x == ("__debug__" : Str)) = false := by decide) : DE X W (.Name x pos) (mC (.ref a)) := de_c (pe_glob (v := .ref a) hg hm rfl hd) fun _ _ => .ref
end
end DL

/-! DL9: evaluation of meanings: lemmas for comprehensions and loops; the drawing from the script (alike in every law). -/
namespace DL
open PySem L2

/-! ### evaluation -/
theorem bind_ok {α β : Type} {a : α} {m : Mu} {f : α → Mu → Res β} : (Res.ok a m).bind f = f a m := rfl
theorem andS_ok {α : Type} {a : α} {m : Mu} {env : DEnv} {f : α → Mu → SR} : (Res.ok a m).andS env f = f a m := rfl
theorem noX_ok {α : Type} {a : α} {m : Mu} : (Res.ok a m).noX = .ok a m := rfl
theorem ofO_some {α : Type} {p : α × Mu} : Res.ofO (some p) = .ok p.1 p.2 := rfl
theorem view_int {mu : Mu} {i : Int} : view mu (.int i) = .int i := rfl
theorem view_bl {mu : Mu} {i : Bool} : view mu (.bl i) = .bl i := rfl
theorem view_non {mu : Mu} : view mu .non = .non := rfl
theorem view_str {mu : Mu} {i : Str} : view mu (.str i) = .str i := rfl
theorem view_lst {mu : Mu} {l : List D} : view mu (.lst l) = .lst l := rfl
theorem view_tup {mu : Mu} {l : List D} : view mu (.tup l) = .tup l := rfl
theorem view_rl {mu : Mu} {l : List D} : view mu (.rl l) = .rl l := rfl
theorem view_dk {mu : Mu} {l : List (Key × D)} : view mu (.dk l) = .dk l := rfl
theorem lim_ok {n : Nat} (h : n ≤ 1000000) : lim n = true := decide_eq_true h

/-- how many bits: enough for every product here -/
theorem mulB_ok {i j : Int} (hi : (Builtin.Int.intBits i) ≤ 60000000) (hj : (Builtin.Int.intBits j) ≤ 60000000) : mulB i j = true := decide_eq_true (by omega)


/-! rules of evaluation -/
def itemsD : D → Option (List D)
  | .lst l => some l
  | .tup l => some l
  | .rl l => some l
  | _ => none
def zipO : D → D → Option (List D)
  | .lst l, .lst k => some (zipD l k)
  | .tup l, .tup k => some (zipD l k)
  | _, _ => none
def seqGo (sb : DenS) : SR → SR
  | .nx e m => sb e m
  | r => r
section
variable {env e' env0 : DEnv} {mu m1 m2 m3 m4 m5 : Mu} {ma mb mc me : DenE} {ta tb : DenT} {x y z v w d : D} {c c' : Bool} {n i j k : Nat}
theorem mVar_ok (h : env[i]? = some (some d)) : mVar i env mu = .ok d mu := by unfold mVar; rw [h]
theorem mC_ok : mC d env mu = .ok d mu := rfl
theorem mOp_ok {g : Mu → D → D → ORes D} (h1 : ma env mu = .ok x m1) (h2 : mb env m1 = .ok y m2) (h3 : g m2 x y = some (z, m3)) : mOp g ma mb env mu = .ok z m3 := by
  unfold mOp; rw [h1, bind_ok, h2, bind_ok, h3]; rfl
theorem mUn_ok {g : Mu → D → ORes D} (h1 : ma env mu = .ok x m1) (h3 : g m1 x = some (z, m3)) : mUn g ma env mu = .ok z m3 := by
  unfold mUn; rw [h1, bind_ok, h3]; rfl
theorem mTest_ok (h1 : ma env mu = .ok (.bl c) m1) : mTest ma env mu = .ok c m1 := by unfold mTest; rw [h1, bind_ok]
theorem mTAnd_ok {r : Res Bool} (h1 : ta env mu = .ok c m1) (h2 : (if c = true then tb env m1 else .ok false m1) = r) : mTAnd ta tb env mu = r := by unfold mTAnd; rw [h1, bind_ok]; exact h2
theorem mTOr_ok {r : Res Bool} (h1 : ta env mu = .ok c m1) (h2 : (if c = true then .ok true m1 else tb env m1) = r) : mTOr ta tb env mu = r := by unfold mTOr; rw [h1, bind_ok]; exact h2
theorem mTNot_ok (h1 : ta env mu = .ok c m1) : mTNot ta env mu = .ok (!c) m1 := by unfold mTNot; rw [h1, bind_ok]
theorem mAnd_ok {r : Res D} (h1 : ma env mu = .ok (.bl c) m1) (h2 : (if c = true then mb env m1 else .ok (.bl false) m1) = r) : mAnd ma mb env mu = r := by unfold mAnd; rw [h1, bind_ok]; exact h2
theorem mOr_ok {r : Res D} (h1 : ma env mu = .ok (.bl c) m1) (h2 : (if c = true then .ok (.bl true) m1 else mb env m1) = r) : mOr ma mb env mu = r := by unfold mOr; rw [h1, bind_ok]; exact h2
theorem mNot_ok (h1 : ma env mu = .ok (.bl c) m1) : mNot ma env mu = .ok (.bl (!c)) m1 := by unfold mNot; rw [h1, bind_ok]
theorem mIf_ok {r : Res D} (h1 : ta env mu = .ok c m1) (h2 : (if c = true then ma env m1 else mb env m1) = r) : mIf ta ma mb env mu = r := by unfold mIf; rw [h1, bind_ok]; exact h2
theorem ite_t {α : Type} {a b r : α} (h : c = true) (k : a = r) : (if c = true then a else b) = r := by rw [if_pos h]; exact k
theorem ite_f {α : Type} {a b r : α} (h : c = false) (k : b = r) : (if c = true then a else b) = r := by rw [if_neg (by rw [h]; decide)]; exact k
theorem mChain_ok {g g' : Mu → D → D → ORes D} {r : Res D} (h1 : ma env mu = .ok x m1) (h2 : mb env m1 = .ok y m2) (h3 : g m2 x y = some (.bl c, m3)) (h4 : (if c = true then (mc env m3).bind (fun w m4 => .ofO (g' m4 y w)) else .ok (.bl false) m3) = r) : mChain g g' ma mb mc env mu = r := by
  unfold mChain; rw [h1, bind_ok, h2, bind_ok, h3]
  cases c with
  | true => rw [if_pos rfl] at h4; exact h4
  | false => rw [if_neg Bool.false_ne_true] at h4; exact h4
theorem bindO_ok {g : Mu → D → D → ORes D} (h1 : mc env m3 = .ok w m4) (h2 : g m4 y w = some (z, m5)) : ((mc env m3).bind fun w m4 => .ofO (g m4 y w)) = .ok z m5 := by rw [h1, bind_ok, h2]; rfl
variable {ds es : List D} {am : DenA}
theorem mNil_ok : mNil env mu = .ok [] mu := rfl
theorem mCons_ok (h1 : ma env mu = .ok x m1) (h2 : am env m1 = .ok ds m2) : mCons ma am env mu = .ok (x :: ds) m2 := by unfold mCons; rw [h1, bind_ok, h2, bind_ok]
theorem mTup_ok (h1 : am env mu = .ok ds m1) (h2 : lim ds.length = true) : mTup am env mu = .ok (.tup ds) m1 := by unfold mTup; rw [h1, bind_ok, h2]; rfl
theorem mLst_ok (h1 : am env mu = .ok ds m1) (h2 : lim ds.length = true) : mLst false am env mu = .ok (.lst ds) m1 := by unfold mLst; rw [h1, bind_ok, h2]; rfl
theorem mLst_okC (h1 : am env mu = .ok ds m1) (h2 : lim ds.length = true) : mLst true am env mu = .ok (.cell m1.length) (m1 ++ [.lst ds]) := by unfold mLst; rw [h1, bind_ok, h2]; rfl
theorem mCall_ok {g : Mu → List D → ORes D} (h1 : am env mu = .ok ds m1) (h2 : g m1 ds = some (z, m2)) : mCall g am env mu = .ok z m2 := by unfold mCall; rw [h1, bind_ok, h2]; rfl
theorem mMet_ok {ty : Mu → D → Bool} {g : Mu → D → List D → ORes D} (h1 : ma env mu = .ok x m1) (h2 : ty m1 x = true) (h3 : am env m1 = .ok ds m2) (h4 : g m2 x ds = some (z, m3)) : mMet ty g ma am env mu = .ok z m3 := by
  unfold mMet; rw [h1, bind_ok, h2, if_pos rfl, h3, bind_ok, h4]; rfl
theorem mMetC_ok {g : Mu → D → List D → ORes D} (h3 : am env mu = .ok ds m2) (h4 : g m2 d ds = some (z, m3)) : mMetC d g am env mu = .ok z m3 := by unfold mMetC; rw [h3, bind_ok, h4]; rfl
theorem mCallF_ok {g : List D → Mu → Res D} (h1 : am env mu = .ok ds m1) (h2 : ds.length = n) (h3 : g ds m1 = .ok z m2) : mCallF n g am env mu = .ok z m2 := by unfold mCallF; rw [h1, bind_ok, if_pos h2, h3]
theorem mCallV_ok {T : FTab} {f : Addr} {g : List D → Mu → Res D} (h0 : env[i]? = some (some (.ref f))) (hT : ftGet T f = some (n, g)) (h1 : am env mu = .ok ds m1) (h2 : ds.length = n) (h3 : g ds m1 = .ok z m2) : mCallV i T am env mu = .ok z m2 := by
  unfold mCallV; rw [h0]; simp only [hT]; rw [h1, noX_ok, bind_ok, if_pos h2, h3]; rfl
variable {sa sb : DenS} {r r1 : SR} {mg : DenG} {mi : DenI}
theorem mSeq_nx (h1 : sa env mu = .nx e' m1) (h2 : sb e' m1 = r) : mSeq sa sb env mu = r := by unfold mSeq; rw [h1]; exact h2
theorem mSeq_rt (h1 : sa env mu = .rt d m1) : mSeq sa sb env mu = .rt d m1 := by unfold mSeq; rw [h1]
theorem mSeq_eq (h1 : sa env mu = r1) (h2 : seqGo sb r1 = r) : mSeq sa sb env mu = r := by
  rw [← h2, ← h1]
  unfold mSeq seqGo
  cases sa env mu <;> rfl
theorem seqNx (h : sb e' m1 = r) : seqGo sb (.nx e' m1) = r := h
theorem seqRt : seqGo sb (.rt d m1) = .rt d m1 := rfl
theorem mSkip_ok : mSkip env mu = .nx env mu := rfl
theorem mRetN_ok : mRetN env mu = .rt .non mu := rfl
theorem mRet_ok (h1 : ma env mu = .ok d m1) : mRet ma env mu = .rt d m1 := by unfold mRet; rw [h1]; rfl
theorem mExpr_ok (h1 : ma env mu = .ok d m1) : mExpr ma env mu = .nx env m1 := by unfold mExpr; rw [h1]; rfl
theorem mAsg_ok (h1 : ma env mu = .ok d m1) (h2 : mg d env m1 = .ok e' m2) : mAsg ma mg env mu = .nx e' m2 := by unfold mAsg; rw [h1, andS_ok, h2, andS_ok]
theorem mGName_ok (h : env.set i (some d) = e') : mGName i d env mu = .ok e' mu := by unfold mGName; rw [h]
theorem mGTup_ok {ms : DenGs} {rr : Res DEnv} (hl : ds.length = n) (h : ms ds env mu = rr) : mGTup n ms (.tup ds) env mu = rr := by unfold mGTup; simp only [hl, if_true]; exact h
theorem mGCons_ok {ms : DenGs} {rr : Res DEnv} (h1 : mg d env mu = .ok e' m1) (h : ms ds e' m1 = rr) : mGCons mg ms (d :: ds) env mu = rr := by show (mg d env mu).bind _ = _; rw [h1, bind_ok]; exact h
theorem mGNil_ok : mGNil [] env mu = .ok env mu := rfl
theorem mPar_ok (h1 : am env mu = .ok [x, y] m1) (h2 : (env.set i (some x)).set j (some y) = e') : mPar i j am env mu = .nx e' m1 := by unfold mPar; rw [h1, andS_ok]; subst h2; rfl
theorem mPar3_ok (h1 : am env mu = .ok [x, y, z] m1) (h2 : ((env.set i (some x)).set j (some y)).set k (some z) = e') : mPar3 i j k am env mu = .nx e' m1 := by unfold mPar3; rw [h1, andS_ok]; subst h2; rfl
theorem mIfS_ok (h1 : ta env mu = .ok c m1) (h2 : (if c = true then sa env m1 else sb env m1) = r) : mIfS ta sa sb env mu = r := by unfold mIfS; rw [h1, andS_ok]; exact h2
theorem mFor_ok (h1 : mi env mu = .ok ds m1) (h2 : forL mg sb ds env m1 = r) : mFor mi mg sb env mu = r := by unfold mFor; rw [h1, andS_ok]; exact h2
theorem mSet_ok (h1 : ma env mu = .ok v m1) (h2 : mb env m1 = .ok x m2) (h3 : mc env m2 = .ok y m3) (h4 : gSet m3 x y v = some m4) : mSet ma mb mc env mu = .nx env m4 := by
  unfold mSet; rw [h1, andS_ok, h2, andS_ok, h3, andS_ok, h4]
theorem mSeqI_ok (h : ma env mu = .ok d m1) (h2 : itemsD d = some ds) : mSeqI ma env mu = .ok ds m1 := by
  unfold mSeqI; rw [h, bind_ok]
  cases d <;> cases h2 <;> rfl
theorem mRange1_ok {n : Int} (h : am env mu = .ok [.int n] m1) (h0 : -1000000000000 ≤ n ∧ n ≤ 1000000000000) : mRange1 am env mu = .ok (rangeD n) m1 := by unfold mRange1; rw [h, bind_ok]; simp only [h0, and_self, if_true]
theorem mZip_ok (h : am env mu = .ok [x, y] m1) (h2 : zipO x y = some ds) : mZip am env mu = .ok ds m1 := by
  unfold mZip; rw [h, bind_ok]
  cases x <;> cases y <;> cases h2 <;> rfl
theorem mFrz_ok {l : List D} (h1 : env[i]? = some (some (.cell n))) (h2 : mu[n]? = some (.lst l)) (h3 : sa (env.set i (some (.lst l))) (mu.set n .dead) = r) : mFrz i sa env mu = r := by unfold mFrz; rw [h1]; simp only [h2]; exact h3
theorem denF_rt {N : List Str} {m : DenS} (h0 : startD N ds = env0) (h : m env0 mu = .rt d m1) : denF N m ds mu = .ok d m1 := by unfold denF; rw [h0, h]
theorem denF_nx {N : List Str} {m : DenS} (h0 : startD N ds = env0) (h : m env0 mu = .nx e' m1) : denF N m ds mu = .ok .non m1 := by unfold denF; rw [h0, h]
theorem gMul_ok {b : Bool} {i j : Int} (h : mulB i j = true) : gMul b mu (.int i) (.int j) = some (.int (i * j), mu) := by unfold gMul; simp only [h, if_true]
theorem gMod_ok {i j : Int} (h : 0 < j) : gMod mu (.int i) (.int j) = some (.int (i % j), mu) := by
  unfold gMod gII; have : modB i j = true := decide_eq_true h
  simp only [this, if_true]
theorem gFdiv_ok {i j : Int} (h : 0 < j) (h2 : j.natAbs.log2 < 9000) : gFdiv mu (.int i) (.int j) = some (.int (i / j), mu) := by
  unfold gFdiv gII; have : divB i j = true := decide_eq_true ⟨h, h2⟩
  simp only [this, if_true]
theorem gPow_ok {i : Int} {j : Nat} (h : (Builtin.Int.intBits i : Int) * j ≤ 2 ^ 27) : gPow mu (.int i) (.int j) = some (.int (i ^ j), mu) := by
  unfold gPow gII; have : powB i j = true := decide_eq_true ⟨by omega, h⟩
  simp only [this, if_true, Int.toNat_natCast]
theorem gSub_ok {i j : Int} : gSub mu (.int i) (.int j) = some (.int (i - j), mu) := rfl
theorem gAdd_ok {b : Bool} {i j : Int} : gAdd b mu (.int i) (.int j) = some (.int (i + j), mu) := rfl
theorem gEq_ok {neg : Bool} {i j : Int} : gEq neg mu (.int i) (.int j) = some (.bl (if neg then !decide (i = j) else decide (i = j)), mu) := rfl
theorem gEqI {i j : Int} : gEq false mu (.int i) (.int j) = some (.bl (decide (i = j)), mu) := rfl
theorem gNeI {i j : Int} : gEq true mu (.int i) (.int j) = some (.bl (!decide (i = j)), mu) := rfl
theorem gLt_ok {i j : Int} : gLt mu (.int i) (.int j) = some (.bl (decide (i < j)), mu) := rfl
theorem gLe_ok {i j : Int} : gLe mu (.int i) (.int j) = some (.bl (decide (i ≤ j)), mu) := rfl
theorem gGt_ok {i j : Int} : gGt mu (.int i) (.int j) = some (.bl (decide (j < i)), mu) := rfl
theorem gGe_ok {i j : Int} : gGe mu (.int i) (.int j) = some (.bl (decide (j ≤ i)), mu) := rfl
theorem gInt_ok {i : Int} : gInt mu [.int i] = some (.int i, mu) := rfl
end
section
variable {mg : DenG} {mt : DenT} {me : DenE} {env0 env : DEnv} {mu : Mu} {mi : DenI} {own : List Nat} {α : Type}
theorem lcL_filter (enc : α → D) (p : α → Bool) (f : α → D) : ∀ (xs : List α) (acc : List D), (∀ x ∈ xs, ∃ e, mg (enc x) env0 mu = .ok e mu ∧ mt e mu = .ok (p x) mu ∧ (p x = true → me e mu = .ok (f x) mu)) → acc.length + xs.length ≤ 1000000 →
    lcL mg mt me env0 (xs.map enc) acc mu = .ok (acc ++ (xs.filter p).map f) mu
  | [], acc, _, _ => by simp [lcL]
  | x :: xs, acc, h, hl => by
    obtain ⟨e, h1, h2, h3⟩ := h x (List.mem_cons_self)
    have hx := fun y hy => h y (List.mem_cons_of_mem _ hy)
    simp only [List.map_cons, lcL, h1, noX_ok, bind_ok, h2]
    simp only [List.length_cons] at hl
    cases hp : p x with
    | false =>
      simp only [Bool.false_eq_true, if_false]
      rw [lcL_filter enc p f xs acc hx (by omega), List.filter_cons_of_neg (by simp [hp])]
    | true =>
      simp only [if_true, h3 hp, noX_ok, bind_ok, lim_ok (show acc.length ≤ 1000000 by omega)]
      rw [lcL_filter enc p f xs _ hx (by simp; omega), List.filter_cons_of_pos hp]
      simp
/-- [f(x) for x in xs if p(x)], nothing changed -/
theorem mLc_filter (enc : α → D) (p : α → Bool) (f : α → D) (xs : List α) (hi : mi env mu = .ok (xs.map enc) mu) (h : ∀ x ∈ xs, ∃ e, mg (enc x) (wipeD env own) mu = .ok e mu ∧ mt e mu = .ok (p x) mu ∧ (p x = true → me e mu = .ok (f x) mu)) (hl : xs.length ≤ 1000000) :
    mLc false mi mg mt me own env mu = .ok (.lst ((xs.filter p).map f)) mu := by
  unfold mLc
  rw [hi, bind_ok, lcL_filter enc p f xs [] h (by simpa using hl), bind_ok]
  rfl
theorem mLc_map (enc : α → D) (f : α → D) (xs : List α) (hi : mi env mu = .ok (xs.map enc) mu) (h : ∀ x ∈ xs, ∃ e, mg (enc x) (wipeD env own) mu = .ok e mu ∧ mt e mu = .ok true mu ∧ me e mu = .ok (f x) mu) (hl : xs.length ≤ 1000000) :
    mLc false mi mg mt me own env mu = .ok (.lst (xs.map f)) mu := by
  rw [mLc_filter enc (fun _ => true) f xs hi (fun x hx => let ⟨e, a, b, c⟩ := h x hx; ⟨e, a, b, fun _ => c⟩) hl, List.filter_eq_self.mpr (fun _ _ => rfl)]
theorem mLc_mapC (enc : α → D) (p : α → Bool) (f : α → D) (xs : List α) (hi : mi env mu = .ok (xs.map enc) mu) (h : ∀ x ∈ xs, ∃ e, mg (enc x) (wipeD env own) mu = .ok e mu ∧ mt e mu = .ok (p x) mu ∧ (p x = true → me e mu = .ok (f x) mu)) (hl : xs.length ≤ 1000000) :
    mLc true mi mg mt me own env mu = .ok (.cell mu.length) (mu ++ [.lst ((xs.filter p).map f)]) := by
  unfold mLc
  rw [hi, bind_ok, lcL_filter enc p f xs [] h (by simpa using hl), bind_ok]
  rfl
/-- a loop with an invariant; its turns end as nx or ct -/
theorem forL_inv {mb : DenS} (enc : α → D) (I : List α → DEnv → Mu → Prop) : ∀ (xs : List α) (env : DEnv) (mu : Mu), I xs env mu →
    (∀ x rest env mu, I (x :: rest) env mu → ∃ e m e' m', mg (enc x) env mu = .ok e m ∧ (mb e m = .nx e' m' ∨ mb e m = .ct e' m') ∧ I rest e' m') → ∃ e m, forL mg mb (xs.map enc) env mu = .nx e m ∧ I [] e m
  | [], env, mu, h, _ => ⟨env, mu, rfl, h⟩
  | x :: xs, env, mu, h, k => by
    obtain ⟨e, m, e', m', h1, h2, h3⟩ := k x xs env mu h
    obtain ⟨e2, m2, h4, h5⟩ := forL_inv enc I xs e' m' h3 k
    refine ⟨e2, m2, ?_, h5⟩
    simp only [List.map_cons, forL, h1, andS_ok]
    rcases h2 with h2 | h2 <;> rw [h2] <;> exact h4
/-- a loop whose turns may return, each by what Q says -/
theorem forL_ret {mb : DenS} (enc : α → D) (I : List α → DEnv → Mu → Prop) (Q : D → Mu → Prop) : ∀ (xs : List α) (env : DEnv) (mu : Mu), I xs env mu →
    (∀ x rest env mu, I (x :: rest) env mu → ∃ e m, mg (enc x) env mu = .ok e m ∧ ((∃ e' m', (mb e m = .nx e' m' ∨ mb e m = .ct e' m') ∧ I rest e' m') ∨ ∃ d m', mb e m = .rt d m' ∧ Q d m')) →
    (∃ e m, forL mg mb (xs.map enc) env mu = .nx e m ∧ I [] e m) ∨ ∃ d m, forL mg mb (xs.map enc) env mu = .rt d m ∧ Q d m
  | [], env, mu, h, _ => .inl ⟨env, mu, rfl, h⟩
  | x :: xs, env, mu, h, k => by
    obtain ⟨e, m, h1, h2⟩ := k x xs env mu h
    rcases h2 with ⟨e', m', h2, h3⟩ | ⟨d, m', h2, h3⟩
    · have h4 := forL_ret enc I Q xs e' m' h3 k
      have e5 : forL mg mb ((x :: xs).map enc) env mu = forL mg mb (xs.map enc) e' m' := by
        simp only [List.map_cons, forL, h1, andS_ok]
        rcases h2 with h2 | h2 <;> rw [h2]
      rw [e5]; exact h4
    · refine .inr ⟨d, m', ?_, h3⟩
      simp only [List.map_cons, forL, h1, andS_ok, h2]
end

/-! built-ins on lists of ints -/
section
variable {mu : Mu}
theorem gAddL {x : D} {k : List D} (h : lim ([x].length + k.length) = true) : gAdd false mu (.lst [x]) (.lst k) = some (.lst (x :: k), mu) := by
  show (if lim ([x].length + k.length) = true then mk false (.lst ([x] ++ k)) mu else none) = _
  rw [if_pos h]; rfl
theorem gCatL {l k : List D} (h : lim (l.length + k.length) = true) : gAdd false mu (.lst l) (.lst k) = some (.lst (l ++ k), mu) := by
  show (if lim (l.length + k.length) = true then mk false (.lst (l ++ k)) mu else none) = _
  rw [if_pos h]; rfl
theorem gSumL {ns : List Int} : gIL (fun ns => some (.int ns.sum)) mu [.lst (ns.map D.int)] = some (.int ns.sum, mu) := by
  show (match intsOf (ns.map D.int) with
    | some ns => (some (D.int ns.sum)).map fun d => (d, mu)
    | none => none) = _
  rw [intsOf_map]; rfl
theorem gMax0 {ns : List Int} : gMax mu [.lst (.int 0 :: ns.map D.int)] = some (.int (maxI (0 :: ns)), mu) := by
  show (match intsOf ((0 :: ns).map D.int) with
    | some ns => (if ns.isEmpty then none else some (D.int (maxI ns))).map fun d => (d, mu)
    | none => none) = _
  rw [intsOf_map]; rfl
theorem gMax2 {i j : Int} : gMax mu [.int i, .int j] = some (.int (max i j), mu) := rfl
theorem gMin2 {i j : Int} : gMin mu [.int i, .int j] = some (.int (min i j), mu) := rfl
theorem gMaxP {i j : Int} : gMax mu [.lst [.int i, .int j]] = some (.int (max i j), mu) := rfl
theorem gAllL {ns : List Bool} : gBL (fun l => l.all id) mu [.lst (ns.map D.bl)] = some (.bl (ns.all id), mu) := by
  show (match blsOf (ns.map D.bl) with
    | some ns => some (D.bl (ns.all id), mu)
    | none => none) = _
  rw [blsOf_map]
theorem gTupL {l : List D} : gTuple mu [.lst l] = some (.tup l, mu) := rfl
theorem gTupT {l : List D} : gTuple mu [.tup l] = some (.tup l, mu) := rfl
theorem gListT {l : List D} : gList false mu [.tup l] = some (.lst l, mu) := rfl
theorem gLenT {l : List D} : gLen mu [.tup l] = some (.int l.length, mu) := rfl
theorem gLenL {l : List D} : gLen mu [.lst l] = some (.int l.length, mu) := rfl
theorem gIsiT {l : List D} : gIsi mu [.tup l, .ty "tuple"] = some (.bl true, mu) := rfl
theorem gIsNT {l : List D} : gIsN false mu (.tup l) .non = some (.bl false, mu) := rfl
theorem mx0 {l : List Int} : maxI (0 :: l) ∈ 0 :: l ∧ ∀ y, y ∈ 0 :: l → y ≤ maxI (0 :: l) := maxI_mem (by simp)
theorem gEqD {x y : D} (hx : okD 60 x = true) (hy : okD 60 y = true) (hv : view mu x = x) (hw : view mu y = y) : gEq false mu x y = some (.bl (deq x y), mu) := by
  unfold gEq; rw [hv, hw, if_pos ⟨hx, hy⟩]; rfl
theorem gNeD {x y : D} (hx : okD 60 x = true) (hy : okD 60 y = true) (hv : view mu x = x) (hw : view mu y = y) : gEq true mu x y = some (.bl (!deq x y), mu) := by
  unfold gEq; rw [hv, hw, if_pos ⟨hx, hy⟩]; rfl
theorem gEqL0 {l : List D} (hx : okD 60 (.lst l) = true) : gEq false mu (.lst l) (.lst []) = some (.bl l.isEmpty, mu) := by
  rw [gEqD hx rfl rfl rfl]; cases l <;> rfl
theorem gNeL0 {l : List D} (hx : okD 60 (.lst l) = true) : gEq true mu (.lst l) (.lst []) = some (.bl (!l.isEmpty), mu) := by
  rw [gNeD hx rfl rfl rfl]; cases l <;> rfl
end

/-! ### the drawing -/
abbrev kGreat : Key := .inr "great"
abbrev kRest : Key := .inr "rest"
abbrev kCells : Key := .inr "cells"
abbrev kTurn : Key := .inr "turn"
def N_begin : List Str := ["_law_script", "_law_great", "_law_cell"]
def absI : Mu → List D → ORes D := g1I fun i => if i < 0 then -i else i
def q_begin1 : DenE := mLc true (mSeqI (mVar 0)) (mGName 2) (mTest (mOp gGe (mCall (g1I fun i => if i < 0 then -i else i) (mCons (mVar 2) mNil)) (mOp gPow (mC (.int 10)) (mC (.int 18))))) (mOp gSub (mCall (g1I fun i => if i < 0 then -i else i) (mCons (mVar 2) mNil)) (mOp gPow (mC (.int 10)) (mC (.int 18)))) [2]
def q_begin2 : DenE := mLc false (mSeqI (mVar 0)) (mGName 2) mYes (mCall (g1I fun i => if i < 0 then -i else i) (mCons (mVar 2) mNil)) [2]
def m_begin : DenS :=
  (mSeq (mAsg q_begin1 (mGName 1))
  (mRet (mDisp [((mC (.str "great")), (mVar 1)), ((mC (.str "rest")), (mC (.int 0))), ((mC (.str "cells")), q_begin2), ((mC (.str "turn")), (mC (.int 0)))])))
def dBegin : List D → Mu → Res D := denF N_begin m_begin
def N_blend : List Str := ["_law_draw", "_law_turn", "_law_found", "_law_prime", "_law_blend_here", "_law_cell"]
def b_blend2 : DenS := (mAsg (mOp gMod (mCall gInt (mCons (mOp (gAdd false) (mOp (gMul false) (mVar 4) (mC (.int 48271))) (mVar 5)) mNil)) (mVar 3)) (mGName 4))
def b_blend1 : DenS := (mSeq (mAsg (mOp gMod (mCall gInt (mCons (mOp (gAdd false) (mOp (gMul false) (mVar 1) (mC (.int 69621))) (mOp gFdiv (mVar 3) (mC (.int 7)))) mNil)) (mVar 3)) (mGName 4))
  (mSeq (mFor (mSeqI (mOp gIx (mVar 0) (mC (.str "cells")))) (mGName 5)
  b_blend2)
  (mAsg (mOp (gAdd false) (mOp (gMul false) (mVar 2) (mC (.int 2147483647))) (mOp gMod (mCall gInt (mCons (mOp gPow (mVar 4) (mC (.int 5))) mNil)) (mVar 3))) (mGName 2))))
def m_blend : DenS :=
  (mSeq (mAsg (mOp (gAdd false) (mOp gIx (mVar 0) (mC (.str "turn"))) (mC (.int 1))) (mGName 1))
  (mSeq (mSet (mVar 1) (mVar 0) (mC (.str "turn")))
  (mSeq (mAsg (mC (.int 0)) (mGName 2))
  (mSeq (mFor (mSeqI (mLst false (mCons (mC (.int 2147483629)) (mCons (mC (.int 2147483587)) (mCons (mC (.int 2147483579)) (mCons (mC (.int 2147483563)) mNil)))))) (mGName 3)
  b_blend1)
  (mRet (mVar 2))))))
def dBlend : List D → Mu → Res D := denF N_blend m_blend
def N_take : List Str := ["_law_draw", "_law_many", "_law_found"]
def m_take : DenS :=
  (mSeq (mIfS (mTAnd (mTest (mOp (gEq false) (mOp gIx (mVar 0) (mC (.str "rest"))) (mC (.int 0)))) (mTest (mOp (gEq true) (mOp gIx (mVar 0) (mC (.str "great"))) (mLst false mNil))))
  (mSet (mMet isLst gPopAt (mOp gIx (mVar 0) (mC (.str "great"))) (mCons (mC (.int 0)) mNil)) (mVar 0) (mC (.str "rest")))
  mSkip)
  (mSeq (mIfS (mTest (mOp (gEq false) (mOp gIx (mVar 0) (mC (.str "rest"))) (mC (.int 0))))
  (mSet (mCallF 1 dBlend (mCons (mVar 0) mNil)) (mVar 0) (mC (.str "rest")))
  mSkip)
  (mSeq (mAsg (mOp gMod (mCall gInt (mCons (mOp gIx (mVar 0) (mC (.str "rest"))) mNil)) (mVar 1)) (mGName 2))
  (mSeq (mSet (mOp gFdiv (mOp gIx (mVar 0) (mC (.str "rest"))) (mVar 1)) (mVar 0) (mC (.str "rest")))
  (mRet (mVar 2))))))
def dTake : List D → Mu → Res D := denF N_take m_take
def N_pick : List Str := ["_law_draw", "_law_some"]
def m_pick : DenS := (mRet (mOp gIx (mVar 1) (mCallF 2 dTake (mCons (mVar 0) (mCons (mCall gLen (mCons (mVar 1) mNil)) mNil)))))
def dPick : List D → Mu → Res D := denF N_pick m_pick

def drawD (great : Nat) (rest turn : Int) (cells : List Int) : List (Key × D) := [(kGreat, .cell great), (kRest, .int rest), (kCells, .lst (cells.map D.int)), (kTurn, .int turn)]
/-- the drawing stands in cells 0 (the great ones) and 1; so many turns at most -/
structure Draw (b n : Nat) (mu : Mu) : Prop where
  ex : ∃ (great cells : List Int) (rest turn : Int), mu[b]? = some (.lst (great.map D.int)) ∧ mu[b + 1]? = some (.dk (drawD b rest turn cells)) ∧ (∀ g ∈ great, 0 ≤ g) ∧ (∀ c ∈ cells, 0 ≤ c) ∧ 0 ≤ rest ∧ 0 ≤ turn ∧ turn ≤ n
theorem Draw.mono {b n m : Nat} {mu : Mu} (h : Draw b n mu) (l : n ≤ m) : Draw b m mu := by
  obtain ⟨x, y, c, d, h0, h1, h2, h3, h4, h5, h6⟩ := h.ex
  exact ⟨x, y, c, d, h0, h1, h2, h3, h4, h5, by omega⟩
/-- what stands but in the drawing's two cells is as it was -/
structure Fr (b : Nat) (mu mu' : Mu) : Prop where
  len : mu'.length = mu.length
  at_ : ∀ k, k < b ∨ b + 2 ≤ k → mu'[k]? = mu[k]?
section
variable {b : Nat}
theorem Fr.rfl {mu : Mu} : Fr b mu mu := ⟨_root_.rfl, fun _ _ => _root_.rfl⟩
theorem Fr.trans {x y z : Mu} (h : Fr b x y) (k : Fr b y z) : Fr b x z := ⟨k.len.trans h.len, fun i hi => (k.at_ i hi).trans (h.at_ i hi)⟩
theorem Fr.set {mu : Mu} {i : Nat} {c : Cell} (h : i = b ∨ i = b + 1) : Fr b mu (mu.set i c) := ⟨List.length_set, fun k hk => List.getElem?_set_ne (by omega)⟩
theorem _root_.DL.Draw.app {n : Nat} {mu : Mu} {c : List Cell} (h : Draw b n mu) : Draw b n (mu ++ c) := by
  obtain ⟨u, v, x, y, h0, h1, h2⟩ := h.ex
  refine ⟨u, v, x, y, ?_, ?_, h2⟩
  · rw [List.getElem?_append_left (List.getElem?_eq_some_iff.mp h0).1]; exact h0
  · rw [List.getElem?_append_left (List.getElem?_eq_some_iff.mp h1).1]; exact h1
theorem _root_.DL.Draw.len {n : Nat} {mu : Mu} (h : Draw b n mu) : b + 2 ≤ mu.length := by
  obtain ⟨u, v, x, y, h0, h1, h2⟩ := h.ex
  have := (List.getElem?_eq_some_iff.mp h1).1
  omega
theorem _root_.DL.Draw.put {n k : Nat} {mu : Mu} {c : Cell} (h : Draw b n mu) (hk : k < b ∨ b + 2 ≤ k) : Draw b n (mu.set k c) := by
  obtain ⟨u, v, x, y, h0, h1, h2⟩ := h.ex
  exact ⟨u, v, x, y, by rw [List.getElem?_set_ne (by omega)]; exact h0, by rw [List.getElem?_set_ne (by omega)]; exact h1, h2⟩
end

/-! what the drawing's four defs do -/
structure At (b : Nat) (mu : Mu) (great cells : List Int) (rest turn : Int) : Prop where
  h0 : mu[b]? = some (.lst (great.map D.int))
  h1 : mu[b + 1]? = some (.dk (drawD b rest turn cells))
section
variable {b : Nat} {mu : Mu} {great cells : List Int} {rest turn : Int}
theorem At.view1 (h : At b mu great cells rest turn) : view mu (.cell (b + 1)) = .dk (drawD b rest turn cells) := by rw [view_cell, h.h1]
theorem At.view0 (h : At b mu great cells rest turn) : view mu (.cell b) = .lst (great.map D.int) := by rw [view_cell, h.h0]
theorem At.ixRest (h : At b mu great cells rest turn) : gIx mu (.cell (b + 1)) (.str "rest") = some (.int rest, mu) := by
  unfold gIx
  rw [h.view1]
  rfl
theorem At.ixGreat (h : At b mu great cells rest turn) : gIx mu (.cell (b + 1)) (.str "great") = some ((.cell b), mu) := by
  unfold gIx
  rw [h.view1]
  rfl
theorem At.ixCells (h : At b mu great cells rest turn) : gIx mu (.cell (b + 1)) (.str "cells") = some (.lst (cells.map D.int), mu) := by
  unfold gIx
  rw [h.view1]
  rfl
theorem At.ixTurn (h : At b mu great cells rest turn) : gIx mu (.cell (b + 1)) (.str "turn") = some (.int turn, mu) := by
  unfold gIx
  rw [h.view1]
  rfl
theorem At.setRest (h : At b mu great cells rest turn) (r : Int) : gSet mu (.cell (b + 1)) (.str "rest") (.int r) = some (mu.set (b + 1) (.dk (drawD b r turn cells))) := by
  unfold gSet
  simp only [h.h1]
  rfl
theorem At.setTurn (h : At b mu great cells rest turn) (r : Int) : gSet mu (.cell (b + 1)) (.str "turn") (.int r) = some (mu.set (b + 1) (.dk (drawD b rest r cells))) := by
  unfold gSet
  simp only [h.h1]
  rfl
theorem At.next (h : At b mu great cells rest turn) (r t : Int) : At b (mu.set (b + 1) (.dk (drawD b r t cells))) great cells r t :=
  ⟨by rw [List.getElem?_set_ne (by omega)]; exact h.h0, by rw [List.getElem?_set_self (List.getElem?_eq_some_iff.mp h.h1).1]⟩
end

theorem bits_of {x : Int} {m : Nat} (h : x.natAbs < 2 ^ m) : Builtin.Int.intBits x ≤ m := intBits_le_iff.mpr h
theorem bits30 {x : Int} (h0 : 0 ≤ x) (h : x < 1000000000) : Builtin.Int.intBits x ≤ 30 := bits_of (by omega)
theorem bits31 {x : Int} (h0 : 0 ≤ x) (h : x < 2147483648) : Builtin.Int.intBits x ≤ 31 := bits_of (by omega)
section
variable {b : Nat} {mu : Mu} {great cells : List Int} {rest turn : Int}
theorem inner_ok (h : At b mu great cells rest turn) {t found p : Int} (hp : 0 < p) (hp2 : p < 2147483648) : ∀ (here : Int) (x : Option D), 0 ≤ here → here < p → (∀ c ∈ cells, 0 ≤ c) →
    ∃ here' x', 0 ≤ here' ∧ here' < p ∧ mFor (mSeqI (mOp gIx (mVar 0) (mC (.str "cells")))) (mGName 5) b_blend2 [some (.cell (b + 1)), some (.int t), some (.int found), some (.int p), some (.int here), x] mu = .nx [some (.cell (b + 1)), some (.int t), some (.int found), some (.int p), some (.int here'), x'] mu := fun here x h0 h1 hc => by
  have key := forL_inv (mg := mGName 5) (mb := b_blend2) D.int (fun _ env m => m = mu ∧ ∃ here x, 0 ≤ here ∧ here < p ∧ env = [some (.cell (b + 1)), some (.int t), some (.int found), some (.int p), some (.int here), x]) cells
    [some (.cell (b + 1)), some (.int t), some (.int found), some (.int p), some (.int here), x] mu ⟨rfl, here, x, h0, h1, rfl⟩ (fun c rest env m ⟨e1, here, x, g0, g1, e2⟩ => by
      subst e1; subst e2
      refine ⟨_, _, [some (.cell (b + 1)), some (.int t), some (.int found), some (.int p), some (.int ((here * 48271 + c) % p)), some (.int c)], _, rfl, .inl ?_, rfl, (here * 48271 + c) % p, some (.int c), Int.emod_nonneg _ (by omega), Int.emod_lt_of_pos _ hp, rfl⟩
      have hm : mulB here 48271 = true := mulB_ok (Nat.le_trans (bits31 g0 (by omega)) (by omega)) (Nat.le_trans (bits31 (x := 48271) (by omega) (by omega)) (by omega))
      unfold b_blend2
      (repeat' (first | (with_reducible assumption) | (with_reducible exact gMod_ok hp) | (with_reducible apply mVar_ok) | (with_reducible apply mC_ok) | (with_reducible apply mOp_ok) | (with_reducible apply mTest_ok) | (with_reducible apply mCons_ok) | (with_reducible apply mNil_ok) | (with_reducible apply mCall_ok) | (with_reducible apply mCallF_ok) | (with_reducible apply mSeq_eq) | (with_reducible apply seqNx) | (with_reducible apply seqRt) | (with_reducible apply mSkip_ok) | (with_reducible apply mRet_ok) | (with_reducible apply mRetN_ok) | (with_reducible apply mExpr_ok) | (with_reducible apply mAsg_ok) | (with_reducible apply mGName_ok) | (with_reducible apply mIfS_ok) | (with_reducible apply mTAnd_ok) | (with_reducible apply mTOr_ok) | (with_reducible apply mTNot_ok) | (with_reducible apply mAnd_ok) | (with_reducible apply mOr_ok) | (with_reducible apply mNot_ok) | (with_reducible apply mIf_ok) | (with_reducible apply mChain_ok) | (with_reducible apply bindO_ok) | (with_reducible apply mTup_ok) | (with_reducible apply mLst_ok) | (with_reducible apply mLst_okC) | (with_reducible apply mUn_ok) | (with_reducible apply mMet_ok) | (with_reducible apply mMetC_ok) | (with_reducible apply mGTup_ok) | (with_reducible apply mGCons_ok) | (with_reducible apply mGNil_ok) | (with_reducible apply mPar_ok) | (with_reducible apply mPar3_ok) | (with_reducible apply mSet_ok) | (with_reducible apply mSeqI_ok) | (with_reducible apply mRange1_ok) | (with_reducible apply mZip_ok) | (with_reducible apply mFrz_ok) | (with_reducible apply mFor_ok) | (with_reducible apply mCallV_ok) | (with_reducible apply gAddL) | (with_reducible apply gSumL) | (with_reducible apply gMax0) | (with_reducible apply gMax2) | (with_reducible apply gMaxP) | (with_reducible apply gAllL) | (with_reducible apply gTupL) | (with_reducible apply gTupT) | (with_reducible apply gListT) | (with_reducible apply gLenT) | (with_reducible apply gIsiT) | (with_reducible apply gIsNT) | (with_reducible apply gEqL0) | (with_reducible apply gNeL0) | (with_reducible apply gMul_ok) | (with_reducible apply gAdd_ok) | (with_reducible apply gSub_ok) | (with_reducible apply gEqI) | (with_reducible apply gNeI) | (with_reducible apply gLt_ok) | (with_reducible apply gLe_ok) | (with_reducible apply gGt_ok) | (with_reducible apply gGe_ok) | (with_reducible apply gInt_ok) | (with_reducible apply mulB_ok) | (with_reducible apply lim_ok) | ((with_reducible apply ite_t); (first | assumption | (exact decide_eq_true (by omega)) | (exact decide_eq_false (by omega)) | (simp only [Bool.not_eq_true', Bool.not_eq_false', Bool.not_not, decide_eq_false_iff_not, decide_eq_true_eq, Bool.false_eq_true, if_true, if_false, Bool.not_false, Bool.not_true, reduceIte]; omega) | exact rfl)) | ((with_reducible apply ite_f); (first | assumption | (exact decide_eq_true (by omega)) | (exact decide_eq_false (by omega)) | (simp only [Bool.not_eq_true', Bool.not_eq_false', Bool.not_not, decide_eq_false_iff_not, decide_eq_true_eq, Bool.false_eq_true, if_true, if_false, Bool.not_false, Bool.not_true, reduceIte]; omega) | exact rfl)) | (simp only [List.set_cons_succ, List.set_cons_zero, wipeD]; exact rfl) | (simp only [List.length_cons, List.length_nil, List.length_map, List.length_append]; omega) | (exact rfl) | (omega))))
  obtain ⟨e, m, k1, rfl, here', x', a, b, rfl⟩ := key
  refine ⟨here', x', a, b, mFor_ok (m1 := m) (ds := cells.map D.int) ?_ k1⟩
  (repeat' (first | (with_reducible assumption) | (with_reducible exact h.ixCells) | (with_reducible apply mVar_ok) | (with_reducible apply mC_ok) | (with_reducible apply mOp_ok) | (with_reducible apply mTest_ok) | (with_reducible apply mCons_ok) | (with_reducible apply mNil_ok) | (with_reducible apply mCall_ok) | (with_reducible apply mCallF_ok) | (with_reducible apply mSeq_eq) | (with_reducible apply seqNx) | (with_reducible apply seqRt) | (with_reducible apply mSkip_ok) | (with_reducible apply mRet_ok) | (with_reducible apply mRetN_ok) | (with_reducible apply mExpr_ok) | (with_reducible apply mAsg_ok) | (with_reducible apply mGName_ok) | (with_reducible apply mIfS_ok) | (with_reducible apply mTAnd_ok) | (with_reducible apply mTOr_ok) | (with_reducible apply mTNot_ok) | (with_reducible apply mAnd_ok) | (with_reducible apply mOr_ok) | (with_reducible apply mNot_ok) | (with_reducible apply mIf_ok) | (with_reducible apply mChain_ok) | (with_reducible apply bindO_ok) | (with_reducible apply mTup_ok) | (with_reducible apply mLst_ok) | (with_reducible apply mLst_okC) | (with_reducible apply mUn_ok) | (with_reducible apply mMet_ok) | (with_reducible apply mMetC_ok) | (with_reducible apply mGTup_ok) | (with_reducible apply mGCons_ok) | (with_reducible apply mGNil_ok) | (with_reducible apply mPar_ok) | (with_reducible apply mPar3_ok) | (with_reducible apply mSet_ok) | (with_reducible apply mSeqI_ok) | (with_reducible apply mRange1_ok) | (with_reducible apply mZip_ok) | (with_reducible apply mFrz_ok) | (with_reducible apply mFor_ok) | (with_reducible apply mCallV_ok) | (with_reducible apply gAddL) | (with_reducible apply gSumL) | (with_reducible apply gMax0) | (with_reducible apply gMax2) | (with_reducible apply gMaxP) | (with_reducible apply gAllL) | (with_reducible apply gTupL) | (with_reducible apply gTupT) | (with_reducible apply gListT) | (with_reducible apply gLenT) | (with_reducible apply gIsiT) | (with_reducible apply gIsNT) | (with_reducible apply gEqL0) | (with_reducible apply gNeL0) | (with_reducible apply gMul_ok) | (with_reducible apply gAdd_ok) | (with_reducible apply gSub_ok) | (with_reducible apply gEqI) | (with_reducible apply gNeI) | (with_reducible apply gLt_ok) | (with_reducible apply gLe_ok) | (with_reducible apply gGt_ok) | (with_reducible apply gGe_ok) | (with_reducible apply gInt_ok) | (with_reducible apply mulB_ok) | (with_reducible apply lim_ok) | ((with_reducible apply ite_t); (first | assumption | (exact decide_eq_true (by omega)) | (exact decide_eq_false (by omega)) | (simp only [Bool.not_eq_true', Bool.not_eq_false', Bool.not_not, decide_eq_false_iff_not, decide_eq_true_eq, Bool.false_eq_true, if_true, if_false, Bool.not_false, Bool.not_true, reduceIte]; omega) | exact rfl)) | ((with_reducible apply ite_f); (first | assumption | (exact decide_eq_true (by omega)) | (exact decide_eq_false (by omega)) | (simp only [Bool.not_eq_true', Bool.not_eq_false', Bool.not_not, decide_eq_false_iff_not, decide_eq_true_eq, Bool.false_eq_true, if_true, if_false, Bool.not_false, Bool.not_true, reduceIte]; omega) | exact rfl)) | (simp only [List.set_cons_succ, List.set_cons_zero, wipeD]; exact rfl) | (simp only [List.length_cons, List.length_nil, List.length_map, List.length_append]; omega) | (exact rfl) | (omega)))
theorem outer_ok (h : At b mu great cells rest turn) (hc : ∀ c ∈ cells, 0 ≤ c) {t : Int} (ht : Builtin.Int.intBits t ≤ 60000000) (ht0 : 0 ≤ t) (x3 x4 x5 : Option D) : ∃ (env : DEnv) (found : Int), 0 ≤ found ∧ env[2]? = some (some (.int found)) ∧
    forL (mGName 3) b_blend1 [.int 2147483629, .int 2147483587, .int 2147483579, .int 2147483563] [some (.cell (b + 1)), some (.int t), some (.int 0), x3, x4, x5] mu = .nx env mu := by
  have key := forL_inv (mg := mGName 3) (mb := b_blend1) D.int (fun l env m => (∀ p ∈ l, 0 < p ∧ p < 2147483648) ∧ m = mu ∧ ∃ found x3 x4 x5, 0 ≤ found ∧ Builtin.Int.intBits found ≤ 1000 * (5 - l.length) ∧ l.length ≤ 4 ∧ env = [some (.cell (b + 1)), some (.int t), some (.int found), x3, x4, x5]) [2147483629, 2147483587, 2147483579, 2147483563]
    [some (.cell (b + 1)), some (.int t), some (.int 0), x3, x4, x5] mu ⟨by decide, rfl, 0, x3, x4, x5, by decide, by decide, by decide, rfl⟩ (fun p l env m ⟨hl, e1, found, x3, x4, x5, g0, g1, g2, e2⟩ => by
      subst e1; subst e2
      obtain ⟨hp, hp2⟩ := hl p (List.mem_cons_self)
      simp only [List.length_cons] at g1 g2
      have hm : mulB t 69621 = true := mulB_ok ht (Nat.le_trans (bits31 (x := 69621) (by omega) (by omega)) (by omega))
      have hm2 : mulB found 2147483647 = true := mulB_ok (by omega) (Nat.le_trans (bits31 (x := 2147483647) (by omega) (by omega)) (by omega))
      have hd : p.natAbs.log2 < 9000 := Nat.lt_of_lt_of_le (m := 31) ((Nat.log2_lt (by omega)).mpr (by omega)) (by omega)
      obtain ⟨here', x', k0, k1, k2⟩ := inner_ok h (t := t) (found := found) hp hp2 ((t * 69621 + p / 7) % p) x5 (Int.emod_nonneg _ (by omega)) (Int.emod_lt_of_pos _ hp) hc
      have hpow : gPow m (.int here') (.int 5) = some (.int (here' ^ 5), m) := gPow_ok (j := 5) (by have := bits31 k0 (by omega); omega)
      have q0 : 0 ≤ here' ^ 5 % p := Int.emod_nonneg _ (by omega)
      have q1 : here' ^ 5 % p < p := Int.emod_lt_of_pos _ hp
      refine ⟨_, _, [some (.cell (b + 1)), some (.int t), some (.int (found * 2147483647 + here' ^ 5 % p)), some (.int p), some (.int here'), x'], _, rfl, .inl ?_, fun q hq => hl q (List.mem_cons_of_mem _ hq), rfl, found * 2147483647 + here' ^ 5 % p, some (.int p), some (.int here'), x', by omega, ?_, by omega, rfl⟩
      · unfold b_blend1
        (repeat' (first | (with_reducible assumption) | (with_reducible exact k2) | (with_reducible exact gMod_ok hp) | (with_reducible exact gFdiv_ok (j := 7) (by decide) (by decide)) | (with_reducible exact hpow) | (with_reducible apply mVar_ok) | (with_reducible apply mC_ok) | (with_reducible apply mOp_ok) | (with_reducible apply mTest_ok) | (with_reducible apply mCons_ok) | (with_reducible apply mNil_ok) | (with_reducible apply mCall_ok) | (with_reducible apply mCallF_ok) | (with_reducible apply mSeq_eq) | (with_reducible apply seqNx) | (with_reducible apply seqRt) | (with_reducible apply mSkip_ok) | (with_reducible apply mRet_ok) | (with_reducible apply mRetN_ok) | (with_reducible apply mExpr_ok) | (with_reducible apply mAsg_ok) | (with_reducible apply mGName_ok) | (with_reducible apply mIfS_ok) | (with_reducible apply mTAnd_ok) | (with_reducible apply mTOr_ok) | (with_reducible apply mTNot_ok) | (with_reducible apply mAnd_ok) | (with_reducible apply mOr_ok) | (with_reducible apply mNot_ok) | (with_reducible apply mIf_ok) | (with_reducible apply mChain_ok) | (with_reducible apply bindO_ok) | (with_reducible apply mTup_ok) | (with_reducible apply mLst_ok) | (with_reducible apply mLst_okC) | (with_reducible apply mUn_ok) | (with_reducible apply mMet_ok) | (with_reducible apply mMetC_ok) | (with_reducible apply mGTup_ok) | (with_reducible apply mGCons_ok) | (with_reducible apply mGNil_ok) | (with_reducible apply mPar_ok) | (with_reducible apply mPar3_ok) | (with_reducible apply mSet_ok) | (with_reducible apply mSeqI_ok) | (with_reducible apply mRange1_ok) | (with_reducible apply mZip_ok) | (with_reducible apply mFrz_ok) | (with_reducible apply mFor_ok) | (with_reducible apply mCallV_ok) | (with_reducible apply gAddL) | (with_reducible apply gSumL) | (with_reducible apply gMax0) | (with_reducible apply gMax2) | (with_reducible apply gMaxP) | (with_reducible apply gAllL) | (with_reducible apply gTupL) | (with_reducible apply gTupT) | (with_reducible apply gListT) | (with_reducible apply gLenT) | (with_reducible apply gIsiT) | (with_reducible apply gIsNT) | (with_reducible apply gEqL0) | (with_reducible apply gNeL0) | (with_reducible apply gMul_ok) | (with_reducible apply gAdd_ok) | (with_reducible apply gSub_ok) | (with_reducible apply gEqI) | (with_reducible apply gNeI) | (with_reducible apply gLt_ok) | (with_reducible apply gLe_ok) | (with_reducible apply gGt_ok) | (with_reducible apply gGe_ok) | (with_reducible apply gInt_ok) | (with_reducible apply mulB_ok) | (with_reducible apply lim_ok) | ((with_reducible apply ite_t); (first | assumption | (exact decide_eq_true (by omega)) | (exact decide_eq_false (by omega)) | (simp only [Bool.not_eq_true', Bool.not_eq_false', Bool.not_not, decide_eq_false_iff_not, decide_eq_true_eq, Bool.false_eq_true, if_true, if_false, Bool.not_false, Bool.not_true, reduceIte]; omega) | exact rfl)) | ((with_reducible apply ite_f); (first | assumption | (exact decide_eq_true (by omega)) | (exact decide_eq_false (by omega)) | (simp only [Bool.not_eq_true', Bool.not_eq_false', Bool.not_not, decide_eq_false_iff_not, decide_eq_true_eq, Bool.false_eq_true, if_true, if_false, Bool.not_false, Bool.not_true, reduceIte]; omega) | exact rfl)) | (simp only [List.set_cons_succ, List.set_cons_zero, wipeD]; exact rfl) | (simp only [List.length_cons, List.length_nil, List.length_map, List.length_append]; omega) | (exact rfl) | (omega)))
      · have b1 := intBits_mul_le (m := 1000 * (5 - (l.length + 1))) (n := 31) g1 (bits31 (x := 2147483647) (by omega) (by omega))
        have b2 := intBits_add_le b1 (bits31 q0 (by omega))
        omega)
  obtain ⟨e, m, k1, _, rfl, found, a3, a4, a5, b, _, _, rfl⟩ := key
  exact ⟨_, found, b, rfl, k1⟩

theorem blend_ok (h : At b mu great cells rest turn) (hc : ∀ c ∈ cells, 0 ≤ c) (ht : Builtin.Int.intBits (turn + 1) ≤ 60000000) (ht0 : 0 ≤ turn) : ∃ r : Int, 0 ≤ r ∧ dBlend [(.cell (b + 1))] mu = .ok (.int r) (mu.set (b + 1) (.dk (drawD b rest (turn + 1) cells))) := by
  have h' := h.next rest (turn + 1)
  obtain ⟨env, found, f0, f1, f2⟩ := outer_ok h' hc ht (by omega) none none none
  refine ⟨found, f0, denF_rt (env0 := [some (.cell (b + 1)), none, none, none, none, none]) rfl ?_⟩
  have e1 : mRet (mVar 2) env (mu.set (b + 1) (.dk (drawD b rest (turn + 1) cells))) = .rt (.int found) (mu.set (b + 1) (.dk (drawD b rest (turn + 1) cells))) := mRet_ok (mVar_ok f1)
  have hs := h.setTurn (turn + 1)
  unfold m_blend
  (repeat' (first | (with_reducible assumption) | (with_reducible exact h.ixTurn) | (with_reducible exact hs) | (with_reducible exact f2) | (with_reducible exact e1) | (with_reducible apply mVar_ok) | (with_reducible apply mC_ok) | (with_reducible apply mOp_ok) | (with_reducible apply mTest_ok) | (with_reducible apply mCons_ok) | (with_reducible apply mNil_ok) | (with_reducible apply mCall_ok) | (with_reducible apply mCallF_ok) | (with_reducible apply mSeq_eq) | (with_reducible apply seqNx) | (with_reducible apply seqRt) | (with_reducible apply mSkip_ok) | (with_reducible apply mRet_ok) | (with_reducible apply mRetN_ok) | (with_reducible apply mExpr_ok) | (with_reducible apply mAsg_ok) | (with_reducible apply mGName_ok) | (with_reducible apply mIfS_ok) | (with_reducible apply mTAnd_ok) | (with_reducible apply mTOr_ok) | (with_reducible apply mTNot_ok) | (with_reducible apply mAnd_ok) | (with_reducible apply mOr_ok) | (with_reducible apply mNot_ok) | (with_reducible apply mIf_ok) | (with_reducible apply mChain_ok) | (with_reducible apply bindO_ok) | (with_reducible apply mTup_ok) | (with_reducible apply mLst_ok) | (with_reducible apply mLst_okC) | (with_reducible apply mUn_ok) | (with_reducible apply mMet_ok) | (with_reducible apply mMetC_ok) | (with_reducible apply mGTup_ok) | (with_reducible apply mGCons_ok) | (with_reducible apply mGNil_ok) | (with_reducible apply mPar_ok) | (with_reducible apply mPar3_ok) | (with_reducible apply mSet_ok) | (with_reducible apply mSeqI_ok) | (with_reducible apply mRange1_ok) | (with_reducible apply mZip_ok) | (with_reducible apply mFrz_ok) | (with_reducible apply mFor_ok) | (with_reducible apply mCallV_ok) | (with_reducible apply gAddL) | (with_reducible apply gSumL) | (with_reducible apply gMax0) | (with_reducible apply gMax2) | (with_reducible apply gMaxP) | (with_reducible apply gAllL) | (with_reducible apply gTupL) | (with_reducible apply gTupT) | (with_reducible apply gListT) | (with_reducible apply gLenT) | (with_reducible apply gIsiT) | (with_reducible apply gIsNT) | (with_reducible apply gEqL0) | (with_reducible apply gNeL0) | (with_reducible apply gMul_ok) | (with_reducible apply gAdd_ok) | (with_reducible apply gSub_ok) | (with_reducible apply gEqI) | (with_reducible apply gNeI) | (with_reducible apply gLt_ok) | (with_reducible apply gLe_ok) | (with_reducible apply gGt_ok) | (with_reducible apply gGe_ok) | (with_reducible apply gInt_ok) | (with_reducible apply mulB_ok) | (with_reducible apply lim_ok) | ((with_reducible apply ite_t); (first | assumption | (exact decide_eq_true (by omega)) | (exact decide_eq_false (by omega)) | (simp only [Bool.not_eq_true', Bool.not_eq_false', Bool.not_not, decide_eq_false_iff_not, decide_eq_true_eq, Bool.false_eq_true, if_true, if_false, Bool.not_false, Bool.not_true, reduceIte]; omega) | exact rfl)) | ((with_reducible apply ite_f); (first | assumption | (exact decide_eq_true (by omega)) | (exact decide_eq_false (by omega)) | (simp only [Bool.not_eq_true', Bool.not_eq_false', Bool.not_not, decide_eq_false_iff_not, decide_eq_true_eq, Bool.false_eq_true, if_true, if_false, Bool.not_false, Bool.not_true, reduceIte]; omega) | exact rfl)) | (simp only [List.set_cons_succ, List.set_cons_zero, wipeD]; exact rfl) | (simp only [List.length_cons, List.length_nil, List.length_map, List.length_append]; omega) | (exact rfl) | (omega)))
theorem great_ne (h : At b mu great cells rest turn) : gEq true mu (.cell b) (.lst []) = some (.bl (!great.isEmpty), mu) := by
  unfold gEq
  have ok : ∀ l : List Int, okL 59 (l.map D.int) = true := fun l => by
    induction l with
    | nil => rfl
    | cons x l ih => simp only [List.map_cons, okL, okD, ih, Bool.and_self]
  rw [h.view0, view_lst]
  have e1 : okD 60 (D.lst (great.map D.int)) = true := by simp only [okD]; exact ok great
  have e2 : okD 60 (D.lst []) = true := rfl
  rw [if_pos ⟨e1, e2⟩]
  cases great with
  | nil => rfl
  | cons x l => rfl
theorem pop_ok (h : At b mu great cells rest turn) {g : Int} {gs : List Int} (e : great = g :: gs) : gPopAt mu (.cell b) [.int 0] = some (.int g, mu.set b (.lst (gs.map D.int))) := by
  subst e
  unfold gPopAt
  simp only [h.h0]
  rfl
theorem At.pop (h : At b mu great cells rest turn) (gs : List Int) : At b (mu.set b (.lst (gs.map D.int))) gs cells rest turn :=
  ⟨by rw [List.getElem?_set_self (List.getElem?_eq_some_iff.mp h.h0).1], by rw [List.getElem?_set_ne (by omega)]; exact h.h1⟩
theorem isLst0 (h : At b mu great cells rest turn) : isLst mu (.cell b) = true := by unfold isLst; rw [h.view0]
end
/-- the last part of a take: rest is told -/
theorem take_end {b : Nat} {mu : Mu} {great cells : List Int} {rest turn many : Int} (h : At b mu great cells rest turn) (hm : 0 < many) (hl : many.natAbs.log2 < 9000) :
    (mSeq (mAsg (mOp gMod (mCall gInt (mCons (mOp gIx (mVar 0) (mC (.str "rest"))) mNil)) (mVar 1)) (mGName 2))
  (mSeq (mSet (mOp gFdiv (mOp gIx (mVar 0) (mC (.str "rest"))) (mVar 1)) (mVar 0) (mC (.str "rest")))
  (mRet (mVar 2)))) [some (.cell (b + 1)), some (.int many), none] mu = .rt (.int (rest % many)) (mu.set (b + 1) (.dk (drawD b (rest / many) turn cells))) := by
  have hs := h.setRest (rest / many)
  (repeat' (first | (with_reducible assumption) | (with_reducible exact h.ixRest) | (with_reducible exact gMod_ok hm) | (with_reducible exact gFdiv_ok hm hl) | (with_reducible exact hs) | (with_reducible apply mVar_ok) | (with_reducible apply mC_ok) | (with_reducible apply mOp_ok) | (with_reducible apply mTest_ok) | (with_reducible apply mCons_ok) | (with_reducible apply mNil_ok) | (with_reducible apply mCall_ok) | (with_reducible apply mCallF_ok) | (with_reducible apply mSeq_eq) | (with_reducible apply seqNx) | (with_reducible apply seqRt) | (with_reducible apply mSkip_ok) | (with_reducible apply mRet_ok) | (with_reducible apply mRetN_ok) | (with_reducible apply mExpr_ok) | (with_reducible apply mAsg_ok) | (with_reducible apply mGName_ok) | (with_reducible apply mIfS_ok) | (with_reducible apply mTAnd_ok) | (with_reducible apply mTOr_ok) | (with_reducible apply mTNot_ok) | (with_reducible apply mAnd_ok) | (with_reducible apply mOr_ok) | (with_reducible apply mNot_ok) | (with_reducible apply mIf_ok) | (with_reducible apply mChain_ok) | (with_reducible apply bindO_ok) | (with_reducible apply mTup_ok) | (with_reducible apply mLst_ok) | (with_reducible apply mLst_okC) | (with_reducible apply mUn_ok) | (with_reducible apply mMet_ok) | (with_reducible apply mMetC_ok) | (with_reducible apply mGTup_ok) | (with_reducible apply mGCons_ok) | (with_reducible apply mGNil_ok) | (with_reducible apply mPar_ok) | (with_reducible apply mPar3_ok) | (with_reducible apply mSet_ok) | (with_reducible apply mSeqI_ok) | (with_reducible apply mRange1_ok) | (with_reducible apply mZip_ok) | (with_reducible apply mFrz_ok) | (with_reducible apply mFor_ok) | (with_reducible apply mCallV_ok) | (with_reducible apply gAddL) | (with_reducible apply gSumL) | (with_reducible apply gMax0) | (with_reducible apply gMax2) | (with_reducible apply gMaxP) | (with_reducible apply gAllL) | (with_reducible apply gTupL) | (with_reducible apply gTupT) | (with_reducible apply gListT) | (with_reducible apply gLenT) | (with_reducible apply gIsiT) | (with_reducible apply gIsNT) | (with_reducible apply gEqL0) | (with_reducible apply gNeL0) | (with_reducible apply gMul_ok) | (with_reducible apply gAdd_ok) | (with_reducible apply gSub_ok) | (with_reducible apply gEqI) | (with_reducible apply gNeI) | (with_reducible apply gLt_ok) | (with_reducible apply gLe_ok) | (with_reducible apply gGt_ok) | (with_reducible apply gGe_ok) | (with_reducible apply gInt_ok) | (with_reducible apply mulB_ok) | (with_reducible apply lim_ok) | ((with_reducible apply ite_t); (first | assumption | (exact decide_eq_true (by omega)) | (exact decide_eq_false (by omega)) | (simp only [Bool.not_eq_true', Bool.not_eq_false', Bool.not_not, decide_eq_false_iff_not, decide_eq_true_eq, Bool.false_eq_true, if_true, if_false, Bool.not_false, Bool.not_true, reduceIte]; omega) | exact rfl)) | ((with_reducible apply ite_f); (first | assumption | (exact decide_eq_true (by omega)) | (exact decide_eq_false (by omega)) | (simp only [Bool.not_eq_true', Bool.not_eq_false', Bool.not_not, decide_eq_false_iff_not, decide_eq_true_eq, Bool.false_eq_true, if_true, if_false, Bool.not_false, Bool.not_true, reduceIte]; omega) | exact rfl)) | (simp only [List.set_cons_succ, List.set_cons_zero, wipeD]; exact rfl) | (simp only [List.length_cons, List.length_nil, List.length_map, List.length_append]; omega) | (exact rfl) | (omega)))
theorem take_ok {b : Nat} {mu : Mu} {n : Nat} {many : Int} (h : Draw b n mu) (hn : n ≤ 900000000) (hm : 0 < many) (hl : many.natAbs.log2 < 9000) :
    ∃ (r : Int) (mu' : Mu), dTake [(.cell (b + 1)), .int many] mu = .ok (.int r) mu' ∧ 0 ≤ r ∧ r < many ∧ Draw b (n + 1) mu' ∧ Fr b mu mu' := by
  obtain ⟨great, cells, rest, turn, h0, h1, hg, hc, hr, ht, htn⟩ := h.ex
  have a : At b mu great cells rest turn := ⟨h0, h1⟩
  -- the second part, from any state
  have part2 : ∀ (mu2 : Mu) (great2 : List Int) (rest2 : Int), At b mu2 great2 cells rest2 turn → (∀ g ∈ great2, 0 ≤ g) → 0 ≤ rest2 → Fr b mu mu2 → ∃ (r : Int) (mu' : Mu), (mSeq (mIfS (mTest (mOp (gEq false) (mOp gIx (mVar 0) (mC (.str "rest"))) (mC (.int 0))))
  (mSet (mCallF 1 dBlend (mCons (mVar 0) mNil)) (mVar 0) (mC (.str "rest")))
  mSkip)
  (mSeq (mAsg (mOp gMod (mCall gInt (mCons (mOp gIx (mVar 0) (mC (.str "rest"))) mNil)) (mVar 1)) (mGName 2))
  (mSeq (mSet (mOp gFdiv (mOp gIx (mVar 0) (mC (.str "rest"))) (mVar 1)) (mVar 0) (mC (.str "rest")))
  (mRet (mVar 2))))) [some (.cell (b + 1)), some (.int many), none] mu2 = .rt (.int r) mu' ∧ 0 ≤ r ∧ r < many ∧ Draw b (n + 1) mu' ∧ Fr b mu mu' := by
    intro mu2 great2 rest2 a2 hg2 hr2 fr
    by_cases e : rest2 = 0
    · obtain ⟨r, r0, eb⟩ := blend_ok a2 hc (Nat.le_trans (bits30 (by omega) (by omega)) (by omega)) ht
      have a3 := a2.next rest2 (turn + 1)
      have hs := a3.setRest r
      have a4 := a3.next r (turn + 1)
      have k := take_end a4 hm hl
      refine ⟨r % many, _, ?_, Int.emod_nonneg _ (by omega), Int.emod_lt_of_pos _ hm, ⟨great2, cells, r / many, turn + 1, (a4.next _ _).h0, (a4.next _ _).h1, hg2, hc, Int.ediv_nonneg r0 (by omega), by omega, by omega⟩, ((fr.trans (Fr.set (by omega))).trans (Fr.set (by omega))).trans (Fr.set (by omega))⟩
      refine mSeq_eq (r1 := .nx [some (.cell (b + 1)), some (.int many), none] _) ?_ (seqNx k)
      (repeat' (first | (with_reducible assumption) | (with_reducible exact a2.ixRest) | (with_reducible exact eb) | (with_reducible exact hs) | (with_reducible apply mVar_ok) | (with_reducible apply mC_ok) | (with_reducible apply mOp_ok) | (with_reducible apply mTest_ok) | (with_reducible apply mCons_ok) | (with_reducible apply mNil_ok) | (with_reducible apply mCall_ok) | (with_reducible apply mCallF_ok) | (with_reducible apply mSeq_eq) | (with_reducible apply seqNx) | (with_reducible apply seqRt) | (with_reducible apply mSkip_ok) | (with_reducible apply mRet_ok) | (with_reducible apply mRetN_ok) | (with_reducible apply mExpr_ok) | (with_reducible apply mAsg_ok) | (with_reducible apply mGName_ok) | (with_reducible apply mIfS_ok) | (with_reducible apply mTAnd_ok) | (with_reducible apply mTOr_ok) | (with_reducible apply mTNot_ok) | (with_reducible apply mAnd_ok) | (with_reducible apply mOr_ok) | (with_reducible apply mNot_ok) | (with_reducible apply mIf_ok) | (with_reducible apply mChain_ok) | (with_reducible apply bindO_ok) | (with_reducible apply mTup_ok) | (with_reducible apply mLst_ok) | (with_reducible apply mLst_okC) | (with_reducible apply mUn_ok) | (with_reducible apply mMet_ok) | (with_reducible apply mMetC_ok) | (with_reducible apply mGTup_ok) | (with_reducible apply mGCons_ok) | (with_reducible apply mGNil_ok) | (with_reducible apply mPar_ok) | (with_reducible apply mPar3_ok) | (with_reducible apply mSet_ok) | (with_reducible apply mSeqI_ok) | (with_reducible apply mRange1_ok) | (with_reducible apply mZip_ok) | (with_reducible apply mFrz_ok) | (with_reducible apply mFor_ok) | (with_reducible apply mCallV_ok) | (with_reducible apply gAddL) | (with_reducible apply gSumL) | (with_reducible apply gMax0) | (with_reducible apply gMax2) | (with_reducible apply gMaxP) | (with_reducible apply gAllL) | (with_reducible apply gTupL) | (with_reducible apply gTupT) | (with_reducible apply gListT) | (with_reducible apply gLenT) | (with_reducible apply gIsiT) | (with_reducible apply gIsNT) | (with_reducible apply gEqL0) | (with_reducible apply gNeL0) | (with_reducible apply gMul_ok) | (with_reducible apply gAdd_ok) | (with_reducible apply gSub_ok) | (with_reducible apply gEqI) | (with_reducible apply gNeI) | (with_reducible apply gLt_ok) | (with_reducible apply gLe_ok) | (with_reducible apply gGt_ok) | (with_reducible apply gGe_ok) | (with_reducible apply gInt_ok) | (with_reducible apply mulB_ok) | (with_reducible apply lim_ok) | ((with_reducible apply ite_t); (first | assumption | (exact decide_eq_true (by omega)) | (exact decide_eq_false (by omega)) | (simp only [Bool.not_eq_true', Bool.not_eq_false', Bool.not_not, decide_eq_false_iff_not, decide_eq_true_eq, Bool.false_eq_true, if_true, if_false, Bool.not_false, Bool.not_true, reduceIte]; omega) | exact rfl)) | ((with_reducible apply ite_f); (first | assumption | (exact decide_eq_true (by omega)) | (exact decide_eq_false (by omega)) | (simp only [Bool.not_eq_true', Bool.not_eq_false', Bool.not_not, decide_eq_false_iff_not, decide_eq_true_eq, Bool.false_eq_true, if_true, if_false, Bool.not_false, Bool.not_true, reduceIte]; omega) | exact rfl)) | (simp only [List.set_cons_succ, List.set_cons_zero, wipeD]; exact rfl) | (simp only [List.length_cons, List.length_nil, List.length_map, List.length_append]; omega) | (exact rfl) | (omega)))
    · have k := take_end a2 hm hl
      refine ⟨rest2 % many, _, ?_, Int.emod_nonneg _ (by omega), Int.emod_lt_of_pos _ hm, ⟨great2, cells, rest2 / many, turn, (a2.next _ _).h0, (a2.next _ _).h1, hg2, hc, Int.ediv_nonneg hr2 (by omega), by omega, by omega⟩, fr.trans (Fr.set (by omega))⟩
      refine mSeq_eq (r1 := .nx [some (.cell (b + 1)), some (.int many), none] _) ?_ (seqNx k)
      (repeat' (first | (with_reducible assumption) | (with_reducible exact a2.ixRest) | (with_reducible apply mVar_ok) | (with_reducible apply mC_ok) | (with_reducible apply mOp_ok) | (with_reducible apply mTest_ok) | (with_reducible apply mCons_ok) | (with_reducible apply mNil_ok) | (with_reducible apply mCall_ok) | (with_reducible apply mCallF_ok) | (with_reducible apply mSeq_eq) | (with_reducible apply seqNx) | (with_reducible apply seqRt) | (with_reducible apply mSkip_ok) | (with_reducible apply mRet_ok) | (with_reducible apply mRetN_ok) | (with_reducible apply mExpr_ok) | (with_reducible apply mAsg_ok) | (with_reducible apply mGName_ok) | (with_reducible apply mIfS_ok) | (with_reducible apply mTAnd_ok) | (with_reducible apply mTOr_ok) | (with_reducible apply mTNot_ok) | (with_reducible apply mAnd_ok) | (with_reducible apply mOr_ok) | (with_reducible apply mNot_ok) | (with_reducible apply mIf_ok) | (with_reducible apply mChain_ok) | (with_reducible apply bindO_ok) | (with_reducible apply mTup_ok) | (with_reducible apply mLst_ok) | (with_reducible apply mLst_okC) | (with_reducible apply mUn_ok) | (with_reducible apply mMet_ok) | (with_reducible apply mMetC_ok) | (with_reducible apply mGTup_ok) | (with_reducible apply mGCons_ok) | (with_reducible apply mGNil_ok) | (with_reducible apply mPar_ok) | (with_reducible apply mPar3_ok) | (with_reducible apply mSet_ok) | (with_reducible apply mSeqI_ok) | (with_reducible apply mRange1_ok) | (with_reducible apply mZip_ok) | (with_reducible apply mFrz_ok) | (with_reducible apply mFor_ok) | (with_reducible apply mCallV_ok) | (with_reducible apply gAddL) | (with_reducible apply gSumL) | (with_reducible apply gMax0) | (with_reducible apply gMax2) | (with_reducible apply gMaxP) | (with_reducible apply gAllL) | (with_reducible apply gTupL) | (with_reducible apply gTupT) | (with_reducible apply gListT) | (with_reducible apply gLenT) | (with_reducible apply gIsiT) | (with_reducible apply gIsNT) | (with_reducible apply gEqL0) | (with_reducible apply gNeL0) | (with_reducible apply gMul_ok) | (with_reducible apply gAdd_ok) | (with_reducible apply gSub_ok) | (with_reducible apply gEqI) | (with_reducible apply gNeI) | (with_reducible apply gLt_ok) | (with_reducible apply gLe_ok) | (with_reducible apply gGt_ok) | (with_reducible apply gGe_ok) | (with_reducible apply gInt_ok) | (with_reducible apply mulB_ok) | (with_reducible apply lim_ok) | ((with_reducible apply ite_t); (first | assumption | (exact decide_eq_true (by omega)) | (exact decide_eq_false (by omega)) | (simp only [Bool.not_eq_true', Bool.not_eq_false', Bool.not_not, decide_eq_false_iff_not, decide_eq_true_eq, Bool.false_eq_true, if_true, if_false, Bool.not_false, Bool.not_true, reduceIte]; omega) | exact rfl)) | ((with_reducible apply ite_f); (first | assumption | (exact decide_eq_true (by omega)) | (exact decide_eq_false (by omega)) | (simp only [Bool.not_eq_true', Bool.not_eq_false', Bool.not_not, decide_eq_false_iff_not, decide_eq_true_eq, Bool.false_eq_true, if_true, if_false, Bool.not_false, Bool.not_true, reduceIte]; omega) | exact rfl)) | (simp only [List.set_cons_succ, List.set_cons_zero, wipeD]; exact rfl) | (simp only [List.length_cons, List.length_nil, List.length_map, List.length_append]; omega) | (exact rfl) | (omega)))
  have fin : ∀ (mu2 : Mu) (great2 : List Int) (rest2 : Int), At b mu2 great2 cells rest2 turn → (∀ g ∈ great2, 0 ≤ g) → 0 ≤ rest2 → Fr b mu mu2 → (mIfS (mTAnd (mTest (mOp (gEq false) (mOp gIx (mVar 0) (mC (.str "rest"))) (mC (.int 0)))) (mTest (mOp (gEq true) (mOp gIx (mVar 0) (mC (.str "great"))) (mLst false mNil))))
  (mSet (mMet isLst gPopAt (mOp gIx (mVar 0) (mC (.str "great"))) (mCons (mC (.int 0)) mNil)) (mVar 0) (mC (.str "rest")))
  mSkip) [some (.cell (b + 1)), some (.int many), none] mu = .nx [some (.cell (b + 1)), some (.int many), none] mu2 → ∃ (r : Int) (mu' : Mu), dTake [(.cell (b + 1)), .int many] mu = .ok (.int r) mu' ∧ 0 ≤ r ∧ r < many ∧ Draw b (n + 1) mu' ∧ Fr b mu mu' := by
    intro mu2 great2 rest2 a2 hg2 hr2 fr hx
    obtain ⟨r, mu', e, k⟩ := part2 mu2 great2 rest2 a2 hg2 hr2 fr
    refine ⟨r, mu', denF_rt (env0 := [some (.cell (b + 1)), some (.int many), none]) rfl ?_, k⟩
    unfold m_take
    exact mSeq_eq hx (seqNx e)
  have ne := great_ne a
  by_cases e : rest = 0
  · cases hgr : great with
    | nil =>
      refine fin mu great rest a hg hr Fr.rfl ?_
      rw [hgr] at ne
      have ne : gEq true mu (.cell b) (.lst []) = some (.bl false, mu) := ne
      (repeat' (first | (with_reducible assumption) | (with_reducible exact a.ixRest) | (with_reducible exact a.ixGreat) | (with_reducible exact ne) | (with_reducible apply mVar_ok) | (with_reducible apply mC_ok) | (with_reducible apply mOp_ok) | (with_reducible apply mTest_ok) | (with_reducible apply mCons_ok) | (with_reducible apply mNil_ok) | (with_reducible apply mCall_ok) | (with_reducible apply mCallF_ok) | (with_reducible apply mSeq_eq) | (with_reducible apply seqNx) | (with_reducible apply seqRt) | (with_reducible apply mSkip_ok) | (with_reducible apply mRet_ok) | (with_reducible apply mRetN_ok) | (with_reducible apply mExpr_ok) | (with_reducible apply mAsg_ok) | (with_reducible apply mGName_ok) | (with_reducible apply mIfS_ok) | (with_reducible apply mTAnd_ok) | (with_reducible apply mTOr_ok) | (with_reducible apply mTNot_ok) | (with_reducible apply mAnd_ok) | (with_reducible apply mOr_ok) | (with_reducible apply mNot_ok) | (with_reducible apply mIf_ok) | (with_reducible apply mChain_ok) | (with_reducible apply bindO_ok) | (with_reducible apply mTup_ok) | (with_reducible apply mLst_ok) | (with_reducible apply mLst_okC) | (with_reducible apply mUn_ok) | (with_reducible apply mMet_ok) | (with_reducible apply mMetC_ok) | (with_reducible apply mGTup_ok) | (with_reducible apply mGCons_ok) | (with_reducible apply mGNil_ok) | (with_reducible apply mPar_ok) | (with_reducible apply mPar3_ok) | (with_reducible apply mSet_ok) | (with_reducible apply mSeqI_ok) | (with_reducible apply mRange1_ok) | (with_reducible apply mZip_ok) | (with_reducible apply mFrz_ok) | (with_reducible apply mFor_ok) | (with_reducible apply mCallV_ok) | (with_reducible apply gAddL) | (with_reducible apply gSumL) | (with_reducible apply gMax0) | (with_reducible apply gMax2) | (with_reducible apply gMaxP) | (with_reducible apply gAllL) | (with_reducible apply gTupL) | (with_reducible apply gTupT) | (with_reducible apply gListT) | (with_reducible apply gLenT) | (with_reducible apply gIsiT) | (with_reducible apply gIsNT) | (with_reducible apply gEqL0) | (with_reducible apply gNeL0) | (with_reducible apply gMul_ok) | (with_reducible apply gAdd_ok) | (with_reducible apply gSub_ok) | (with_reducible apply gEqI) | (with_reducible apply gNeI) | (with_reducible apply gLt_ok) | (with_reducible apply gLe_ok) | (with_reducible apply gGt_ok) | (with_reducible apply gGe_ok) | (with_reducible apply gInt_ok) | (with_reducible apply mulB_ok) | (with_reducible apply lim_ok) | ((with_reducible apply ite_t); (first | assumption | (exact decide_eq_true (by omega)) | (exact decide_eq_false (by omega)) | (simp only [Bool.not_eq_true', Bool.not_eq_false', Bool.not_not, decide_eq_false_iff_not, decide_eq_true_eq, Bool.false_eq_true, if_true, if_false, Bool.not_false, Bool.not_true, reduceIte]; omega) | exact rfl)) | ((with_reducible apply ite_f); (first | assumption | (exact decide_eq_true (by omega)) | (exact decide_eq_false (by omega)) | (simp only [Bool.not_eq_true', Bool.not_eq_false', Bool.not_not, decide_eq_false_iff_not, decide_eq_true_eq, Bool.false_eq_true, if_true, if_false, Bool.not_false, Bool.not_true, reduceIte]; omega) | exact rfl)) | (simp only [List.set_cons_succ, List.set_cons_zero, wipeD]; exact rfl) | (simp only [List.length_cons, List.length_nil, List.length_map, List.length_append]; omega) | (exact rfl) | (omega)))
    | cons g gs =>
      have a1 := a.pop gs
      have a2 := a1.next g turn
      have hs := a1.setRest g
      refine fin _ gs g a2 (fun x hx => hg x (by rw [hgr]; exact List.mem_cons_of_mem _ hx)) (hg g (by rw [hgr]; exact List.mem_cons_self)) ((Fr.set (by omega)).trans (Fr.set (by omega))) ?_
      rw [hgr] at ne
      have ne : gEq true mu (.cell b) (.lst []) = some (.bl true, mu) := ne
      have hp := pop_ok a hgr
      have hi := isLst0 a
      (repeat' (first | (with_reducible assumption) | (with_reducible exact a.ixRest) | (with_reducible exact a.ixGreat) | (with_reducible exact ne) | (with_reducible exact hp) | (with_reducible exact hs) | (with_reducible apply mVar_ok) | (with_reducible apply mC_ok) | (with_reducible apply mOp_ok) | (with_reducible apply mTest_ok) | (with_reducible apply mCons_ok) | (with_reducible apply mNil_ok) | (with_reducible apply mCall_ok) | (with_reducible apply mCallF_ok) | (with_reducible apply mSeq_eq) | (with_reducible apply seqNx) | (with_reducible apply seqRt) | (with_reducible apply mSkip_ok) | (with_reducible apply mRet_ok) | (with_reducible apply mRetN_ok) | (with_reducible apply mExpr_ok) | (with_reducible apply mAsg_ok) | (with_reducible apply mGName_ok) | (with_reducible apply mIfS_ok) | (with_reducible apply mTAnd_ok) | (with_reducible apply mTOr_ok) | (with_reducible apply mTNot_ok) | (with_reducible apply mAnd_ok) | (with_reducible apply mOr_ok) | (with_reducible apply mNot_ok) | (with_reducible apply mIf_ok) | (with_reducible apply mChain_ok) | (with_reducible apply bindO_ok) | (with_reducible apply mTup_ok) | (with_reducible apply mLst_ok) | (with_reducible apply mLst_okC) | (with_reducible apply mUn_ok) | (with_reducible apply mMet_ok) | (with_reducible apply mMetC_ok) | (with_reducible apply mGTup_ok) | (with_reducible apply mGCons_ok) | (with_reducible apply mGNil_ok) | (with_reducible apply mPar_ok) | (with_reducible apply mPar3_ok) | (with_reducible apply mSet_ok) | (with_reducible apply mSeqI_ok) | (with_reducible apply mRange1_ok) | (with_reducible apply mZip_ok) | (with_reducible apply mFrz_ok) | (with_reducible apply mFor_ok) | (with_reducible apply mCallV_ok) | (with_reducible apply gAddL) | (with_reducible apply gSumL) | (with_reducible apply gMax0) | (with_reducible apply gMax2) | (with_reducible apply gMaxP) | (with_reducible apply gAllL) | (with_reducible apply gTupL) | (with_reducible apply gTupT) | (with_reducible apply gListT) | (with_reducible apply gLenT) | (with_reducible apply gIsiT) | (with_reducible apply gIsNT) | (with_reducible apply gEqL0) | (with_reducible apply gNeL0) | (with_reducible apply gMul_ok) | (with_reducible apply gAdd_ok) | (with_reducible apply gSub_ok) | (with_reducible apply gEqI) | (with_reducible apply gNeI) | (with_reducible apply gLt_ok) | (with_reducible apply gLe_ok) | (with_reducible apply gGt_ok) | (with_reducible apply gGe_ok) | (with_reducible apply gInt_ok) | (with_reducible apply mulB_ok) | (with_reducible apply lim_ok) | ((with_reducible apply ite_t); (first | assumption | (exact decide_eq_true (by omega)) | (exact decide_eq_false (by omega)) | (simp only [Bool.not_eq_true', Bool.not_eq_false', Bool.not_not, decide_eq_false_iff_not, decide_eq_true_eq, Bool.false_eq_true, if_true, if_false, Bool.not_false, Bool.not_true, reduceIte]; omega) | exact rfl)) | ((with_reducible apply ite_f); (first | assumption | (exact decide_eq_true (by omega)) | (exact decide_eq_false (by omega)) | (simp only [Bool.not_eq_true', Bool.not_eq_false', Bool.not_not, decide_eq_false_iff_not, decide_eq_true_eq, Bool.false_eq_true, if_true, if_false, Bool.not_false, Bool.not_true, reduceIte]; omega) | exact rfl)) | (simp only [List.set_cons_succ, List.set_cons_zero, wipeD]; exact rfl) | (simp only [List.length_cons, List.length_nil, List.length_map, List.length_append]; omega) | (exact rfl) | (omega)))
  · refine fin mu great rest a hg hr Fr.rfl ?_
    (repeat' (first | (with_reducible assumption) | (with_reducible exact a.ixRest) | (with_reducible apply mVar_ok) | (with_reducible apply mC_ok) | (with_reducible apply mOp_ok) | (with_reducible apply mTest_ok) | (with_reducible apply mCons_ok) | (with_reducible apply mNil_ok) | (with_reducible apply mCall_ok) | (with_reducible apply mCallF_ok) | (with_reducible apply mSeq_eq) | (with_reducible apply seqNx) | (with_reducible apply seqRt) | (with_reducible apply mSkip_ok) | (with_reducible apply mRet_ok) | (with_reducible apply mRetN_ok) | (with_reducible apply mExpr_ok) | (with_reducible apply mAsg_ok) | (with_reducible apply mGName_ok) | (with_reducible apply mIfS_ok) | (with_reducible apply mTAnd_ok) | (with_reducible apply mTOr_ok) | (with_reducible apply mTNot_ok) | (with_reducible apply mAnd_ok) | (with_reducible apply mOr_ok) | (with_reducible apply mNot_ok) | (with_reducible apply mIf_ok) | (with_reducible apply mChain_ok) | (with_reducible apply bindO_ok) | (with_reducible apply mTup_ok) | (with_reducible apply mLst_ok) | (with_reducible apply mLst_okC) | (with_reducible apply mUn_ok) | (with_reducible apply mMet_ok) | (with_reducible apply mMetC_ok) | (with_reducible apply mGTup_ok) | (with_reducible apply mGCons_ok) | (with_reducible apply mGNil_ok) | (with_reducible apply mPar_ok) | (with_reducible apply mPar3_ok) | (with_reducible apply mSet_ok) | (with_reducible apply mSeqI_ok) | (with_reducible apply mRange1_ok) | (with_reducible apply mZip_ok) | (with_reducible apply mFrz_ok) | (with_reducible apply mFor_ok) | (with_reducible apply mCallV_ok) | (with_reducible apply gAddL) | (with_reducible apply gSumL) | (with_reducible apply gMax0) | (with_reducible apply gMax2) | (with_reducible apply gMaxP) | (with_reducible apply gAllL) | (with_reducible apply gTupL) | (with_reducible apply gTupT) | (with_reducible apply gListT) | (with_reducible apply gLenT) | (with_reducible apply gIsiT) | (with_reducible apply gIsNT) | (with_reducible apply gEqL0) | (with_reducible apply gNeL0) | (with_reducible apply gMul_ok) | (with_reducible apply gAdd_ok) | (with_reducible apply gSub_ok) | (with_reducible apply gEqI) | (with_reducible apply gNeI) | (with_reducible apply gLt_ok) | (with_reducible apply gLe_ok) | (with_reducible apply gGt_ok) | (with_reducible apply gGe_ok) | (with_reducible apply gInt_ok) | (with_reducible apply mulB_ok) | (with_reducible apply lim_ok) | ((with_reducible apply ite_t); (first | assumption | (exact decide_eq_true (by omega)) | (exact decide_eq_false (by omega)) | (simp only [Bool.not_eq_true', Bool.not_eq_false', Bool.not_not, decide_eq_false_iff_not, decide_eq_true_eq, Bool.false_eq_true, if_true, if_false, Bool.not_false, Bool.not_true, reduceIte]; omega) | exact rfl)) | ((with_reducible apply ite_f); (first | assumption | (exact decide_eq_true (by omega)) | (exact decide_eq_false (by omega)) | (simp only [Bool.not_eq_true', Bool.not_eq_false', Bool.not_not, decide_eq_false_iff_not, decide_eq_true_eq, Bool.false_eq_true, if_true, if_false, Bool.not_false, Bool.not_true, reduceIte]; omega) | exact rfl)) | (simp only [List.set_cons_succ, List.set_cons_zero, wipeD]; exact rfl) | (simp only [List.length_cons, List.length_nil, List.length_map, List.length_append]; omega) | (exact rfl) | (omega)))

theorem atI_ok {l : List D} {i : Int} (h0 : 0 ≤ i) (h1 : i < l.length) : ∃ d, d ∈ l ∧ l[i.toNat]? = some d ∧ atI l i = some d := by
  have hi : i.toNat < l.length := by omega
  refine ⟨l[i.toNat], List.getElem_mem hi, List.getElem?_eq_getElem hi, ?_⟩
  have := atI_nat (xs := l) (j := i.toNat) (v := l[i.toNat]) (List.getElem?_eq_getElem hi)
  rwa [Int.toNat_of_nonneg h0] at this
theorem log_len {n : Nat} (h : n ≤ 1000000) : ((n : Int)).natAbs.log2 < 9000 := by
  rw [Int.natAbs_natCast]
  by_cases e : n = 0
  · subst e; decide
  · exact Nat.lt_of_lt_of_le (m := 31) ((Nat.log2_lt e).mpr (by omega)) (by omega)
theorem pick_ok {b : Nat} {mu : Mu} {n : Nat} {ds : List D} (h : Draw b n mu) (hn : n ≤ 900000000) (h0 : 0 < ds.length) (hl : ds.length ≤ 1000000) :
    ∃ (d : D) (mu' : Mu), d ∈ ds ∧ dPick [(.cell (b + 1)), .lst ds] mu = .ok d mu' ∧ Draw b (n + 1) mu' ∧ Fr b mu mu' := by
  obtain ⟨r, mu', e, r0, r1, h', fr⟩ := take_ok (many := ds.length) h hn (by omega) (log_len hl)
  obtain ⟨d, hd, _, ha⟩ := atI_ok r0 r1
  refine ⟨d, mu', hd, denF_rt (env0 := [some (.cell (b + 1)), some (.lst ds)]) rfl ?_, h', fr⟩
  have hi : gIx mu' (.lst ds) (.int r) = some (d, mu') := by
    show (atI ds r).map _ = _
    rw [ha]; rfl
  have hlen : gLen mu [.lst ds] = some (.int ds.length, mu) := rfl
  unfold m_pick
  (repeat' (first | (with_reducible assumption) | (with_reducible exact e) | (with_reducible exact hi) | (with_reducible exact hlen) | (with_reducible apply mVar_ok) | (with_reducible apply mC_ok) | (with_reducible apply mOp_ok) | (with_reducible apply mTest_ok) | (with_reducible apply mCons_ok) | (with_reducible apply mNil_ok) | (with_reducible apply mCall_ok) | (with_reducible apply mCallF_ok) | (with_reducible apply mSeq_eq) | (with_reducible apply seqNx) | (with_reducible apply seqRt) | (with_reducible apply mSkip_ok) | (with_reducible apply mRet_ok) | (with_reducible apply mRetN_ok) | (with_reducible apply mExpr_ok) | (with_reducible apply mAsg_ok) | (with_reducible apply mGName_ok) | (with_reducible apply mIfS_ok) | (with_reducible apply mTAnd_ok) | (with_reducible apply mTOr_ok) | (with_reducible apply mTNot_ok) | (with_reducible apply mAnd_ok) | (with_reducible apply mOr_ok) | (with_reducible apply mNot_ok) | (with_reducible apply mIf_ok) | (with_reducible apply mChain_ok) | (with_reducible apply bindO_ok) | (with_reducible apply mTup_ok) | (with_reducible apply mLst_ok) | (with_reducible apply mLst_okC) | (with_reducible apply mUn_ok) | (with_reducible apply mMet_ok) | (with_reducible apply mMetC_ok) | (with_reducible apply mGTup_ok) | (with_reducible apply mGCons_ok) | (with_reducible apply mGNil_ok) | (with_reducible apply mPar_ok) | (with_reducible apply mPar3_ok) | (with_reducible apply mSet_ok) | (with_reducible apply mSeqI_ok) | (with_reducible apply mRange1_ok) | (with_reducible apply mZip_ok) | (with_reducible apply mFrz_ok) | (with_reducible apply mFor_ok) | (with_reducible apply mCallV_ok) | (with_reducible apply gAddL) | (with_reducible apply gSumL) | (with_reducible apply gMax0) | (with_reducible apply gMax2) | (with_reducible apply gMaxP) | (with_reducible apply gAllL) | (with_reducible apply gTupL) | (with_reducible apply gTupT) | (with_reducible apply gListT) | (with_reducible apply gLenT) | (with_reducible apply gIsiT) | (with_reducible apply gIsNT) | (with_reducible apply gEqL0) | (with_reducible apply gNeL0) | (with_reducible apply gMul_ok) | (with_reducible apply gAdd_ok) | (with_reducible apply gSub_ok) | (with_reducible apply gEqI) | (with_reducible apply gNeI) | (with_reducible apply gLt_ok) | (with_reducible apply gLe_ok) | (with_reducible apply gGt_ok) | (with_reducible apply gGe_ok) | (with_reducible apply gInt_ok) | (with_reducible apply mulB_ok) | (with_reducible apply lim_ok) | ((with_reducible apply ite_t); (first | assumption | (exact decide_eq_true (by omega)) | (exact decide_eq_false (by omega)) | (simp only [Bool.not_eq_true', Bool.not_eq_false', Bool.not_not, decide_eq_false_iff_not, decide_eq_true_eq, Bool.false_eq_true, if_true, if_false, Bool.not_false, Bool.not_true, reduceIte]; omega) | exact rfl)) | ((with_reducible apply ite_f); (first | assumption | (exact decide_eq_true (by omega)) | (exact decide_eq_false (by omega)) | (simp only [Bool.not_eq_true', Bool.not_eq_false', Bool.not_not, decide_eq_false_iff_not, decide_eq_true_eq, Bool.false_eq_true, if_true, if_false, Bool.not_false, Bool.not_true, reduceIte]; omega) | exact rfl)) | (simp only [List.set_cons_succ, List.set_cons_zero, wipeD]; exact rfl) | (simp only [List.length_cons, List.length_nil, List.length_map, List.length_append]; omega) | (exact rfl) | (omega)))
theorem pick_tup {b : Nat} {mu : Mu} {n : Nat} {ds : List D} (h : Draw b n mu) (hn : n ≤ 900000000) (h0 : 0 < ds.length) (hl : ds.length ≤ 1000000) :
    ∃ (d : D) (mu' : Mu), d ∈ ds ∧ dPick [(.cell (b + 1)), .tup ds] mu = .ok d mu' ∧ Draw b (n + 1) mu' ∧ Fr b mu mu' := by
  obtain ⟨r, mu', e, r0, r1, h', fr⟩ := take_ok (many := ds.length) h hn (by omega) (log_len hl)
  obtain ⟨d, hd, _, ha⟩ := atI_ok r0 r1
  refine ⟨d, mu', hd, denF_rt (env0 := [some (.cell (b + 1)), some (.tup ds)]) rfl ?_, h', fr⟩
  have hi : gIx mu' (.tup ds) (.int r) = some (d, mu') := by
    show (atI ds r).map _ = _
    rw [ha]; rfl
  have hlen : gLen mu [.tup ds] = some (.int ds.length, mu) := rfl
  unfold m_pick
  (repeat' (first | (with_reducible assumption) | (with_reducible exact e) | (with_reducible exact hi) | (with_reducible exact hlen) | (with_reducible apply mVar_ok) | (with_reducible apply mC_ok) | (with_reducible apply mOp_ok) | (with_reducible apply mTest_ok) | (with_reducible apply mCons_ok) | (with_reducible apply mNil_ok) | (with_reducible apply mCall_ok) | (with_reducible apply mCallF_ok) | (with_reducible apply mSeq_eq) | (with_reducible apply seqNx) | (with_reducible apply seqRt) | (with_reducible apply mSkip_ok) | (with_reducible apply mRet_ok) | (with_reducible apply mRetN_ok) | (with_reducible apply mExpr_ok) | (with_reducible apply mAsg_ok) | (with_reducible apply mGName_ok) | (with_reducible apply mIfS_ok) | (with_reducible apply mTAnd_ok) | (with_reducible apply mTOr_ok) | (with_reducible apply mTNot_ok) | (with_reducible apply mAnd_ok) | (with_reducible apply mOr_ok) | (with_reducible apply mNot_ok) | (with_reducible apply mIf_ok) | (with_reducible apply mChain_ok) | (with_reducible apply bindO_ok) | (with_reducible apply mTup_ok) | (with_reducible apply mLst_ok) | (with_reducible apply mLst_okC) | (with_reducible apply mUn_ok) | (with_reducible apply mMet_ok) | (with_reducible apply mMetC_ok) | (with_reducible apply mGTup_ok) | (with_reducible apply mGCons_ok) | (with_reducible apply mGNil_ok) | (with_reducible apply mPar_ok) | (with_reducible apply mPar3_ok) | (with_reducible apply mSet_ok) | (with_reducible apply mSeqI_ok) | (with_reducible apply mRange1_ok) | (with_reducible apply mZip_ok) | (with_reducible apply mFrz_ok) | (with_reducible apply mFor_ok) | (with_reducible apply mCallV_ok) | (with_reducible apply gAddL) | (with_reducible apply gSumL) | (with_reducible apply gMax0) | (with_reducible apply gMax2) | (with_reducible apply gMaxP) | (with_reducible apply gAllL) | (with_reducible apply gTupL) | (with_reducible apply gTupT) | (with_reducible apply gListT) | (with_reducible apply gLenT) | (with_reducible apply gIsiT) | (with_reducible apply gIsNT) | (with_reducible apply gEqL0) | (with_reducible apply gNeL0) | (with_reducible apply gMul_ok) | (with_reducible apply gAdd_ok) | (with_reducible apply gSub_ok) | (with_reducible apply gEqI) | (with_reducible apply gNeI) | (with_reducible apply gLt_ok) | (with_reducible apply gLe_ok) | (with_reducible apply gGt_ok) | (with_reducible apply gGe_ok) | (with_reducible apply gInt_ok) | (with_reducible apply mulB_ok) | (with_reducible apply lim_ok) | ((with_reducible apply ite_t); (first | assumption | (exact decide_eq_true (by omega)) | (exact decide_eq_false (by omega)) | (simp only [Bool.not_eq_true', Bool.not_eq_false', Bool.not_not, decide_eq_false_iff_not, decide_eq_true_eq, Bool.false_eq_true, if_true, if_false, Bool.not_false, Bool.not_true, reduceIte]; omega) | exact rfl)) | ((with_reducible apply ite_f); (first | assumption | (exact decide_eq_true (by omega)) | (exact decide_eq_false (by omega)) | (simp only [Bool.not_eq_true', Bool.not_eq_false', Bool.not_not, decide_eq_false_iff_not, decide_eq_true_eq, Bool.false_eq_true, if_true, if_false, Bool.not_false, Bool.not_true, reduceIte]; omega) | exact rfl)) | (simp only [List.set_cons_succ, List.set_cons_zero, wipeD]; exact rfl) | (simp only [List.length_cons, List.length_nil, List.length_map, List.length_append]; omega) | (exact rfl) | (omega)))
theorem abs_ok {mu : Mu} {i : Int} : g1I (fun i => if i < 0 then -i else i) mu [.int i] = some (.int (if i < 0 then -i else i), mu) := rfl
theorem begin_ok {mu0 : Mu} {ns : List Int} (hl : ns.length ≤ 63) : ∃ mu, dBegin [scriptD ns] mu0 = .ok (.cell (mu0.length + 1)) mu ∧ Draw mu0.length 0 mu ∧ ∃ c d, mu = mu0 ++ [c, d] := by
  let f : Int → Int := fun i => if i < 0 then -i else i
  have f0 : ∀ i, 0 ≤ f i := fun i => by show 0 ≤ (if i < 0 then -i else i); split <;> omega
  have hp : ∀ mu : Mu, gPow mu (.int 10) (.int 18) = some (.int (10 ^ 18), mu) := fun mu => gPow_ok (j := 18) (by have := bits31 (x := 10) (by omega) (by omega); omega)
  let great := ((ns.filter fun i => decide (10 ^ 18 ≤ f i)).map fun i => f i - 10 ^ 18)
  have e1 : q_begin1 [some (scriptD ns), none, none] mu0 = .ok (.cell mu0.length) (mu0 ++ [.lst (great.map D.int)]) := by
    unfold q_begin1
    rw [mLc_mapC (enc := D.int) (p := fun i => decide (10 ^ 18 ≤ f i)) (f := fun i => .int (f i - 10 ^ 18)) ns ?_ ?_ (by omega)]
    · rw [List.map_map]; rfl
    · have : scriptD ns = .rl (ns.map D.int) := rfl
      rw [this]
      (repeat' (first | (with_reducible assumption) | (with_reducible apply mVar_ok) | (with_reducible apply mC_ok) | (with_reducible apply mOp_ok) | (with_reducible apply mTest_ok) | (with_reducible apply mCons_ok) | (with_reducible apply mNil_ok) | (with_reducible apply mCall_ok) | (with_reducible apply mCallF_ok) | (with_reducible apply mSeq_eq) | (with_reducible apply seqNx) | (with_reducible apply seqRt) | (with_reducible apply mSkip_ok) | (with_reducible apply mRet_ok) | (with_reducible apply mRetN_ok) | (with_reducible apply mExpr_ok) | (with_reducible apply mAsg_ok) | (with_reducible apply mGName_ok) | (with_reducible apply mIfS_ok) | (with_reducible apply mTAnd_ok) | (with_reducible apply mTOr_ok) | (with_reducible apply mTNot_ok) | (with_reducible apply mAnd_ok) | (with_reducible apply mOr_ok) | (with_reducible apply mNot_ok) | (with_reducible apply mIf_ok) | (with_reducible apply mChain_ok) | (with_reducible apply bindO_ok) | (with_reducible apply mTup_ok) | (with_reducible apply mLst_ok) | (with_reducible apply mLst_okC) | (with_reducible apply mUn_ok) | (with_reducible apply mMet_ok) | (with_reducible apply mMetC_ok) | (with_reducible apply mGTup_ok) | (with_reducible apply mGCons_ok) | (with_reducible apply mGNil_ok) | (with_reducible apply mPar_ok) | (with_reducible apply mPar3_ok) | (with_reducible apply mSet_ok) | (with_reducible apply mSeqI_ok) | (with_reducible apply mRange1_ok) | (with_reducible apply mZip_ok) | (with_reducible apply mFrz_ok) | (with_reducible apply mFor_ok) | (with_reducible apply mCallV_ok) | (with_reducible apply gAddL) | (with_reducible apply gSumL) | (with_reducible apply gMax0) | (with_reducible apply gMax2) | (with_reducible apply gMaxP) | (with_reducible apply gAllL) | (with_reducible apply gTupL) | (with_reducible apply gTupT) | (with_reducible apply gListT) | (with_reducible apply gLenT) | (with_reducible apply gIsiT) | (with_reducible apply gIsNT) | (with_reducible apply gEqL0) | (with_reducible apply gNeL0) | (with_reducible apply gMul_ok) | (with_reducible apply gAdd_ok) | (with_reducible apply gSub_ok) | (with_reducible apply gEqI) | (with_reducible apply gNeI) | (with_reducible apply gLt_ok) | (with_reducible apply gLe_ok) | (with_reducible apply gGt_ok) | (with_reducible apply gGe_ok) | (with_reducible apply gInt_ok) | (with_reducible apply mulB_ok) | (with_reducible apply lim_ok) | ((with_reducible apply ite_t); (first | assumption | (exact decide_eq_true (by omega)) | (exact decide_eq_false (by omega)) | (simp only [Bool.not_eq_true', Bool.not_eq_false', Bool.not_not, decide_eq_false_iff_not, decide_eq_true_eq, Bool.false_eq_true, if_true, if_false, Bool.not_false, Bool.not_true, reduceIte]; omega) | exact rfl)) | ((with_reducible apply ite_f); (first | assumption | (exact decide_eq_true (by omega)) | (exact decide_eq_false (by omega)) | (simp only [Bool.not_eq_true', Bool.not_eq_false', Bool.not_not, decide_eq_false_iff_not, decide_eq_true_eq, Bool.false_eq_true, if_true, if_false, Bool.not_false, Bool.not_true, reduceIte]; omega) | exact rfl)) | (simp only [List.set_cons_succ, List.set_cons_zero, wipeD]; exact rfl) | (simp only [List.length_cons, List.length_nil, List.length_map, List.length_append]; omega) | (exact rfl) | (omega)))
    · intro i hi
      refine ⟨[some (scriptD ns), none, some (.int i)], rfl, ?_, fun _ => ?_⟩
      · (repeat' (first | (with_reducible assumption) | (with_reducible exact abs_ok) | (with_reducible exact hp _) | (with_reducible apply mVar_ok) | (with_reducible apply mC_ok) | (with_reducible apply mOp_ok) | (with_reducible apply mTest_ok) | (with_reducible apply mCons_ok) | (with_reducible apply mNil_ok) | (with_reducible apply mCall_ok) | (with_reducible apply mCallF_ok) | (with_reducible apply mSeq_eq) | (with_reducible apply seqNx) | (with_reducible apply seqRt) | (with_reducible apply mSkip_ok) | (with_reducible apply mRet_ok) | (with_reducible apply mRetN_ok) | (with_reducible apply mExpr_ok) | (with_reducible apply mAsg_ok) | (with_reducible apply mGName_ok) | (with_reducible apply mIfS_ok) | (with_reducible apply mTAnd_ok) | (with_reducible apply mTOr_ok) | (with_reducible apply mTNot_ok) | (with_reducible apply mAnd_ok) | (with_reducible apply mOr_ok) | (with_reducible apply mNot_ok) | (with_reducible apply mIf_ok) | (with_reducible apply mChain_ok) | (with_reducible apply bindO_ok) | (with_reducible apply mTup_ok) | (with_reducible apply mLst_ok) | (with_reducible apply mLst_okC) | (with_reducible apply mUn_ok) | (with_reducible apply mMet_ok) | (with_reducible apply mMetC_ok) | (with_reducible apply mGTup_ok) | (with_reducible apply mGCons_ok) | (with_reducible apply mGNil_ok) | (with_reducible apply mPar_ok) | (with_reducible apply mPar3_ok) | (with_reducible apply mSet_ok) | (with_reducible apply mSeqI_ok) | (with_reducible apply mRange1_ok) | (with_reducible apply mZip_ok) | (with_reducible apply mFrz_ok) | (with_reducible apply mFor_ok) | (with_reducible apply mCallV_ok) | (with_reducible apply gAddL) | (with_reducible apply gSumL) | (with_reducible apply gMax0) | (with_reducible apply gMax2) | (with_reducible apply gMaxP) | (with_reducible apply gAllL) | (with_reducible apply gTupL) | (with_reducible apply gTupT) | (with_reducible apply gListT) | (with_reducible apply gLenT) | (with_reducible apply gIsiT) | (with_reducible apply gIsNT) | (with_reducible apply gEqL0) | (with_reducible apply gNeL0) | (with_reducible apply gMul_ok) | (with_reducible apply gAdd_ok) | (with_reducible apply gSub_ok) | (with_reducible apply gEqI) | (with_reducible apply gNeI) | (with_reducible apply gLt_ok) | (with_reducible apply gLe_ok) | (with_reducible apply gGt_ok) | (with_reducible apply gGe_ok) | (with_reducible apply gInt_ok) | (with_reducible apply mulB_ok) | (with_reducible apply lim_ok) | ((with_reducible apply ite_t); (first | assumption | (exact decide_eq_true (by omega)) | (exact decide_eq_false (by omega)) | (simp only [Bool.not_eq_true', Bool.not_eq_false', Bool.not_not, decide_eq_false_iff_not, decide_eq_true_eq, Bool.false_eq_true, if_true, if_false, Bool.not_false, Bool.not_true, reduceIte]; omega) | exact rfl)) | ((with_reducible apply ite_f); (first | assumption | (exact decide_eq_true (by omega)) | (exact decide_eq_false (by omega)) | (simp only [Bool.not_eq_true', Bool.not_eq_false', Bool.not_not, decide_eq_false_iff_not, decide_eq_true_eq, Bool.false_eq_true, if_true, if_false, Bool.not_false, Bool.not_true, reduceIte]; omega) | exact rfl)) | (simp only [List.set_cons_succ, List.set_cons_zero, wipeD]; exact rfl) | (simp only [List.length_cons, List.length_nil, List.length_map, List.length_append]; omega) | (exact rfl) | (omega)))
      · (repeat' (first | (with_reducible assumption) | (with_reducible exact abs_ok) | (with_reducible exact hp _) | (with_reducible apply mVar_ok) | (with_reducible apply mC_ok) | (with_reducible apply mOp_ok) | (with_reducible apply mTest_ok) | (with_reducible apply mCons_ok) | (with_reducible apply mNil_ok) | (with_reducible apply mCall_ok) | (with_reducible apply mCallF_ok) | (with_reducible apply mSeq_eq) | (with_reducible apply seqNx) | (with_reducible apply seqRt) | (with_reducible apply mSkip_ok) | (with_reducible apply mRet_ok) | (with_reducible apply mRetN_ok) | (with_reducible apply mExpr_ok) | (with_reducible apply mAsg_ok) | (with_reducible apply mGName_ok) | (with_reducible apply mIfS_ok) | (with_reducible apply mTAnd_ok) | (with_reducible apply mTOr_ok) | (with_reducible apply mTNot_ok) | (with_reducible apply mAnd_ok) | (with_reducible apply mOr_ok) | (with_reducible apply mNot_ok) | (with_reducible apply mIf_ok) | (with_reducible apply mChain_ok) | (with_reducible apply bindO_ok) | (with_reducible apply mTup_ok) | (with_reducible apply mLst_ok) | (with_reducible apply mLst_okC) | (with_reducible apply mUn_ok) | (with_reducible apply mMet_ok) | (with_reducible apply mMetC_ok) | (with_reducible apply mGTup_ok) | (with_reducible apply mGCons_ok) | (with_reducible apply mGNil_ok) | (with_reducible apply mPar_ok) | (with_reducible apply mPar3_ok) | (with_reducible apply mSet_ok) | (with_reducible apply mSeqI_ok) | (with_reducible apply mRange1_ok) | (with_reducible apply mZip_ok) | (with_reducible apply mFrz_ok) | (with_reducible apply mFor_ok) | (with_reducible apply mCallV_ok) | (with_reducible apply gAddL) | (with_reducible apply gSumL) | (with_reducible apply gMax0) | (with_reducible apply gMax2) | (with_reducible apply gMaxP) | (with_reducible apply gAllL) | (with_reducible apply gTupL) | (with_reducible apply gTupT) | (with_reducible apply gListT) | (with_reducible apply gLenT) | (with_reducible apply gIsiT) | (with_reducible apply gIsNT) | (with_reducible apply gEqL0) | (with_reducible apply gNeL0) | (with_reducible apply gMul_ok) | (with_reducible apply gAdd_ok) | (with_reducible apply gSub_ok) | (with_reducible apply gEqI) | (with_reducible apply gNeI) | (with_reducible apply gLt_ok) | (with_reducible apply gLe_ok) | (with_reducible apply gGt_ok) | (with_reducible apply gGe_ok) | (with_reducible apply gInt_ok) | (with_reducible apply mulB_ok) | (with_reducible apply lim_ok) | ((with_reducible apply ite_t); (first | assumption | (exact decide_eq_true (by omega)) | (exact decide_eq_false (by omega)) | (simp only [Bool.not_eq_true', Bool.not_eq_false', Bool.not_not, decide_eq_false_iff_not, decide_eq_true_eq, Bool.false_eq_true, if_true, if_false, Bool.not_false, Bool.not_true, reduceIte]; omega) | exact rfl)) | ((with_reducible apply ite_f); (first | assumption | (exact decide_eq_true (by omega)) | (exact decide_eq_false (by omega)) | (simp only [Bool.not_eq_true', Bool.not_eq_false', Bool.not_not, decide_eq_false_iff_not, decide_eq_true_eq, Bool.false_eq_true, if_true, if_false, Bool.not_false, Bool.not_true, reduceIte]; omega) | exact rfl)) | (simp only [List.set_cons_succ, List.set_cons_zero, wipeD]; exact rfl) | (simp only [List.length_cons, List.length_nil, List.length_map, List.length_append]; omega) | (exact rfl) | (omega)))
  have e2 : ∀ mu : Mu, ∀ x, q_begin2 [some (scriptD ns), x, none] mu = .ok (.lst ((ns.map f).map D.int)) mu := fun mu x => by
    unfold q_begin2
    rw [mLc_map (enc := D.int) (f := fun i => .int (f i)) ns ?_ ?_ (by omega)]
    · rw [List.map_map]; rfl
    · have : scriptD ns = .rl (ns.map D.int) := rfl
      rw [this]
      (repeat' (first | (with_reducible assumption) | (with_reducible apply mVar_ok) | (with_reducible apply mC_ok) | (with_reducible apply mOp_ok) | (with_reducible apply mTest_ok) | (with_reducible apply mCons_ok) | (with_reducible apply mNil_ok) | (with_reducible apply mCall_ok) | (with_reducible apply mCallF_ok) | (with_reducible apply mSeq_eq) | (with_reducible apply seqNx) | (with_reducible apply seqRt) | (with_reducible apply mSkip_ok) | (with_reducible apply mRet_ok) | (with_reducible apply mRetN_ok) | (with_reducible apply mExpr_ok) | (with_reducible apply mAsg_ok) | (with_reducible apply mGName_ok) | (with_reducible apply mIfS_ok) | (with_reducible apply mTAnd_ok) | (with_reducible apply mTOr_ok) | (with_reducible apply mTNot_ok) | (with_reducible apply mAnd_ok) | (with_reducible apply mOr_ok) | (with_reducible apply mNot_ok) | (with_reducible apply mIf_ok) | (with_reducible apply mChain_ok) | (with_reducible apply bindO_ok) | (with_reducible apply mTup_ok) | (with_reducible apply mLst_ok) | (with_reducible apply mLst_okC) | (with_reducible apply mUn_ok) | (with_reducible apply mMet_ok) | (with_reducible apply mMetC_ok) | (with_reducible apply mGTup_ok) | (with_reducible apply mGCons_ok) | (with_reducible apply mGNil_ok) | (with_reducible apply mPar_ok) | (with_reducible apply mPar3_ok) | (with_reducible apply mSet_ok) | (with_reducible apply mSeqI_ok) | (with_reducible apply mRange1_ok) | (with_reducible apply mZip_ok) | (with_reducible apply mFrz_ok) | (with_reducible apply mFor_ok) | (with_reducible apply mCallV_ok) | (with_reducible apply gAddL) | (with_reducible apply gSumL) | (with_reducible apply gMax0) | (with_reducible apply gMax2) | (with_reducible apply gMaxP) | (with_reducible apply gAllL) | (with_reducible apply gTupL) | (with_reducible apply gTupT) | (with_reducible apply gListT) | (with_reducible apply gLenT) | (with_reducible apply gIsiT) | (with_reducible apply gIsNT) | (with_reducible apply gEqL0) | (with_reducible apply gNeL0) | (with_reducible apply gMul_ok) | (with_reducible apply gAdd_ok) | (with_reducible apply gSub_ok) | (with_reducible apply gEqI) | (with_reducible apply gNeI) | (with_reducible apply gLt_ok) | (with_reducible apply gLe_ok) | (with_reducible apply gGt_ok) | (with_reducible apply gGe_ok) | (with_reducible apply gInt_ok) | (with_reducible apply mulB_ok) | (with_reducible apply lim_ok) | ((with_reducible apply ite_t); (first | assumption | (exact decide_eq_true (by omega)) | (exact decide_eq_false (by omega)) | (simp only [Bool.not_eq_true', Bool.not_eq_false', Bool.not_not, decide_eq_false_iff_not, decide_eq_true_eq, Bool.false_eq_true, if_true, if_false, Bool.not_false, Bool.not_true, reduceIte]; omega) | exact rfl)) | ((with_reducible apply ite_f); (first | assumption | (exact decide_eq_true (by omega)) | (exact decide_eq_false (by omega)) | (simp only [Bool.not_eq_true', Bool.not_eq_false', Bool.not_not, decide_eq_false_iff_not, decide_eq_true_eq, Bool.false_eq_true, if_true, if_false, Bool.not_false, Bool.not_true, reduceIte]; omega) | exact rfl)) | (simp only [List.set_cons_succ, List.set_cons_zero, wipeD]; exact rfl) | (simp only [List.length_cons, List.length_nil, List.length_map, List.length_append]; omega) | (exact rfl) | (omega)))
    · intro i hi
      refine ⟨[some (scriptD ns), x, some (.int i)], rfl, rfl, ?_⟩
      (repeat' (first | (with_reducible assumption) | (with_reducible exact abs_ok) | (with_reducible apply mVar_ok) | (with_reducible apply mC_ok) | (with_reducible apply mOp_ok) | (with_reducible apply mTest_ok) | (with_reducible apply mCons_ok) | (with_reducible apply mNil_ok) | (with_reducible apply mCall_ok) | (with_reducible apply mCallF_ok) | (with_reducible apply mSeq_eq) | (with_reducible apply seqNx) | (with_reducible apply seqRt) | (with_reducible apply mSkip_ok) | (with_reducible apply mRet_ok) | (with_reducible apply mRetN_ok) | (with_reducible apply mExpr_ok) | (with_reducible apply mAsg_ok) | (with_reducible apply mGName_ok) | (with_reducible apply mIfS_ok) | (with_reducible apply mTAnd_ok) | (with_reducible apply mTOr_ok) | (with_reducible apply mTNot_ok) | (with_reducible apply mAnd_ok) | (with_reducible apply mOr_ok) | (with_reducible apply mNot_ok) | (with_reducible apply mIf_ok) | (with_reducible apply mChain_ok) | (with_reducible apply bindO_ok) | (with_reducible apply mTup_ok) | (with_reducible apply mLst_ok) | (with_reducible apply mLst_okC) | (with_reducible apply mUn_ok) | (with_reducible apply mMet_ok) | (with_reducible apply mMetC_ok) | (with_reducible apply mGTup_ok) | (with_reducible apply mGCons_ok) | (with_reducible apply mGNil_ok) | (with_reducible apply mPar_ok) | (with_reducible apply mPar3_ok) | (with_reducible apply mSet_ok) | (with_reducible apply mSeqI_ok) | (with_reducible apply mRange1_ok) | (with_reducible apply mZip_ok) | (with_reducible apply mFrz_ok) | (with_reducible apply mFor_ok) | (with_reducible apply mCallV_ok) | (with_reducible apply gAddL) | (with_reducible apply gSumL) | (with_reducible apply gMax0) | (with_reducible apply gMax2) | (with_reducible apply gMaxP) | (with_reducible apply gAllL) | (with_reducible apply gTupL) | (with_reducible apply gTupT) | (with_reducible apply gListT) | (with_reducible apply gLenT) | (with_reducible apply gIsiT) | (with_reducible apply gIsNT) | (with_reducible apply gEqL0) | (with_reducible apply gNeL0) | (with_reducible apply gMul_ok) | (with_reducible apply gAdd_ok) | (with_reducible apply gSub_ok) | (with_reducible apply gEqI) | (with_reducible apply gNeI) | (with_reducible apply gLt_ok) | (with_reducible apply gLe_ok) | (with_reducible apply gGt_ok) | (with_reducible apply gGe_ok) | (with_reducible apply gInt_ok) | (with_reducible apply mulB_ok) | (with_reducible apply lim_ok) | ((with_reducible apply ite_t); (first | assumption | (exact decide_eq_true (by omega)) | (exact decide_eq_false (by omega)) | (simp only [Bool.not_eq_true', Bool.not_eq_false', Bool.not_not, decide_eq_false_iff_not, decide_eq_true_eq, Bool.false_eq_true, if_true, if_false, Bool.not_false, Bool.not_true, reduceIte]; omega) | exact rfl)) | ((with_reducible apply ite_f); (first | assumption | (exact decide_eq_true (by omega)) | (exact decide_eq_false (by omega)) | (simp only [Bool.not_eq_true', Bool.not_eq_false', Bool.not_not, decide_eq_false_iff_not, decide_eq_true_eq, Bool.false_eq_true, if_true, if_false, Bool.not_false, Bool.not_true, reduceIte]; omega) | exact rfl)) | (simp only [List.set_cons_succ, List.set_cons_zero, wipeD]; exact rfl) | (simp only [List.length_cons, List.length_nil, List.length_map, List.length_append]; omega) | (exact rfl) | (omega)))
  have el : mu0 ++ [.lst (great.map D.int)] ++ [.dk (drawD mu0.length 0 0 (ns.map f))] = mu0 ++ [.lst (great.map D.int), .dk (drawD mu0.length 0 0 (ns.map f))] := by rw [List.append_assoc]; rfl
  refine ⟨mu0 ++ [.lst (great.map D.int), .dk (drawD mu0.length 0 0 (ns.map f))], denF_rt (env0 := [some (scriptD ns), none, none]) rfl ?_, ⟨great, ns.map f, 0, 0, ?_, ?_, fun g hg => ?_, fun c hc => ?_, by omega, by omega, by omega⟩, _, _, rfl⟩
  · unfold m_begin
    refine mSeq_eq (r1 := .nx [some (scriptD ns), some (.cell mu0.length), none] _) (mAsg_ok e1 rfl) (seqNx (mRet_ok ?_))
    unfold mDisp
    simp only [mPairs, e2, bind_ok, mC]
    rw [← el]
    have hlen : (mu0 ++ [Cell.lst (great.map D.int)]).length = mu0.length + 1 := by simp
    rw [← hlen]
    rfl
  · rw [List.getElem?_append_right (Nat.le_refl _), Nat.sub_self]; rfl
  · rw [List.getElem?_append_right (by omega), show mu0.length + 1 - mu0.length = 1 by omega]; rfl
  · simp only [great, List.mem_map, List.mem_filter, decide_eq_true_eq] at hg
    obtain ⟨i, ⟨_, h⟩, rfl⟩ := hg
    omega
  · simp only [List.mem_map] at hc
    obtain ⟨i, _, rfl⟩ := hc
    exact f0 i
end DL

/-! DL10: errors: raising, keeping a caught one as a value, isinstance of it. -/
namespace DL
open PySem PySem.Spec PyProof.Rows L2

theorem exH_ok {P : Program} {w : World} {H : Hp} {h : Heap} {a : Addr} {cls : Value} {d : Option Addr} {oe : Obj} {vs : Array Value} (e : h.get? a = some oe) (z : Zc cls d oe) (k : oe.data = .fields vs) : ObjOk P w H h a (ExH cls d a) :=
  ⟨⟨oe, vs, e, z, k⟩, ⟨oe, e⟩, fun _ _ ⟨o, v, q, r⟩ k => ⟨o, v, k o q, r⟩⟩
theorem track {X : Cx} {pins : List (Addr × Obj)} {σ : L2.St} {H : Hp} {s : Shared} {a : Addr} {cls : Value} {d : Option Addr} {oe : Obj} {vs : Array Value} (J : Inv X ((a, oe) :: pins) σ H s) (n0 : X.s_0.heap.get? a = none) (z : Zc cls d oe) (k : oe.data = .fields vs)
    (ne : ∀ p ∈ X.pn ++ pins, p.1 ≠ a) : Inv X pins σ (upd H a (ExH cls d a)) s := by
  obtain ⟨g1, g2, g3, g4, g5⟩ := J.pin (a, oe) (List.mem_append_right _ List.mem_cons_self)
  have other : ∀ {b : Addr} {u : HO}, H b = some u → b ≠ a := fun e q => by
    rw [q] at e
    rw [show H a = none from g2] at e
    cases e
  have old : ∀ {b : Addr} {u : Obj}, X.s_0.heap.get? b = some u → b ≠ a := fun e q => by
    rw [q, n0] at e
    cases e
  constructor
  · exact J.ok
  · exact J.os
  · exact J.bare
  · constructor
    · exact J.base.keep
    · exact J.base.slot
    · exact fun b u e n x => (upd_ne (old e)).trans (J.base.free b u e n x)
    · exact J.base.there
    · exact fun b xs e => (upd_ne (other (J.base.tups b xs e))).trans (J.base.tups b xs e)
    · exact fun b u w e => (upd_ne (other (J.base.frzs b u w e))).trans (J.base.frzs b u w e)
    · intro b ps e
      obtain ⟨m, hm⟩ := J.base.tbls b ps e
      exact ⟨m, (upd_ne (other hm)).trans hm⟩
  · exact J.loc
  · exact J.cell
  · exact (upd_ne (fun q => g3 q.symm)).trans J.free
  · intro x c e
    refine (upd_ne fun q => ?_).trans (J.freeC x c e)
    obtain ⟨v, o, ho, hd⟩ := J.cell x c e
    rw [q] at ho
    rw [show s.heap.get? a = some oe from g1] at ho
    cases ho
    exact g5 v hd
  · intro p hp
    obtain ⟨q1, q2, q3⟩ := J.pin p (by
      rcases List.mem_append.mp hp with m | m
      · exact List.mem_append_left _ m
      · exact List.mem_append_right _ (List.mem_cons_of_mem _ m))
    exact ⟨q1, (upd_ne (ne p hp)).trans q2, q3⟩
  · intro b u e
    by_cases hb : b = a
    · subst hb
      rw [upd_same] at e
      cases e
      exact exH_ok g1 z k
    · rw [upd_ne hb] at e
      exact (J.hok b u e).stay (fun c v _ q => q) (fun c q => (upd_ne (other q)).trans q) fun c xs q => (upd_ne (other q)).trans q
  · exact J.len

/-- what «except x as n: m = n» wishes of an error of the body (n in slot i, m in slot j) -/
def wKeep (K : PySem.W.Frag) (c : Value) (i j L : Nat) (Wout : WX) (D : Ends) : WX := fun cls d σ H =>
  ∃ b, PySem.W.exmOne K cls c = some b ∧ (b = true → ∀ a, H a = none → σ.length = L → D.nx (((σ.set i (some (.ref a))).set j (some (.ref a))).set i none) (upd H a (ExH cls d a))) ∧ (b = false → Wout cls d σ H)
section
variable {X : Cx} {i j : Nat} {x n m : Str} {c : Value} {body : List Stmt} {np p1 p2 p3 pos pos' : Pos} {tb : WX → TS} {Wout : WX}
theorem ps_keep (hs : X.stack = X.env :: X.outer) (hf : X.env.frame = some X.env.locals) (hx : X.ex = []) (hN : X.N.Nodup) (hi : X.N[i]? = some n) (hln : X.env.kindOf n = some .local) (hj : X.N[j]? = some m) (hlm : X.env.scope.names.lookup m = some .local) (hc : Names X x c) (tk : Takes X Wout)
    (hb : ∀ (W : WX) (pn : List (Addr × Obj)) (xe : Value → Shared → Prop), Takes (X.tr pn xe) W → PassesOwn (model X.prog X.w) X.A X.env xe → PSs (X.tr pn xe) body (tb W)) (hd : (n == ("__debug__" : Str)) = false) (hcd : (n == ("__classdict__" : Str)) = false) :
    PS X (.Try body [.ExceptHandler (some (.Name x np)) (some n) [.Assign [.Name m p1] (.Name n p2) p3] pos'] [] [] pos) (fun D σ H => tb (wKeep X.K c i j X.N.length Wout D) D σ H) := by
  constructor
  intro pins s σ H D I h
  have hfrm : X.A.frames = some (X.env :: X.outer) := I.ok.frames.trans (congrArg some hs)
  apply wpAny_Try_except
  have catch_ : Takes (X.tr (X.pn ++ pins) (fun e t => wpAny (model X.prog X.w) X.A (noteFrame e X.env) (fun _ t2 => wpAny (model X.prog X.w) X.A (setFlight e none) (fun _ t3 => wpAny (model X.prog X.w) X.A (handleBy e X.env [.ExceptHandler (some (.Name x np)) (some n) [.Assign [.Name m p1] (.Name n p2) p3] pos'])
      (SP X pins D) X.xe t3) X.xe t2) X.xe t)) (wKeep X.K c i j X.N.length Wout D) := by
    rintro u w ⟨a, G, sA, ps', τ, HA, cls, dd, rfl, JA, grd, ups, sky, nA, eos, egs, bb, hbb, yes, no⟩
    have J0 : Inv X pins τ HA sA := JA.ofTry I.ok
    rw [hs] at sky
    refine Sky.land Zc.steady hfrm hf (show Sky G (X.env :: X.outer) a (Zc cls dd) X.env.locals w.heap from sky) fun hp fl up1 => ?_
    have K1 : Inv X pins τ HA { w with heap := hp } := J0.landed grd fl.1 (ups.trans up1) eos egs
    obtain ⟨o1, f1, g1, z1, k1⟩ := fl.there
    have out : a ∉ frs (X.env :: X.outer) := fun mem => by
      obtain ⟨_, oq, eq, hq⟩ := fl.2.2.1.mem mem
      rw [g1] at eq
      cases eq
      exact hq _ k1
    have offL : a ≠ X.env.locals := fun q => out (List.mem_filterMap.mpr ⟨X.env, List.mem_cons_self, by rw [hf, q]⟩)
    have offF : a ∉ X.fs := fun mem => by
      obtain ⟨e, he, q⟩ := List.mem_filterMap.mp mem
      exact out (List.mem_filterMap.mpr ⟨e, List.mem_cons_of_mem _ he, q⟩)
    have inG : ∀ b o, sA.heap.get? b = some o → b ∉ frs (X.env :: X.outer) → b ≠ a := fun b o e q z => by
      have := grd b o e (by rw [hs]; exact q)
      rw [z, fl.2.1] at this
      cases this
    have fresh0 : X.s_0.heap.get? a = none := by
      cases e : X.s_0.heap.get? a with
      | none => rfl
      | some o =>
        obtain ⟨o', e'⟩ := J0.base.there a o e (by rw [hx]; exact List.not_mem_nil)
        exact absurd rfl (inG a o' e' out)
    have apart : ∀ p ∈ X.pn ++ pins, p.1 ≠ a := fun p hp => by
      obtain ⟨q1, _, q3, q4, _⟩ := J0.pin p hp
      refine inG p.1 p.2 q1 fun mem => ?_
      obtain ⟨e, he, q⟩ := List.mem_filterMap.mp mem
      rcases List.mem_cons.mp he with z | z
      · rw [z, hf] at q
        exact q3 (Option.some.inj q).symm
      · exact q4 (List.mem_filterMap.mpr ⟨e, z, q⟩)
    have U1 := K1.suite g1 k1 nA offL offF
    apply wpAny_handleBy_cons (h := codeAny_handlers_test ?_) (by intro q; cases q)
    have look : PySem.W.Looks (model X.prog X.w) hp (typeOf (.ref a)) cls := fun A Q E t k q => wpAny_typeOf_ref (k _ _ g1) (by rw [z1.1]; exact q)
    have match_ := PySem.W.exm_one (M := model X.prog X.w) K1.kIn look hbb
    have named : ∀ {Q E : Value → Shared → Prop}, Q c { w with heap := hp } → wpAny (model X.prog X.w) (X.A.mark (some (.ref a))) (eval (.Name x np) X.env) Q E { w with heap := hp } := fun {Q E} q => by
      rcases hc with ⟨hg, hdb, hm | ⟨hm, hv, hnn⟩⟩
      · exact ld_glob (X := X.suite a ((a, o1) :: (X.pn ++ pins))) U1 hg hm q hdb
      · exact ld_blt (X := X.suite a ((a, o1) :: (X.pn ++ pins))) U1 hg hm hv q hnn hdb
    apply named
    apply match_.here
    cases bb with
    | false =>
      refine wpAny_handleBy_nil ?_
      obtain ⟨_, _, _, oe, vs, T, oT, ts, e1, e2, e3, e4, _⟩ := id fl
      have tail_ : wpAny (model X.prog X.w) X.A (setFlight (.ref a) X.env.frame) (fun _ t => wpAny (model X.prog X.w) X.A (throw (.ref a) : Sem Flow) (SP X pins D) X.xe t) X.xe { w with heap := hp } := by
        rw [hf]
        refine HandSPX.setFlight_upZ fl fun h4 held up4 => wpAny_throw (tk _ _ ⟨a, G, sA, pins, τ, HA, cls, dd, rfl, J0, grd, (ups.trans up1).trans up4, .inr (.inr ?_), nA, eos, egs, no rfl⟩)
        rw [hs]
        exact held
      unfold PySem.passOn
      refine wpAny_bind (wpAny_field e1 e3 e4 ?_)
      rw [if_neg (by simp)]
      first
        | exact wpAny_bind (wpAny_pure (wpAny_bind tail_))
        | exact wpAny_bind tail_
    | true =>
      apply codeAny_handlers_suite_as
      refine HandSPX.lands_againZ fl fun h4 fl4 up4 => ?_
      obtain ⟨o4, f4, g4, z4, k4⟩ := fl4.there
      have U4 := (J0.landed (s' := { w with heap := h4 }) grd fl4.1 ((ups.trans up1).trans up4) eos egs).suite g4 k4 nA offL offF
      refine store_ok (X := X.suite a ((a, o4) :: (X.pn ++ pins))) (v := .ref a) U4 hN hi (.inl hln) rfl (fun t5 U5 => ?_) (.inr hln)
      have rule_ : PSs (X.suite a ((a, o4) :: (X.pn ++ pins))) [.Assign [.Name m p1] (.Name n p2) p3] _ := pss_one (ps_set (i := j) (pos' := p1) hN hj (.inl hlm) (pe_var (i := i) hi (.inl hln) hd hcd) rfl (.inr hlm))
      have hlen : i < τ.length := by rw [J0.len]; exact (List.getElem?_eq_some_iff.mp hi).1
      refine wpAny_mono (rule_.run [] t5 (τ.set i (some (.ref a))) HA { nx := fun σ' H' => σ' = (τ.set i (some (.ref a))).set j (some (.ref a)) ∧ H' = HA, rt := fun _ _ => False, bk := fun _ _ => False, ct := fun _ _ => False } U5 ⟨.ref a, List.getElem?_set_self hlen, rfl, rfl⟩)
        (fun f t6 post => ?_) fun _ _ q => False.elim q
      cases f with
      | next =>
        obtain ⟨_, H6, U6, rfl, eH⟩ := post
        rw [eH] at U6
        have P6 : L2.Inv X ((a, o4) :: pins) ((τ.set i (some (.ref a))).set j (some (.ref a))) HA t6 := by
          have V := U6.unsuite (X := X) I.ok
          refine ⟨V.ok, V.os, V.bare, V.base, V.loc, V.cell, V.free, V.freeC, fun p hp => U6.pin p (List.mem_append_left _ ?_), V.hok, V.len⟩
          rcases List.mem_append.mp hp with q | q
          · exact List.mem_cons_of_mem _ (List.mem_append_left _ q)
          · rcases List.mem_cons.mp q with q | q
            · rw [q]; exact List.mem_cons_self
            · exact List.mem_cons_of_mem _ (List.mem_append_right _ q)
        exact gone_ok P6 hN hi hln fun t7 P7 => ⟨_, _, track P7 fresh0 z4 k4 apart, yes rfl a nA J0.len⟩
      | brk =>
        obtain ⟨_, _, _, q⟩ := post
        exact q.elim
      | cont =>
        obtain ⟨_, _, _, q⟩ := post
        exact q.elim
      | ret u =>
        obtain ⟨_, _, _, _, _, q⟩ := post
        exact q.elim
  refine wpAny_mono ((hb _ _ _ catch_ PassesOwn.looking).run [] s σ H D (I.toTry _) h) (fun f t post => ?_) fun _ _ q => q
  cases f with
  | next =>
    obtain ⟨σ', H', J', q⟩ := post
    exact wpAny_execs_nil ⟨σ', H', J'.ofTry I.ok, q⟩
  | brk =>
    obtain ⟨σ', H', J', q⟩ := post
    exact ⟨σ', H', J'.ofTry I.ok, q⟩
  | cont =>
    obtain ⟨σ', H', J', q⟩ := post
    exact ⟨σ', H', J'.ofTry I.ok, q⟩
  | ret u =>
    obtain ⟨v, σ', H', J', r, q⟩ := post
    exact ⟨v, σ', H', J'.ofTry I.ok, r, q⟩
end

/-! ### raising; a try that keeps the error -/
def mRaise (cls : Value) : DenS := fun env mu => .exc ⟨cls, none⟩ env mu
def excD (x : XD) : D := match x.fs with
  | none => .exn x.cls
  | some fs => .exf x.cls (fs.map (·.1)) (fs.map (·.2))
/-- which classes the clause takes, as far as it was asked -/
def exmL (T : List (Addr × Bool)) : Value → Option Bool
  | .ref a => (T.find? fun p => decide (p.1 = a)).map (·.2)
  | _ => none
def mTryK (i j : Nat) (T : List (Addr × Bool)) (mb : DenS) : DenS := fun env mu => match mb env mu with
  | .exc x e m => match exmL T x.cls with
    | some true => .nx (((e.set i (some (excD x))).set j (some (excD x))).set i none) m
    | some false => .exc x e m
    | none => .stuck
  | r => r
theorem excD_rep {K : PySem.W.Frag} {F : Hp} {io : List Addr} {H : Hp} {x : XD} {c : Value} {dd : Option Addr} {a : Addr} (r : RepX K F io H x c dd) (hF : F a = none) : Rep K (upd F a (ExH c dd a)) io (.ref a) (excD x) := by
  obtain ⟨cls, fs⟩ := x
  obtain ⟨rfl, r⟩ := r
  cases fs with
  | none =>
    cases r
    exact .exn upd_same
  | some fs =>
    obtain ⟨d, xs, rfl, h1, h2, h3⟩ := r
    refine .exf upd_same ?_ (by rw [List.length_map]; exact h2) (h3.mono (Le.put hF) Pre.rfl)
    rw [upd_ne (ne_of_none h1 hF)]; exact h1
section
variable {X : Cx} {W : WX}
theorem ds_raise {C : Addr} {e : Expr} {pos : Pos} (hc : X.calm = true) (tk : Takes X W) (pm : PMk X e (fun _ H Q => Q (.ref C) none H)) : DS X W (.Raise (some e) none pos) (mRaise (.ref C)) :=
  (ps_raise hc tk pm).imp fun D σ H ⟨F, io, env, mu, M, R, h⟩ => h F io H σ (.ref C) none Step.rfl M R ⟨rfl, rfl⟩
theorem ds_tryK {i j : Nat} {x n m : Str} {c : Value} {body : List Stmt} {np p1 p2 p3 pos pos' : Pos} {T : List (Addr × Bool)} {mb : DenS} (hT : ∀ q ∈ T, PySem.W.exmOne X.K (.ref q.1) c = some q.2) (hs : X.stack = X.env :: X.outer) (hf : X.env.frame = some X.env.locals) (hx : X.ex = []) (hN : X.N.Nodup) (hi : X.N[i]? = some n) (hln : X.env.kindOf n = some .local)
    (hj : X.N[j]? = some m) (hlm : X.env.scope.names.lookup m = some .local) (hc : Names X x c) (tk : Takes X W)
    (hb : ∀ (V : WX) (pn : List (Addr × Obj)) (xe : Value → Shared → Prop), Takes (X.tr pn xe) V → PassesOwn (model X.prog X.w) X.A X.env xe → DSs (X.tr pn xe) V body mb) (hd : (n == ("__debug__" : Str)) = false := by decide) (hcd : (n == ("__classdict__" : Str)) = false := by decide) :
    DS X W (.Try body [.ExceptHandler (some (.Name x np)) (some n) [.Assign [.Name m p1] (.Name n p2) p3] pos'] [] [] pos) (mTryK i j T mb) :=
  (ps_keep (tb := fun V => tS X.K V mb) hs hf hx hN hi hln hj hlm hc tk hb hd hcd).imp fun D σ H ⟨F, io, env, mu, M, R, h⟩ => ⟨F, io, env, mu, M, R, by
    unfold mTryK at h
    cases e : mb env mu with
    | exc y e1 m1 =>
      simp only [e] at h
      intro F1 j1 H1 σ1 c1 d1 s1 M1 R1 r1
      have ec : c1 = y.cls := r1.1
      cases et : exmL T y.cls with
      | none => simp only [et] at h; exact h.elim
      | some b =>
        refine ⟨b, ?_, fun hb a ha _ => ?_, fun hb => ?_⟩
        · rw [ec]
          unfold exmL at et
          split at et
          · rename_i a ea
            cases ef : T.find? (fun p => decide (p.1 = a)) with
            | none => rw [ef] at et; cases et
            | some q =>
              rw [ef] at et; cases et
              have h1 := hT q (List.mem_of_find?_eq_some ef)
              have h2 : q.1 = a := by simpa using List.find?_some ef
              rw [ea, ← h2]; exact h1
          · cases et
        · subst hb
          simp only [et] at h
          have hF := M1.fresh ha
          have rp := excD_rep r1 hF
          have R2 := R1.step (M1.stepF (o := ExH c1 d1 a) ha)
          exact h _ _ _ _ (s1.trans (M1.stepF ha)) (M1.newF ha) (((R2.set rp).set rp).forget)
        · subst hb
          simp only [et] at h
          exact h F1 j1 H1 σ1 c1 d1 s1 M1 R1 r1
    | nx e1 m1 => simp only [e] at h; exact h
    | rt d m1 => simp only [e] at h; exact h
    | bk e1 m1 => simp only [e] at h; exact h
    | ct e1 m1 => simp only [e] at h; exact h
    | stuck => simp only [e] at h; exact h.elim⟩
end

/-! ### a lambda handed to a def that calls it and keeps an error -/
/-- the tables T stand as cells, no others -/
def isTabs (T : List (Addr × Str)) (mu : Mu) : Bool :=
  (mu.zipIdx.all fun cn => match cn.1 with
    | .tab m P q => decide (m = cn.2) && decide ((P, q) ∈ T)
    | _ => true) && T.all fun p => mu.any fun c => match c with
    | .tab _ P q => decide (P = p.1 ∧ q = p.2)
    | _ => false
section
variable {K : PySem.W.Frag} {F H H1 : Hp} {io : List Addr} {mu : Mu} {T : List (Addr × Str)}
theorem tabs_cell (M : Mem K F io H mu) (h : isTabs T mu = true) {n m : Nat} {P : Addr} {q : Str} (e : mu[n]? = some (.tab m P q)) : (P, q) ∈ T ∧ io[n]? = some P ∧ F P = none ∧ ∃ ps : Array Value, H P = some (.tbl ps) ∧ TriplesOk ps.toList ∧ ∀ (pos : Pos) (cv : Value), codeAmong pos ps.toList = some cv → ∃ c, cv = .ref c ∧ F c = some (CdO c q) := by
  unfold isTabs at h
  simp only [Bool.and_eq_true, List.all_eq_true] at h
  have h1 := h.1 (.tab m P q, n) (List.mem_zipIdx_iff_getElem?.mpr e)
  simp only [Bool.and_eq_true, decide_eq_true_eq] at h1
  obtain ⟨rfl, hT⟩ := h1
  have hn : m < io.length := by rw [M.len]; exact (List.getElem?_eq_some_iff.mp e).1
  rcases M.cel m io[m] _ (List.getElem?_eq_getElem hn) e with z | ⟨hf, o, ho, hp, ps, rfl, t, k⟩
  · cases z
  · have ea : io[m] = P := by rw [List.getElem?_eq_getElem hn] at hp; exact Option.some.inj hp
    rw [ea] at hf ho
    exact ⟨hT, hp, hf, ps, ho, t, k⟩
theorem tabs_of (M : Mem K F io H mu) (h : isTabs T mu = true) : LamX.Tabs T H := fun p hp => by
  have h' := h
  unfold isTabs at h'
  simp only [Bool.and_eq_true, List.all_eq_true, List.any_eq_true] at h'
  obtain ⟨c, hc, e⟩ := h'.2 p hp
  cases c with
  | tab m P q =>
    simp only [decide_eq_true_eq] at e
    obtain ⟨rfl, rfl⟩ := e
    obtain ⟨n, hn⟩ := List.getElem?_of_mem hc
    obtain ⟨_, _, _, ps, h1, h2, h3⟩ := tabs_cell M h hn
    refine ⟨ps, h1, h2, fun pos cv hcv => ?_⟩
    obtain ⟨c, e1, e2⟩ := h3 pos cv hcv
    exact ⟨c, e1, M.le _ _ e2⟩
  | _ => simp at e
theorem ndO_code {w : World} {a c : Addr} {xs : List (NestedKey × Addr × Value)} {q : Str} : ndO w a xs ≠ CdO c q := fun z => by
  have z' : HO.ext _ = HO.ext _ := z
  injection z' with z'
  let ob : Obj := ⟨.none, none, .fields #[.none, .str q 0], #[]⟩
  let h : Heap := { objs := Array.replicate (a + c + 1) ob }
  have g : ∀ b, b < a + c + 1 → h.get? b = some ob := fun b hb => by
    show (match (Array.replicate (a + c + 1) ob)[b]? with | some ⟨_, _, .freed, _⟩ => none | o => o) = _
    rw [Array.getElem?_replicate, if_pos hb]
  have h1 : ∃ (oc : Obj) (vs : Array Value) (t : Tok), h.get? c = some oc ∧ oc.data = .fields vs ∧ vs[1]? = some (.str q t) := ⟨ob, _, 0, g c (Nat.lt_succ_of_le (Nat.le_add_left c a)), rfl, rfl⟩
  rw [← congrFun z' h] at h1
  obtain ⟨_, o, es, ep, e1, _, e2, _⟩ := h1
  rw [g a (Nat.lt_succ_of_le (Nat.le_add_right a c))] at e1
  cases e1
  cases e2
theorem lam_mem (M : Mem K F io H mu) (h : isTabs T mu = true) (ext : LamX.ExtN H H1) (tb : LamX.Tabs T H1) : ∃ F1, Mem K F1 io H1 mu ∧ Step F io H F1 io H1 := by
  classical
  let F1 : Hp := fun a => match F a with
    | some o => some o
    | none => if ∃ q, H1 a = some (CdO a q) then H1 a else none
  have f1 : ∀ {a o}, F a = some o → F1 a = some o := fun {a o} e => by show (match F a with | some o => some o | none => _) = _; rw [e]
  have f0 : ∀ {a}, F a = none → F1 a = if ∃ q, H1 a = some (CdO a q) then H1 a else none := fun {a} e => by show (match F a with | some o => some o | none => _) = _; rw [e]
  have up : ∀ {a o}, F a = some o → H1 a = some o := fun {a o} e => ext a o (M.le a o e) fun ps q => M.nt a ps (by rw [e, q])
  have no : ∀ {a o}, F a = none → H1 a = some o → (∀ q, o ≠ CdO a q) → F1 a = none := fun {a o} e e1 k => by
    rw [f0 e, if_neg]
    rintro ⟨q, e2⟩
    rw [e1] at e2
    exact k q (Option.some.inj e2)
  have lef : Le F F1 := fun a o e => f1 e
  refine ⟨F1, ⟨fun a ps e => ?_, fun n a e1 e2 => let ⟨u, hu⟩ := M.dd n a e1 e2; ⟨u, f1 hu⟩, fun a o e => ?_, M.len, M.nd, fun a ha => ?_, fun n a c e1 e2 => ?_⟩, ⟨lef, Pre.rfl, fun a o e _ t => ext a o e t, fun _ m k => absurd m k, fun a o e _ pl f => no f (ext a o e pl.1) fun q z => pl.2 _ z⟩⟩
  · cases q : F a with
    | some o => rw [f1 q] at e; exact M.nt a ps (by rw [q, e])
    | none =>
      rw [f0 q] at e
      split at e
      · rename_i hq
        obtain ⟨q2, e2⟩ := hq
        rw [e2] at e; cases e
      · cases e
  · cases q : F a with
    | some u => rw [f1 q] at e; cases e; exact up q
    | none =>
      rw [f0 q] at e
      split at e
      · exact e
      · cases e
  · obtain ⟨o, ho⟩ := M.tr a ha
    by_cases t : ∃ ps, o = .tbl ps
    · obtain ⟨ps, rfl⟩ := t
      obtain ⟨n, hn⟩ := List.getElem?_of_mem ha
      have hl : n < mu.length := by rw [← M.len]; exact (List.getElem?_eq_some_iff.mp hn).1
      rcases M.cel n a mu[n] hn (List.getElem?_eq_getElem hl) with z | ⟨_, o2, h2, r⟩
      · obtain ⟨u, hu⟩ := M.dd n a hn (by rw [List.getElem?_eq_getElem hl, z])
        exact ⟨u, up hu⟩
      · rw [ho] at h2
        cases h2
        cases ec : mu[n] with
        | dead => rw [ec] at r; exact r.elim
        | lst l => rw [ec] at r; obtain ⟨_, q, _⟩ := r; cases q
        | dk l => rw [ec] at r; obtain ⟨_, q, _⟩ := r; cases q
        | nd _ _ => rw [ec] at r; obtain ⟨_, _, _, _, q, _⟩ := r; cases q
        | tab m P q =>
          obtain ⟨g1, g2, _⟩ := tabs_cell M h (n := n) (m := m) (P := P) (q := q) (by rw [List.getElem?_eq_getElem hl, ec])
          rw [hn] at g2
          cases g2
          obtain ⟨ps1, e1, _⟩ := tb _ g1
          exact ⟨_, e1⟩
    · exact ⟨o, ext a o ho fun ps q => t ⟨ps, q⟩⟩
  · rcases M.cel n a c e1 e2 with z | ⟨hf, o, ho, r⟩
    · exact .inl z
    · cases c with
      | dead => exact r.elim
      | lst l =>
        have ⟨xs, eo, _⟩ := r
        have e' := ext a o ho (by rw [eo]; exact fun _ => nofun)
        exact .inr ⟨no hf e' (by rw [eo]; exact fun _ => nofun), o, e', r.mono lef Pre.rfl⟩
      | dk l =>
        have ⟨xs, eo, _⟩ := r
        have e' := ext a o ho (by rw [eo]; exact fun _ => nofun)
        exact .inr ⟨no hf e' (by rw [eo]; exact fun _ => nofun), o, e', r.mono lef Pre.rfl⟩
      | nd m ks =>
        have ⟨_, _, _, _, eo, _⟩ := r
        have nt : ∀ ps, o ≠ .tbl ps := fun ps z => by
          rw [eo] at z
          have z' : HO.ext _ = HO.tbl ps := z
          cases z'
        have e' := ext a o ho nt
        exact .inr ⟨no hf e' (by rw [eo]; exact fun _ => ndO_code), o, e', r.mono lef Pre.rfl⟩
      | tab m P q =>
        have hm : m = n := by
          have h' := h
          unfold isTabs at h'
          simp only [Bool.and_eq_true, List.all_eq_true] at h'
          have := h'.1 (.tab m P q, n) (List.mem_zipIdx_iff_getElem?.mpr e2)
          simp only [Bool.and_eq_true, decide_eq_true_eq] at this
          exact this.1
        subst hm
        obtain ⟨g1, g2, g3, _⟩ := tabs_cell M h e2
        rw [e1] at g2
        cases g2
        obtain ⟨ps1, h1, h2, h3⟩ := tb _ g1
        refine .inr ⟨no g3 h1 (fun _ => nofun), _, h1, e1, ps1, rfl, h2, fun pos cv hcv => ?_⟩
        obtain ⟨c, c1, c2⟩ := h3 pos cv hcv
        refine ⟨c, c1, ?_⟩
        cases q2 : F c with
        | some u =>
          rw [f1 q2]
          have := up q2
          rw [c2] at this
          exact this.symm
        | none => rw [f0 q2, if_pos ⟨q, c2⟩]; exact c2
end

/-- what _law_caught makes of the lambda that it gets -/
def TCaught (K : PySem.W.Frag) (CS : Addr) : (XK → Hp → VK → Prop) → Hp → VK → Prop := fun tl H Q =>
  tl (fun cls d H' => ∃ b, PySem.W.exmOne K cls (.ref CS) = some b ∧ (b = true → ∀ a, H' a = none → Q (.ref a) (upd H' a (ExH cls d a))) ∧ (b = false → False)) H (fun _ H' => ∃ v, some (some V.non) = some (some v) ∧ Q v H')
section
variable {X : Cx}
theorem caught_gives {Ng : List Str} {x a e n m q : Str} {sg : Scope} {g CS : Addr} {cdg : Value} {j : Nat} {p0 p1 p2 p3 p4 p5 p6 p7 p8 p9 pa pb pc pd : Pos} (hge : sg.names.lookup e = some .globalImplicit) (hme : X.mg e = some (.ref CS)) (hde : (e == ("__debug__" : Str)) = false) (hN : Ng.Nodup) (h1 : Ng[1]? = some m) (h2 : Ng[2]? = some n) (hl : Ng.length = 3)
    (lm : sg.names.lookup m = some .local) (ln : sg.names.lookup n = some .local) (hd : (n == ("__debug__" : Str)) = false) (hcd : (n == ("__classdict__" : Str)) = false) (hdm : (m == ("__debug__" : Str)) = false) (hcm : (m == ("__classdict__" : Str)) = false) :
    LamX.GivesTo X Ng x sg g cdg [.Assign [.Name m p0] (.Constant .none j p9) pa, .Try [.Expr (.Call (.Name a p1) [] [] p2) p3] [.ExceptHandler (some (.Name e p4)) (some n) [.Assign [.Name m p5] (.Name n p6) p7] p8] [] [] pb, .Return (some (.Name m pd)) pc] a q (TCaught X.K CS) := by
  intro f c' s H Q tl act hc h
  have hgl : Gl (cxOf C8.CX0 X.prog X.w X.K X.mg X.base Ng x sg g cdg X.A X.stack s H C8.E0).nox e := hge
  have h0 : L2.start Ng [V.ref f] = [some (.ref f), none, none] := by
    unfold L2.start
    rw [hl]; rfl
  refine ⟨_, pss_cons (ps_set (X := (cxOf C8.CX0 X.prog X.w X.K X.mg X.base Ng x sg g cdg X.A X.stack s H C8.E0).nox) (i := 1) hN h1 (.inl lm) pe_non rfl (.inr lm))
    (pss_cons (ps_keep (i := 2) (j := 1) (c := .ref CS) (Wout := fun _ _ _ _ => False)
      (tb := fun W D σ H => ∃ Ech : XK, (∀ cls d σ' H', Ech cls d H' → W cls d σ' H') ∧ σ[0]? = some (some (.ref f)) ∧ H c' = some (LamX.CodeO c' q) ∧ tl Ech H (fun _ H' => D.nx σ H'))
      rfl rfl rfl hN h2 ln h1 lm ⟨hgl, hde, .inl hme⟩ L2.takes0 (fun W pn xe tk _ => ?_) hd hcd) (pss_one (ps_ret (pe_var (i := 1) h1 (.inl lm) hdm hcm)))), ?_⟩
  · refine ⟨fun pins s' σ H' D I h' => ?_⟩
    obtain ⟨Ech, hW, k1, k2, k3⟩ := h'
    have hp := act W pn xe Ech p1 p2 tk hW
    have hq := pss_one (ps_expr (pos := p3) hp)
    exact hq.run pins s' σ H' D I ⟨k1, k2, k3⟩
  · rw [h0]
    refine ⟨_, fun cls d σ' H' ⟨b, e1, e2, e3⟩ => ⟨b, e1, fun hb a ha hlen => ?_, fun hb => e3 hb⟩, rfl, hc, h⟩
    have hlen : σ'.length = 3 := hlen.trans hl
    refine ⟨.ref a, ?_, e2 hb a ha⟩
    rw [List.getElem?_set_ne (by decide), List.getElem?_set_self (by rw [List.length_set]; omega)]
end

theorem exmL_ok {K : PySem.W.Frag} {B : List (Addr × Bool)} {c v : Value} {b : Bool} (hT : ∀ q ∈ B, PySem.W.exmOne K (.ref q.1) c = some q.2) (h : exmL B v = some b) : PySem.W.exmOne K v c = some b := by
  unfold exmL at h
  split at h
  · rename_i a
    cases ef : B.find? (fun p => decide (p.1 = a)) with
    | none => rw [ef] at h; cases h
    | some q =>
      rw [ef] at h; cases h
      have h1 := hT q (List.mem_of_find?_eq_some ef)
      have h2 : q.1 = a := by simpa using List.find?_some ef
      rw [← h2]; exact h1
  · cases h
/-- _law_caught(lambda: body) -/
def mCaught (T : List (Addr × Str)) (B : List (Addr × Bool)) (me : DenE) : DenE := fun env mu => if isTabs T mu = true then (match me env mu with
  | .ok _ m => .ok .non m
  | .exc x m => if exmL B x.cls = some true then .ok (excD x) m else .stuck
  | .stuck => .stuck) else .stuck
section
variable {X : Cx} {W : WX}
theorem de_caught {T : List (Addr × Str)} {B : List (Addr × Bool)} {me : DenE} {x a : Str} {g c P CS : Addr} {k : Nat} {pg : Arguments} {bg : List Stmt} {sg : Scope} {dV kV doc pm cdv ct oc : Value} {an od : Option Addr} {osl : Array (Option Value)} {Ng : List Str}
    {params : Arguments} {body : Expr} {scope : Scope} {p lpos pos : Pos} (hB : ∀ q ∈ B, PySem.W.exmOne X.K (.ref q.1) (.ref CS) = some q.2) (hg : Gl X x) (hm : X.mg x = some (.ref g)) (hk : PySem.W.keepIn X.K (.ref g) = true)
    (lk : X.K.lookup g = some ⟨oc, od, .func (PySem.W.fnOf x x pg bg sg dV kV doc pm an cdv ct), osl⟩) (hcg : PySem.W.codeIn X.K cdv x = true) (hb : L2.Binds X.K (PySem.W.fnOf x x pg bg sg dV kV doc pm an cdv ct) [a] []) (Sg : FnScope Ng [a] sg) (hNg : Ng[0]? = some a) (hva : Vis sg a)
    (hG : LamX.GivesTo X Ng x sg g cdv bg a (X.env.qual ++ "<lambda>") (TCaught X.K CS))
    (TB : LamX.TabB X.base X.mg c P) (hcode : X.env.code = .ref c) (hmT : (P, X.env.qual ++ "<lambda>") ∈ T) (hu : ∀ p ∈ T, p.1 = P → p.2 = X.env.qual ++ "<lambda>") (hr : Room (k + 2) X.A) (L : LamX.LamS X.env.scope scope) (hdef : defaultsOf params X.env = ([], []))
    (hbind : ∀ (q : Str) (cl : List (Str × Addr)) (pm cv ctv : Value), bindArgs (PySem.W.kla_fn "<lambda>" q params body scope cl pm cv ctv) ⟨[], []⟩ = pure [])
    (hbody : ∀ (A : Around) (outer : List Env) (s : Shared) (H : Hp) (E : XK) (f c' : Addr), Room k (A.deeper (LamX.lamEnv X scope s.heap.objs.size f c')) → DE (LamX.lamCx X A outer s H E scope f c') (fun cls d _ H => E cls d H) body me)
    (hdb : (x == ("__debug__" : Str)) = false := by decide) (hd : (a == ("__debug__" : Str)) = false := by decide) (hcd : (a == ("__classdict__" : Str)) = false := by decide) :
    DE X W (.Call (.Name x p) [.Lambda params body scope lpos] [] pos) (mCaught T B me) :=
  (LamX.pe_lamcall (t := fun E => tE X.K (fun cls d _ H => E cls d H) me) hg hm hk lk hcg hb Sg hNg hva hG TB hcode hmT hu hr L hdef hbind (fun A outer s H E f c' hr => hbody A outer s H E f c' hr) hdb hd hcd).imp fun σ H Q ⟨F, io, env, mu, M, R, h⟩ => by
    unfold mCaught at h
    by_cases ht : isTabs T mu = true
    · rw [if_pos ht] at h
      refine ⟨tabs_of M ht, fun H1 ext tb => ?_⟩
      obtain ⟨F1, M1, s1⟩ := lam_mem M ht ext tb
      refine ⟨F1, io, env, mu, M1, R.step s1, ?_⟩
      cases e : me env mu with
      | ok d m =>
        rw [e] at h
        exact fun F2 j2 H2 v s2 M2 r2 => ⟨.non, rfl, h F2 j2 H2 .non (s1.trans s2) M2 .non⟩
      | exc y m =>
        rw [e] at h
        have h : Sat X.K (Rep X.K) F io H (fun c dd H => W c dd σ H) (if exmL B y.cls = some true then .ok (excD y) m else .stuck) Q := h
        by_cases hx : exmL B y.cls = some true
        · rw [if_pos hx] at h
          intro F2 j2 H2 cl dd s2 M2 r2
          have ec : cl = y.cls := r2.1
          exact ⟨true, by rw [ec]; exact exmL_ok hB hx, fun _ b hb => h (upd F2 b (ExH cl dd b)) j2 _ (.ref b) ((s1.trans s2).trans (M2.stepF hb)) (M2.newF hb) (excD_rep r2 (M2.fresh hb)), nofun⟩
        · rw [if_neg hx] at h; exact h.elim
      | stuck => rw [e] at h; exact h.elim
    · rw [if_neg ht] at h; exact h.elim
end
end DL

/-! DL11: the end of a law with lambdas; isinstance of kept errors. -/
namespace DL
open PySem PySem.Spec PyProof.Rows L2

def tabCells (T : List (Addr × Str)) : Mu := T.zipIdx.map fun pn => .tab pn.2 pn.1.1 pn.1.2
theorem tabCells_get {T : List (Addr × Str)} {n : Nat} {c : Cell} (h : (tabCells T)[n]? = some c) : ∃ p, T[n]? = some p ∧ c = .tab n p.1 p.2 := by
  unfold tabCells at h
  rw [List.getElem?_map, List.getElem?_zipIdx] at h
  cases e : T[n]? with
  | none => rw [e] at h; cases h
  | some p =>
    rw [e] at h
    simp only [Option.map_some, Nat.zero_add, Option.some.injEq] at h
    exact ⟨p, rfl, h.symm⟩
theorem mem_tabs {K : PySem.W.Frag} {H : Hp} {T : List (Addr × Str)} (nd : (T.map (·.1)).Nodup) (hT : ∀ p ∈ T, H p.1 = some (.tbl #[])) : Mem K (noTab H) (T.map (·.1)) H (tabCells T) where
  nt := noTab_nt
  dd := fun n a _ e => by
    obtain ⟨p, _, q⟩ := tabCells_get e
    cases q
  le := noTab_le
  len := by unfold tabCells; rw [List.length_map, List.length_map, List.length_zipIdx]
  nd := nd
  tr := fun a m => by
    obtain ⟨p, hp, rfl⟩ := List.mem_map.mp m
    exact ⟨_, hT p hp⟩
  cel := fun n a c e1 e2 => by
    obtain ⟨p, hp, rfl⟩ := tabCells_get e2
    have e1' := e1
    rw [List.getElem?_map, hp] at e1
    cases e1
    have ht := hT p (List.mem_of_getElem? hp)
    refine .inr ⟨by unfold noTab; rw [ht], _, ht, e1', #[], rfl, True.intro, fun pos cv hc => ?_⟩
    have z : codeAmong pos [] = some cv := hc
    simp [codeAmong] at z
theorem tabs_start (T : List (Addr × Str)) : isTabs T (tabCells T) = true := by
  unfold isTabs
  rw [Bool.and_eq_true, List.all_eq_true, List.all_eq_true]
  constructor
  · rintro ⟨c, n⟩ hc
    obtain ⟨p, hp, ec⟩ := tabCells_get (List.mem_zipIdx_iff_getElem?.mp hc)
    have ec : c = .tab n p.1 p.2 := ec
    subst ec
    simp only [Bool.and_eq_true, decide_eq_true_eq, true_and]
    exact List.mem_of_getElem? hp
  · intro p hp
    rw [List.any_eq_true]
    obtain ⟨n, hn⟩ := List.getElem?_of_mem hp
    refine ⟨.tab n p.1 p.2, List.mem_of_getElem? (i := n) ?_, by simp⟩
    unfold tabCells
    rw [List.getElem?_map, List.getElem?_zipIdx, hn]
    simp
theorem walk_DT {l : PySem.W.OpenLaw} {k : Nat} {q : Program} {loose : List Str} {XP : (Str → Option Value) → Heap → Prop} {YP : World → Heap → Prop} {d : DefRec} {K : Params → PySem.W.Frag} {x : Str}
    (hn : l.most = some 63) (hdf : d.params.defaults = []) (hr : Room k callerA) (hY : ∀ (w : World) (h : Heap), YP w h → (K w.params).In h)
    (F : ∀ (w : World) (mg : Str → Option Value) (fa : Addr) (h : Heap), YP w h → (K w.params).In h → h.Ns mainGlobals mg → mg d.name = some (.ref fa) →
      ∃ (fd : FuncData) (cs : List (Addr × Addr)) (T : List (Addr × Str)) (g : List D → Mu → Res D), T.map (·.1) = cs.map (·.2) ∧ (cs.map (·.2)).Nodup ∧ (∀ p ∈ cs, h.get? p.2 = some { cls := .none, data := .fields #[] }) ∧ (∀ p ∈ cs, (K w.params).lookup p.2 = none) ∧ (∀ p ∈ cs, PySem.W.CodeHd h p.1 p.2) ∧
        (∀ (s : Shared) (u : Value), BindsTo s fd ⟨[u], []⟩ [(x, u)]) ∧ (∀ base : Heap, (K w.params).In base → base.Ns mainGlobals mg → (∀ p ∈ cs, LamX.TabB base mg p.1 p.2) → FnOk l.prog w (K w.params) mg base (L2.CX l.prog w) k fa fd [x] (spD (K w.params) 1 g)) ∧
        ∀ ns : List Int, ns.length ≤ 63 → ∃ mu, g [scriptD ns] (tabCells T) = .ok (.bl true) mu) :
    PySem.W.WalkO q loose XP YP l.row.toRowW d [] (fun f vs => PySem.call f vs) := by
  refine LamX.walk_ofTs (n := 63) (k := k) (x := x) (CX := fun w => L2.CX l.prog w) hn (by decide) hdf hr hY (fun w mg fa h Y KX G hmg => ?_) fun _ _ _ _ _ z => cx_none z
  obtain ⟨fd, cs, T, g, eT, nd, t1, t2, t3, hb, hF, hg⟩ := F w mg fa h Y KX G hmg
  refine ⟨fd, cs, fun vs H Q E => ∃ a ns, vs = [.ref a] ∧ SqL (K w.params) H a (ns.map V.int) ∧ ns.length ≤ 63 ∧ (∀ p ∈ cs, H p.2 = some (.tbl #[])) ∧ ∀ H', Q (.bl true) H', t1, t2, t3, hb, fun H a ns hl _ ht hS => ⟨a, ns, rfl, hS, hl, ht, fun _ => rfl⟩, fun base h1 h2 h3 => (hF base h1 h2 h3).imp fun vs H Q E ⟨a, ns, e, hS, hl, ht, hq⟩ => ?_⟩
  subst e
  obtain ⟨mu, hg⟩ := hg ns hl
  have hT : ∀ p ∈ T, H p.1 = some (.tbl #[]) := fun p hp => by
    have : p.1 ∈ cs.map (·.2) := by rw [← eT]; exact List.mem_map.mpr ⟨p, hp, rfl⟩
    obtain ⟨c, hc, ec⟩ := List.mem_map.mp this
    rw [← ec]; exact ht c hc
  refine ⟨rfl, noTab H, T.map (·.1), tabCells T, [scriptD ns], mem_tabs (by rw [eT]; exact nd) hT, .cons (.rl (noTab_sql hS) (repL_ints ns)) .nil, ?_⟩
  rw [hg]
  intro F' jo H' v s M r
  rw [r.bl_inv]
  exact hq H'
/-! ### isinstance of a kept error -/
/-- e an error without a dict of the class D: which classes are asked, the answers -/
theorem call_isX {X : Cx} {D : Addr} (C : ExcC X.K D) : CallR X (.builtin "isinstance") (fun xs H Q => ∃ (a : Addr) (c : V) (cv : Value) (b : Bool), xs = [.ref a, c] ∧ H a = some (ExH (.ref D) none a) ∧ (∀ u, RelV c u → u = cv) ∧ PySem.W.kitOne X.K (.ref D) cv = some b ∧ Q (.bl b) H) := by
  intro pins s σ H xs us Q I r h
  obtain ⟨a, c, cv, b, rfl, ha, hcv, e, q⟩ := h
  obtain ⟨u1, u2, rfl, r1, r2⟩ := vals2 r
  obtain rfl : u1 = Value.ref a := r1
  have ec := hcv _ r2
  subst ec
  obtain ⟨⟨oe, vs, g1, g2, g3⟩, _⟩ := I.hok a _ ha
  have J : PySem.W.InstAt s.heap a oe D none := by
    obtain ⟨oc, od, oda, osl⟩ := oe
    obtain ⟨k1, k2⟩ := g2
    dsimp only at k1 k2 g3
    subst k1 k2 g3
    exact ⟨g1, rfl, rfl, trivial⟩
  exact PySem.W.kia_one (PySem.W.handS_kitx_exc C.hg C.hk C.hs C.hd C.ha C.hn C.ht C.hm) I.kIn J e (fun z => nomatch z) fun tk => ⟨.bl b, H, I.kept (t' := tk) fun _ _ z => z, rfl, q⟩

/-- an own class over ValueError, without __init__, as the top has made it -/
structure ClF (K : PySem.W.Frag) (mg : Str → Option Value) (x : Str) where
  a : Addr
  g : mg x = some (.ref a)
  q : PySem.W.excIn K a [.type "ValueError", .type "Exception", .type "BaseException", .type "object"] "ValueError.__new__" = true
  k : PySem.W.keepIn K (.ref a) = true
  b : PySem.W.subIn K (.ref a) (.type "BaseException") = some true
  t : PySem.W.typeIn K (.ref a) = some (.type "type")
section
variable {X : Cx} {W : WX}
/-- raise X('text') -/
theorem ds_raiseT {a : Addr} {x m : Str} {j : Nat} {p p2 pos cpos : Pos} (hg : Gl X x) (C : ClF X.K X.mg x) (ha : C.a = a) (hc : X.calm = true) (tk : Takes X W) (hdb : (x == ("__debug__" : Str)) = false := by decide) : DS X W (.Raise (some (.Call (.Name x p) [.Constant (.str m) j p2] [] cpos)) none pos) (mRaise (.ref a)) := by
  subst ha
  exact ds_raise hc tk (pmk_own PySem.F.excBase_ValueError C.q C.g C.k (raises_own C.b C.t) hg hdb)
end
end DL

/-! DL12: slices. -/
namespace DL
open PySem PySem.Spec PyProof.Rows L2

abbrev DenO := DEnv → Mu → Res (Option Int)
def mON : DenO := fun _ mu => .ok none mu
def mOS (me : DenE) : DenO := fun env mu => (me env mu).bind fun d m => match d with
  | .int i => .ok (some i) m
  | _ => .stuck
def RepO (_ : Hp) (_ : List Addr) (a b : Option Int) : Prop := a = b
def tO (K : PySem.W.Frag) (W : WX) (m : DenO) : TO := fun σ H Q => ∃ F io env mu, Mem K F io H mu ∧ EnvR K F io σ env ∧ Sat K RepO F io H (fun c dd H => W c dd σ H) (m env mu) Q
abbrev DO (X : Cx) (W : WX) (e : Option Expr) (m : DenO) : Prop := PO X e (tO X.K W m)
section
variable {X : Cx} {W : WX}
theorem do_none : DO X W none mON := ⟨fun pins s σ H Q I ⟨F, io, env, mu, M, R, h⟩ => po_none.run pins s σ H Q I (h F io H none Step.rfl M rfl)⟩
theorem do_some {e : Expr} {me : DenE} (he : DE X W e me) : DO X W (some e) (mOS me) := ⟨fun pins s σ H Q I ⟨F, io, env, mu, M, R, h⟩ => (po_some he).run pins s σ H Q I ⟨F, io, env, mu, M, R, (Sat.bind h).imp fun x H1 ⟨F1, j1, m1, d, s1, M1, r1, q⟩ => by
  cases d with
  | int i => exact ⟨i, r1.int_inv, q F1 j1 H1 (some i) Step.rfl M1 rfl⟩
  | _ => exact q.elim⟩⟩
/-- the items lo .. hi -/
def cutD (l : List D) (lo hi : Option Int) : List D := (l.drop (HT.sIx l.length 0 lo)).take (HT.sIx l.length l.length hi - HT.sIx l.length 0 lo)
def gSl (b : Bool) (mu : Mu) (x : D) (lo hi : Option Int) : ORes D := match x with
  | .str z => if z.length ≤ 1000000 then some (.str (cutS z lo hi), mu) else none
  | .tup l => some (.tup (cutD l lo hi), mu)
  | x => match view mu x with
    | .lst l => mk b (.lst (cutD l lo hi)) mu
    | _ => none
def mSl (b : Bool) (mo : DenE) (ml mh : DenO) : DenE := fun env mu => (mo env mu).bind fun x m1 => (ml env m1).bind fun lo m2 => (mh env m2).bind fun hi m3 => .ofO (gSl b m3 x lo hi)
theorem cut_rep {K : PySem.W.Frag} {F : Hp} {io : List Addr} {xs : List V} {ds : List D} (r : RepL K F io xs ds) (lo hi : Option Int) : RepL K F io (cutV xs lo hi) (cutD ds lo hi) := by
  unfold cutV cutD
  rw [r.length]
  exact (r.drop _).take _
theorem de_slice (b : Bool) {o : Expr} {lo hi : Option Expr} {mo : DenE} {ml mh : DenO} {pos p2 : Pos} (ho : DE X W o mo) (hl : DO X W lo ml) (hh : DO X W hi mh) : DE X W (.Subscript o (.Slice lo hi none p2) pos) (mSl b mo ml mh) :=
  (pe_slice (sl_str.or (sl_tupA.or sl_list)) ho hl hh).imp fun σ H Q ⟨F, io, env, mu, M, R, h⟩ => ⟨F, io, env, mu, M, R, (Sat.bind h).imp fun x H1 ⟨F1, j1, m1, d, s1, M1, r1, h1⟩ =>
    ⟨F1, j1, env, m1, M1, R.step s1, (Sat.bind h1).imp fun a H2 ⟨F2, j2, m2, a', s2, M2, ra, h2⟩ => by
      obtain rfl : a = a' := ra
      refine ⟨F2, j2, env, m2, M2, (R.step s1).step s2, (Sat.bind h2).imp fun c H3 ⟨F3, j3, m3, c', s3, M3, rc, h3⟩ => ?_⟩
      obtain rfl : c = c' := rc
      have rx := r1.mono (s2.trans s3).le (s2.trans s3).pre
      have k3 : SatO X.K (Rep X.K) F3 j3 H3 (gSl b m3 d a c) Q := Sat.ofO h3
      unfold gSl at k3
      split at k3
      · rename_i z _ _
        split at k3
        · rename_i hz
          exact .inl ⟨z, rx.str_inv, by rw [sizeLine_eq]; omega, satO_some k3 M3 .str⟩
        · exact k3.elim
      · rename_i l _ _
        obtain ⟨p, xs, rfl, hp, r2⟩ := M3.tup rx rfl
        refine .inr (.inl ⟨p, xs, rfl, hp, fun hw => ?_, fun hw q hq => ?_⟩)
        · rw [r2.length] at hw
          have e : cutD l a c = l := by
            unfold cutD
            rw [hw.1, hw.2]
            simp
          rw [e] at k3
          exact satO_some k3 M3 rx
        · exact k3 _ _ _ _ (M3.stepF hq) (M3.newF hq) (.tup (SqT.of upd_same) ((cut_rep r2 a c).mono (Le.put (M3.fresh hq)) Pre.rfl))
      · split at k3
        · rename_i l e
          obtain ⟨p, xs, rfl, hp, r2⟩ := M3.lst rx e
          exact .inr (.inr ⟨p, xs, rfl, SqL.of hp, fun q hq => sat_mk M3 k3 q _ hq ⟨_, rfl, cut_rep r2 a c⟩⟩)
        · exact k3.elim⟩⟩

/-- {} -/
def mNewD : DenE := fun _ mu => .ok (.cell mu.length) (mu ++ [.dk []])
theorem de_newD {pos : Pos} : DE X W (.Dict [] [] pos) mNewD := pe_dnewK.imp fun σ H Q ⟨F, io, env, mu, M, R, h⟩ p hp => h F (io ++ [p]) _ _ (M.stepC hp) (M.newC hp ⟨[], rfl, .nil⟩) (.cell M.lenR)
end
end DL

/-! DL13: the head's heap without its empty tables; what is known of the whole is known of it. -/
namespace DL
open PySem PySem.Spec PyProof.Rows L2
def eTab (o : Obj) : Bool := match o.cls, o.data with
  | .none, .fields vs => vs.isEmpty
  | _, _ => false
/-- the written part without empty tables -/
def filt (K : PySem.W.Frag) : PySem.W.Frag := K.filter fun q => !eTab q.2
theorem lookup_mem {a : Addr} {o : Obj} : ∀ {l : List (Addr × Obj)}, l.lookup a = some o → (a, o) ∈ l
  | [], h => by cases h
  | (b, u) :: l, h => by
    rw [List.lookup_cons] at h
    split at h
    · rename_i e
      have e : a = b := by simpa using e
      cases h
      rw [e]; exact List.mem_cons_self
    · exact List.mem_cons_of_mem _ (lookup_mem h)

def nodupB : List Addr → Bool
  | [] => true
  | a :: l => !l.contains a && nodupB l
theorem lookup_of_mem {a : Addr} {o : Obj} : ∀ {l : List (Addr × Obj)}, nodupB (l.map (·.1)) = true → (a, o) ∈ l → l.lookup a = some o
  | [], _, h => by cases h
  | (b, u) :: l, hn, h => by
    simp only [List.map_cons, nodupB, Bool.and_eq_true, Bool.not_eq_true'] at hn
    rw [List.lookup_cons]
    rcases List.mem_cons.mp h with e | m
    · cases e
      simp
    · have ne : (a == b) = false := by
        refine Bool.eq_false_iff.mpr fun q => ?_
        have q : a = b := by simpa using q
        have : (l.map (·.1)).contains b = true := List.contains_iff_mem.mpr (List.mem_map.mpr ⟨(a, o), m, q⟩)
        rw [this] at hn
        cases hn.1
      rw [ne]
      exact lookup_of_mem hn.2 m
theorem filt_in {K : PySem.W.Frag} {h : Heap} (hn : nodupB (K.map (·.1)) = true) (X : K.In h) : (filt K).In h := fun a o e => X a o (lookup_of_mem hn (List.mem_filter.mp (lookup_mem e)).1)

/-- K' is K but for empty tables -/
def Thin (K K' : PySem.W.Frag) : Prop := ∀ a, K'.lookup a = K.lookup a ∨ (K'.lookup a = none ∧ ∃ o, K.lookup a = some o ∧ eTab o = true)
theorem lookup_none_of {a : Addr} : ∀ {l : List (Addr × Obj)}, (∀ o, (a, o) ∉ l) → l.lookup a = none
  | [], _ => rfl
  | (b, u) :: l, h => by
    rw [List.lookup_cons]
    split
    · rename_i e
      have e : a = b := by simpa using e
      exact absurd (by rw [e]; exact List.mem_cons_self) (h u)
    · exact lookup_none_of fun o m => h o (List.mem_cons_of_mem _ m)
theorem nodup_filter {p : Addr × Obj → Bool} : ∀ {l : List (Addr × Obj)}, nodupB (l.map (·.1)) = true → nodupB ((l.filter p).map (·.1)) = true
  | [], _ => rfl
  | q :: l, h => by
    simp only [List.map_cons, nodupB, Bool.and_eq_true, Bool.not_eq_true'] at h
    rw [List.filter_cons]
    split
    · simp only [List.map_cons, nodupB, Bool.and_eq_true, Bool.not_eq_true']
      refine ⟨Bool.eq_false_iff.mpr fun z => ?_, nodup_filter h.2⟩
      obtain ⟨x, hx, e⟩ := List.mem_map.mp (List.contains_iff_mem.mp z)
      have : (l.map (·.1)).contains q.1 = true := List.contains_iff_mem.mpr (List.mem_map.mpr ⟨x, (List.mem_filter.mp hx).1, e⟩)
      rw [this] at h
      cases h.1
    · exact nodup_filter h.2
theorem thin_filt {K : PySem.W.Frag} (hn : nodupB (K.map (·.1)) = true) : Thin K (filt K) := fun a => by
  cases e : K.lookup a with
  | none =>
    refine .inl (lookup_none_of fun o m => ?_)
    have := lookup_of_mem hn (List.mem_filter.mp m).1
    rw [e] at this; cases this
  | some o =>
    cases t : eTab o with
    | true =>
      refine .inr ⟨lookup_none_of fun u m => ?_, o, rfl, t⟩
      obtain ⟨m1, m2⟩ := List.mem_filter.mp m
      have := lookup_of_mem hn m1
      rw [e] at this
      cases this
      rw [t] at m2; cases m2
    | false =>
      refine .inl (lookup_of_mem (nodup_filter hn) (List.mem_filter.mpr ⟨lookup_mem e, ?_⟩))
      rw [t]; rfl
theorem filt_none {K : PySem.W.Frag} {a : Addr} {o : Obj} (hn : nodupB (K.map (·.1)) = true) (e : K.lookup a = some o) (t : eTab o = true) : (filt K).lookup a = none := by
  refine lookup_none_of fun u m => ?_
  obtain ⟨m1, m2⟩ := List.mem_filter.mp m
  have := lookup_of_mem hn m1
  rw [e] at this
  cases this
  rw [t] at m2; cases m2
section
variable {K K' : PySem.W.Frag} (T : Thin K K')
include T
theorem th_look {a : Addr} {o : Obj} (e : K.lookup a = some o) (t : eTab o = false) : K'.lookup a = some o := by
  rcases T a with h | ⟨_, u, h, q⟩
  · rw [h]; exact e
  · rw [e] at h; cases h; rw [t] at q; cases q
theorem th_cases {α : Type} (f : Option Obj → α) (h : ∀ o, eTab o = true → f (some o) = f none) (a : Addr) : f (K'.lookup a) = f (K.lookup a) := by
  rcases T a with e | ⟨e, o, e2, t⟩
  · rw [e]
  · rw [e, e2, h o t]
omit T in
theorem eTab_inv {o : Obj} (t : eTab o = true) : ∃ d sl, o = ⟨.none, d, .fields #[], sl⟩ := by
  obtain ⟨c, d, dt, sl⟩ := o
  unfold eTab at t
  split at t
  · rename_i vs hc hd
    simp only at hc hd
    subst hc hd
    have : vs = #[] := Array.isEmpty_iff.mp t
    subst this
    exact ⟨d, sl, rfl⟩
  · cases t
theorem th_nsIn (d : Addr) (x : Str) : PySem.W.nsIn K' d x = PySem.W.nsIn K d x := by
  unfold PySem.W.nsIn
  exact th_cases T (fun (o : Option Obj) => match o with
    | some ⟨_, _, .dict es _, _⟩ => (match es.toList.find? (fun (e : DictEntry) => e.key.isStr x) with
      | some e => some (some e.val)
      | none => if es.toList.any (fun (e : DictEntry) => e.refKey) then none else some none)
    | _ => none) (fun o t => by obtain ⟨d, sl, rfl⟩ := eTab_inv t; rfl) d
theorem th_nsOk (d : Addr) : PySem.W.nsOkIn K' d = PySem.W.nsOkIn K d := by
  unfold PySem.W.nsOkIn
  exact th_cases T (fun (o : Option Obj) => match o with
    | some ⟨_, _, .dict es _, _⟩ => es.all fun (e : DictEntry) => match e.key with | .str _ _ => true | _ => false
    | _ => false) (fun o t => by obtain ⟨d, sl, rfl⟩ := eTab_inv t; rfl) d
theorem th_own (x : Str) (v : Value) : PySem.W.ownIn K' x v = PySem.W.ownIn K x v := by
  cases v with
  | ref a =>
    unfold PySem.W.ownIn
    have := th_cases T (fun (o : Option Obj) => match o with
      | some ⟨_, _, .cls cd, _⟩ => PySem.W.nsIn K cd.ns x
      | _ => none) (fun o t => by obtain ⟨d, sl, rfl⟩ := eTab_inv t; rfl) a
    simp only [th_nsIn T]
    exact this
  | _ => rfl
theorem th_along (x : Str) : ∀ l : List Value, PySem.W.alongIn K' x l = PySem.W.alongIn K x l
  | [] => rfl
  | c :: r => by
    unfold PySem.W.alongIn
    rw [th_own T, th_along x r]
theorem th_find (v : Value) (x : Str) : PySem.W.findIn K' v x = PySem.W.findIn K v x := by
  cases v with
  | ref a =>
    unfold PySem.W.findIn
    have := th_cases T (fun (o : Option Obj) => match o with
      | some ⟨_, _, .cls cd, _⟩ => PySem.W.alongIn K x cd.mro
      | _ => none) (fun o t => by obtain ⟨d, sl, rfl⟩ := eTab_inv t; rfl) a
    simp only [th_along T]
    exact this
  | _ => rfl
theorem th_cls (a : Addr) : PySem.W.clsIn K' a = PySem.W.clsIn K a := by
  unfold PySem.W.clsIn
  exact th_cases T (fun (o : Option Obj) => match o with
    | some ⟨_, _, .cls cd, _⟩ => some cd
    | _ => none) (fun o t => by obtain ⟨d, sl, rfl⟩ := eTab_inv t; rfl) a
theorem th_code (v : Value) (q : Str) : PySem.W.codeIn K' v q = PySem.W.codeIn K v q := by
  cases v with
  | ref a =>
    unfold PySem.W.codeIn
    exact th_cases T (fun (o : Option Obj) => match o with
      | some ⟨_, _, .fields vs, _⟩ => (match vs.toList with | _ :: .str n _ :: _ => n == q | _ => false)
      | _ => false) (fun o t => by obtain ⟨d, sl, rfl⟩ := eTab_inv t; rfl) a
  | _ => rfl
theorem th_type {v t : Value} (h : PySem.W.typeIn K v = some t) (hn : t ≠ .none) : PySem.W.typeIn K' v = some t := by
  cases v with
  | ref a =>
    have h : (K.lookup a).map (·.cls) = some t := h
    show (K'.lookup a).map (·.cls) = some t
    rcases T a with e | ⟨e, o, e2, q⟩
    · rw [e]; exact h
    · rw [e2] at h
      obtain ⟨d, sl, rfl⟩ := eTab_inv q
      exact absurd (Option.some.inj h).symm hn
  | _ => exact h
theorem th_typeEq (v : Value) : (PySem.W.typeIn K' v == some (.type "type")) = (PySem.W.typeIn K v == some (.type "type")) := by
  cases v with
  | ref a =>
    unfold PySem.W.typeIn
    exact th_cases T (fun o => o.map (·.cls) == some (.type "type")) (fun o t => by obtain ⟨d, sl, rfl⟩ := eTab_inv t; rfl) a
  | _ => rfl
theorem th_special (v : Value) (x : Str) : PySem.W.specialIn K' v x = PySem.W.specialIn K v x := by
  unfold PySem.W.specialIn
  rw [show (fun t => PySem.W.findIn K' t x) = (fun t => PySem.W.findIn K t x) from funext fun t => th_find T t x]
  cases v with
  | ref a =>
    unfold PySem.W.typeIn
    exact th_cases T (fun o => (o.map (·.cls)).bind fun t => PySem.W.findIn K t x) (fun o t => by obtain ⟨d, sl, rfl⟩ := eTab_inv t; rfl) a
  | _ => rfl
theorem th_takes (v : Value) : PySem.W.takesIn K' v = PySem.W.takesIn K v := by
  unfold PySem.W.takesIn
  rw [th_special T, th_special T]
theorem th_mro (a : Addr) (b : Value) : PySem.W.mroIn K' a b = PySem.W.mroIn K a b := by
  unfold PySem.W.mroIn
  rw [th_cls T]
theorem th_sub (v b : Value) : PySem.W.subIn K' v b = PySem.W.subIn K v b := by
  cases v with
  | ref a => exact th_mro T a b
  | _ => rfl
theorem th_hasDict (a : Addr) : PySem.W.hasDictIn K' a = PySem.W.hasDictIn K a := by
  unfold PySem.W.hasDictIn
  rw [th_cls T]
theorem th_isCls (a : Addr) : PySem.W.isClsIn K' a = PySem.W.isClsIn K a := by
  unfold PySem.W.isClsIn
  rw [th_cls T]
theorem th_keep (v : Value) : PySem.W.keepIn K' v = PySem.W.keepIn K v := by
  cases v with
  | ref a =>
    unfold PySem.W.keepIn
    simp only [th_special T]
    exact th_cases T (fun (o : Option Obj) => match o with
      | some ⟨_, _, .func _, _⟩ => true
      | some ⟨_, _, .cls _, _⟩ => PySem.W.specialIn K (.ref a) "__call__" == some (some (Value.builtin "type.__call__"))
      | _ => false) (fun o t => by obtain ⟨d, sl, rfl⟩ := eTab_inv t; rfl) a
  | _ => rfl
theorem th_kitCls (t c : Value) : PySem.W.kitCls K' t c = PySem.W.kitCls K t c := by
  unfold PySem.W.kitCls
  cases c with
  | ref a =>
    simp only [th_cls T, th_typeEq T, th_sub T]
  | type n => simp only [th_sub T]
  | _ => rfl
theorem th_kitOne (t c : Value) : PySem.W.kitOne K' t c = PySem.W.kitOne K t c := by
  unfold PySem.W.kitOne
  rw [th_kitCls T]
theorem th_exm (t c : Value) : PySem.W.exmOne K' t c = PySem.W.exmOne K t c := by
  unfold PySem.W.exmOne
  rw [th_kitCls T, th_sub T]
theorem th_tail (b : List Value) : ∀ l : List Value, PySem.W.tailIn K' b l = PySem.W.tailIn K b l
  | [] => rfl
  | v :: r => by
    cases v with
    | ref a =>
      unfold PySem.W.tailIn
      have := th_cases T (fun (o : Option Obj) => match o with
        | some ⟨_, _, .cls cd, _⟩ => PySem.W.nsOkIn K cd.ns && PySem.W.nsIn K cd.ns "__init__" == some none && PySem.W.tailIn K b r
        | _ => false) (fun o t => by obtain ⟨d, sl, rfl⟩ := eTab_inv t; rfl) a
      simp only [th_nsOk T, th_nsIn T, th_tail b r]
      first
        | rw [this]
        | (refine congrArg (fun z => ((Value.ref a :: r) == b || z)) ?_; exact this)
    | _ => rfl
theorem th_exc (a : Addr) (b : List Value) (n : String) : PySem.W.excIn K' a b n = PySem.W.excIn K a b n := by
  unfold PySem.W.excIn
  have := th_cases T (fun (o : Option Obj) => match o with
    | some ⟨.type "type", _, .cls cd, sl⟩ => (match cd.mro, sl.toList with
      | .ref C' :: bm, [_, _, _, _, some (.builtin m), _] => C' == a && m == n && !cd.hasDel && PySem.W.tailIn K b bm && PySem.W.nsOkIn K cd.ns && PySem.W.nsIn K cd.ns "__init__" == some none
      | _, _ => false)
    | _ => false) (fun o t => by obtain ⟨d, sl, rfl⟩ := eTab_inv t; rfl) a
  simp only [th_nsOk T, th_nsIn T, th_tail T]
  exact this
theorem th_repK : ∀ (n : Nat) (v : Value), repK K' n v = repK K n v
  | 0, v => by cases v <;> rfl
  | n + 1, v => by
    cases v with
    | ref a =>
      unfold repK
      have := th_cases T (fun (o : Option Obj) => match o with
        | some ⟨.type "tuple", _, .seq its _, _⟩ => if its.size ≤ 1000000 then (match optL (repK K n) its.toList with
          | some ds => some (D.tup ds)
          | none => none) else none
        | _ => none) (fun o t => by obtain ⟨d, sl, rfl⟩ := eTab_inv t; rfl) a
      rw [show repK K' n = repK K n from funext fun v => th_repK n v]
      exact this
    | _ => rfl
end
end DL

/-! DL14: defs that are only called where no repr runs (FnG); calls by keywords; repr, count, index of data; the end of a law with such defs. -/
namespace DL
open PySem PySem.Spec PyProof.Rows L2

/-- a def's promise, where no repr runs around the call -/
structure FnG (P : Program) (w : World) (K : PySem.W.Frag) (mg : Str → Option Value) (base : Heap) (k : Nat) (f : Addr) (fd : FuncData) (ps : List Str) (sp : Sp) : Prop where
  len : ∀ vs H Q E, sp vs H Q E → vs.length = ps.length
  run : ∀ {A : Around} {outer : List Env} {s : Shared} {H : Hp} {args : Args} {us : List Value} {vs : List V} {Q : VK} {E : XK}, Room k A → A.guards = some [] → Env0 P w K mg base A outer s H →
    BindsTo s fd args (ps.zip us) → Vals vs us → sp vs H Q E → codeAny (model P w) A (.call (.ref f) args) (CR (L2.CX P w) outer P w H s Q E) s
section
variable {P : Program} {w : World} {K : PySem.W.Frag} {mg : Str → Option Value} {base : Heap} {k : Nat} {f : Addr} {fd : FuncData} {ps N : List Str} {sp : Sp} {x qual : Str} {st : Stmt} {m : DenS}
theorem FnG.of (F : FnOk P w K mg base (L2.CX P w) k f fd ps sp) : FnG P w K mg base k f fd ps sp where
  len := F.len
  run := fun {A outer s H args us vs Q E} hr _ e0 hb r h => F.run A outer s H args us vs Q E hr e0 hb r h
theorem FnG.mono {j : Nat} (F : FnG P w K mg base j f fd ps sp) (h : j ≤ k) : FnG P w K mg base k f fd ps sp := ⟨F.len, fun hr => F.run (hr.mono h)⟩
/-- the body's meaning, run from the def's entry -/
theorem run_den {g : List D → Mu → Res D} {X : Cx} {b : List Stmt} {vs : List V} {H : Hp} {Q : VK} {E : XK} (hb : DSs X (fun c d _ H' => E c d H') b m) (hg : g = denF N m) (h : spD X.K ps.length g vs H Q E) :
    ∃ t, PSs X b t ∧ t { nx := fun _ H' => Q .non H', rt := Q } (L2.start N vs) H := by
  subst hg
  refine ⟨_, hb, ?_⟩
  obtain ⟨hl, F, io, mu, ds, M, r, q⟩ := h
  refine ⟨F, io, startD N ds, mu, M, envR_start r, ?_⟩
  unfold denF at q
  cases e : m (startD N ds) mu with
  | nx e1 m1 => rw [e] at q; exact fun F1 j1 H1 σ1 s1 M1 R1 => q F1 j1 H1 .non s1 M1 .non
  | rt d m1 => rw [e] at q; exact fun F1 j1 H1 v s1 M1 r1 => q F1 j1 H1 v s1 M1 r1
  | exc x e1 m1 => rw [e] at q; exact fun F1 j1 H1 σ1 c dd s1 M1 R1 r1 => q F1 j1 H1 c dd s1 M1 r1
  | bk _ _ => rw [e] at q; exact q.elim
  | ct _ _ => rw [e] at q; exact q.elim
  | stuck => rw [e] at q; exact q.elim
/-- THE RULE for a def (its code object known) -/
theorem fn_DC (F : Fun K x qual st f fd) (S : FnScope N ps (defScope st))
    (hbody : ∀ (X : Cx) (E : XK) (cdv : Value) (A : Around) (outer : List Env) (s : Shared) (H : Hp), cdv = fd.code → Room k (A.deeper (envOfC qual (defScope st) s.heap.objs.size f cdv)) →
      X = cxOf (L2.CX P w) P w K mg base N qual (defScope st) f cdv A outer s H E → DSs X (fun c d _ H' => E c d H') (defBody st) m) :
    FnOk P w K mg base (L2.CX P w) (k + 1) f fd ps (spD K ps.length (denF N m)) := by
  obtain ⟨oc, od, kV, doc, pm, an, cdv, ct, osl, rfl, lk, hcd⟩ := F.ex
  exact fn_of lk hcd S (fun vs H Q E h => h.1) fun A outer s H vs Q E hr h => run_den (X := cxOf (L2.CX P w) P w K mg base N qual (defScope st) f cdv A outer s H E) (hbody _ E cdv A outer s H rfl hr rfl) rfl h
/-- THE RULE for a def in which repr is called, or another such def -/
theorem fn_DG (F : Fun K x qual st f fd) (S : FnScope N ps (defScope st))
    (hbody : ∀ (X : Cx) (E : XK) (cdv : Value) (A : Around) (outer : List Env) (s : Shared) (H : Hp), cdv = fd.code → Room k (A.deeper (envOfC qual (defScope st) s.heap.objs.size f cdv)) → A.guards = some [] →
      X = cxOf (L2.CX P w) P w K mg base N qual (defScope st) f cdv A outer s H E → DSs X (fun c d _ H' => E c d H') (defBody st) m) :
    FnG P w K mg base (k + 1) f fd ps (spD K ps.length (denF N m)) := by
  obtain ⟨oc, od, kV, doc, pm, an, cdv, ct, osl, rfl, lk, hcd⟩ := F.ex
  refine ⟨fun vs H Q E h => h.1, fun {A outer s H args us vs Q E} hr hgd e0 hb r h => ?_⟩
  exact LamX.run_ofS (E := E) lk hcd S hr e0 hb r h.1 fun hr' => run_den (X := cxOf (L2.CX P w) P w K mg base N qual (defScope st) f cdv A outer s H E) (hbody _ E cdv A outer s H rfl hr' hgd rfl) rfl h
end
section
variable {X : Cx} {W : WX} {k n : Nat} {f : Addr} {fd : FuncData} {ps ks : List Str} {sp : Sp} {x : Str} {p pos : Pos} {e : Expr} {es : List Expr} {m : DenA} {g : List D → Mu → Res D}
theorem run_G {pins : List (Addr × Obj)} {σ : L2.St} {H : Hp} {s : Shared} {Q : VK} {us : List Value} {kw : List (Str × Value)} {vs : List V} {zs : List Value} (F : FnG X.prog X.w X.K X.mg X.base k f fd ps sp) (hr : Room k X.A) (hgd : X.A.guards = some []) (tk : Takes X W)
    (I : Inv X pins σ H s) (hb : BindsTo s fd ⟨us, kw⟩ (ps.zip zs)) (r : Vals vs zs) (h : sp vs H Q (WE W σ)) : wpAny (model X.prog X.w) X.A (call (.ref f) us kw) (EP X pins σ Q) X.xe s := by
  have c := F.run (Q := Q) (E := WE W σ) hr hgd I.env0 hb r h
  refine wpAny_call (codeAny_mono c fun res s' q => ?_)
  match res, q with
  | .error e, q => exact passAt tk σ pins H s e s' I q
  | .ok (.ret u), q => exact I.after q
theorem run_F {pins : List (Addr × Obj)} {σ : L2.St} {H : Hp} {s : Shared} {Q : VK} {us : List Value} {kw : List (Str × Value)} {vs : List V} {zs : List Value} (F : FnOk X.prog X.w X.K X.mg X.base (L2.CX X.prog X.w) k f fd ps sp) (hr : Room k X.A) (tk : Takes X W)
    (I : Inv X pins σ H s) (hb : BindsTo s fd ⟨us, kw⟩ (ps.zip zs)) (r : Vals vs zs) (h : sp vs H Q (WE W σ)) : wpAny (model X.prog X.w) X.A (call (.ref f) us kw) (EP X pins σ Q) X.xe s := by
  have c := F.run X.A X.stack s H ⟨us, kw⟩ zs vs Q (WE W σ) hr I.env0 hb r h
  refine wpAny_call (codeAny_mono c fun res s' q => ?_)
  match res, q with
  | .error e, q => exact passAt tk σ pins H s e s' I q
  | .ok (.ret u), q => exact I.after q
theorem de_callG (hg : Gl X x) (hl : ps.length = n) (F : FnG X.prog X.w X.K X.mg X.base k f fd ps (spD X.K n g)) (hgd : X.A.guards = some []) (tk : Takes X W) (hr : Room k X.A) (hm : X.mg x = some (.ref f)) (hk : PySem.W.keepIn X.K (.ref f) = true) (hb : Binds X.K fd ps [])
    (ha : DA X W (e :: es) m) (hdb : (x == ("__debug__" : Str)) = false := by decide) (he : starEach (e :: es) X.env = (false, eval e X.env) :: starEach es X.env := by rfl) (hpl : (backTo pos (starEach es X.env)).any (·.1) = false := by rfl) :
    DE X W (.Call (.Name x p) (e :: es) [] pos) (mCallF n g m) := by
  subst hl
  have R : PE X (.Call (.Name x p) (e :: es) [] pos) (fun σ H Q => tA X.K W m σ H fun vs H1 => spD X.K ps.length g vs H1 Q (WE W σ)) := by
    refine ⟨fun pins s σ H Q I h => wpAny_Call_Name_kw (ld_glob I hg hm ?_ hdb)⟩
    refine PySem.W.callWith_K (h₀ := X.base) I.ok.mod.kin hk ?_ he hpl
    refine thn (ha.run pos pins s σ H _ I h) fun us s1 q0 => ?_
    obtain ⟨vs, H1, I1, r, q⟩ := q0
    have hlen : us.length = ps.length := by rw [← r.length]; exact q.1
    have hb' := hb s1 us I1.kIn (by rw [List.append_nil]; exact hlen)
    rw [List.append_nil] at hb'
    exact ⟨I1.kIn, run_G F hr hgd tk I1 hb' r q⟩
  exact R.imp fun σ H Q h => tE_callF h

/-! ### f(a = .., b = ..), nothing by position -/
def permL {α : Type} (ix : List Nat) (l : List α) : List α := ix.filterMap fun i => l[i]?
theorem permL_vals {vs : List V} {us : List Value} (r : Vals vs us) (ix : List Nat) : Vals (permL ix vs) (permL ix us) := by
  unfold permL
  induction ix with
  | nil => exact .nil
  | cons i ix ih =>
    rw [List.filterMap_cons, List.filterMap_cons]
    cases e : vs[i]? with
    | none =>
      have : us[i]? = none := by
        rw [List.getElem?_eq_none_iff] at e ⊢
        rw [← r.length]; exact e
      rw [this]
      exact ih
    | some v =>
      obtain ⟨u, e2, ru⟩ := r.get e
      rw [e2]
      exact .cons ru ih
theorem permL_rep {K : PySem.W.Frag} {F : Hp} {io : List Addr} {vs : List V} {ds : List D} (r : RepL K F io vs ds) (ix : List Nat) : RepL K F io (permL ix vs) (permL ix ds) := by
  unfold permL
  induction ix with
  | nil => exact .nil
  | cons i ix ih =>
    rw [List.filterMap_cons, List.filterMap_cons]
    cases e : vs[i]? with
    | none =>
      have : ds[i]? = none := by
        rw [List.getElem?_eq_none_iff] at e ⊢
        rw [← r.length]; exact e
      rw [this]
      exact ih
    | some v =>
      obtain ⟨d, e2, ru⟩ := r.getV e
      rw [e2]
      exact .cons ru ih
/-- how the keywords ks bind: the parameters' order is ix -/
def KwB (K : PySem.W.Frag) (fd : FuncData) (ps ks : List Str) (ix : List Nat) : Prop := ∀ (s : Shared) (ws : List Value), ws.length = ks.length → BindsTo s fd ⟨[], ks.zip ws⟩ (ps.zip (permL ix ws))
theorem _root_.L2.PK.of_nil : PK X [] tNil := pk_nil
abbrev DK (X : Cx) (W : WX) (kws : List Keyword) (m : DenA) : Prop := PK X kws (tA X.K W m)
theorem PK.imp {kws : List Keyword} {t t' : TA} (h : PK X kws t) (q : ∀ σ H Q, t' σ H Q → t σ H Q) : PK X kws t' := ⟨fun pos pins s σ H Q I z => h.run pos pins s σ H Q I (q σ H Q z)⟩
theorem dk_nil : DK X W [] mNil := PK.imp pk_nil fun σ H Q ⟨F, io, env, mu, M, R, h⟩ => h F io H [] Step.rfl M .nil
theorem dk_cons {nm : Option Str} {kpos : Pos} {kws : List Keyword} {me : DenE} (ha : DE X W e me) (hr : DK X W kws m) : DK X W (⟨nm, e, kpos⟩ :: kws) (mCons me m) :=
  PK.imp (pk_cons ha hr) fun σ H Q ⟨F, io, env, mu, M, R, h⟩ => ⟨F, io, env, mu, M, R, (Sat.bind h).imp fun x H1 ⟨F1, j1, m1, dx, s1, M1, r1, h1⟩ =>
    ⟨F1, j1, env, m1, M1, R.step s1, (Sat.bind h1).imp fun xs H2 ⟨F2, j2, m2, ds, s2, M2, r2, h2⟩ => h2 F2 j2 H2 _ Step.rfl M2 (.cons (r1.mono s2.le s2.pre) r2)⟩⟩
def mCallKw (c n : Nat) (ix : List Nat) (g : List D → Mu → Res D) (m : DenA) : DenE := fun env mu => (m env mu).bind fun ds m1 => if ds.length = c ∧ (permL ix ds).length = n then g (permL ix ds) m1 else .stuck
theorem tE_callKw {c n : Nat} {ix : List Nat} {σ : L2.St} {H : Hp} {Q : VK} (h : tE X.K W (mCallKw c n ix g m) σ H Q) : tA X.K W m σ H fun vs H1 => vs.length = c ∧ spD X.K n g (permL ix vs) H1 Q (WE W σ) := by
  obtain ⟨F, io, env, mu, M, R, h⟩ := h
  refine ⟨F, io, env, mu, M, R, (Sat.bind h).imp fun vs H1 ⟨F1, j1, m1, ds, s1, M1, r1, q⟩ => ?_⟩
  have q : Sat X.K (Rep X.K) F1 j1 H1 (fun c dd H => W c dd σ H) (if ds.length = c ∧ (permL ix ds).length = n then g (permL ix ds) m1 else .stuck) Q := q
  by_cases hl : ds.length = c ∧ (permL ix ds).length = n
  · rw [if_pos hl] at q
    have rp := permL_rep r1 ix
    exact ⟨by rw [r1.length]; exact hl.1, by rw [rp.length]; exact hl.2, F1, j1, m1, _, M1, rp, q⟩
  · rw [if_neg hl] at q; exact q.elim
theorem kw_core {c : Nat} {ix : List Nat} {kws : List Keyword} (hg : Gl X x) (hm : X.mg x = some (.ref f)) (hk : PySem.W.keepIn X.K (.ref f) = true) (hb : KwB X.K fd ps ks ix) (hc : ks.length = c)
    (run : ∀ {pins : List (Addr × Obj)} {σ : L2.St} {H : Hp} {s : Shared} {Q : VK} {kw : List (Str × Value)} {vs : List V} {zs : List Value}, Inv X pins σ H s → BindsTo s fd ⟨[], kw⟩ (ps.zip zs) → Vals vs zs → sp vs H Q (WE W σ) → wpAny (model X.prog X.w) X.A (call (.ref f) [] kw) (EP X pins σ Q) X.xe s)
    (hkw : DK X W kws m) (hall : (backToKw pos (keywordEach kws X.env)).all (·.1.isSome) = true) (hks : (backToKw pos (keywordEach kws X.env)).filterMap (·.1) = ks) (hdb : (x == ("__debug__" : Str)) = false)
    (hpl : ((backTo pos (starEach [] X.env)).any (·.1) || (backToKw pos (keywordEach kws X.env)).any (·.1.isNone)) = false) : PE X (.Call (.Name x p) [] kws pos) (fun σ H Q => tA X.K W m σ H fun vs H1 => vs.length = c ∧ sp (permL ix vs) H1 Q (WE W σ)) := by
  refine ⟨fun pins s σ H Q I h => wpAny_Call_Name_kw (ld_glob I hg hm ?_ hdb)⟩
  refine PySem.W.callWith_KW0 (h₀ := X.base) I.ok.mod.kin hk hall ?_ hpl
  refine thn (hkw.run pos pins s σ H _ I h) fun ws s1 q0 => ?_
  obtain ⟨zs, H1, I1, rz, hl, q⟩ := q0
  refine ⟨I1.kIn, ?_⟩
  rw [hks]
  exact run I1 (hb s1 ws (by rw [← rz.length, hl, hc])) (permL_vals rz ix) q
theorem de_callKw {c : Nat} {ix : List Nat} {kws : List Keyword} (hg : Gl X x) (hc : ks.length = c) (F : FnOk X.prog X.w X.K X.mg X.base (L2.CX X.prog X.w) k f fd ps (spD X.K n g)) (tk : Takes X W) (hr : Room k X.A) (hm : X.mg x = some (.ref f)) (hk : PySem.W.keepIn X.K (.ref f) = true) (hb : KwB X.K fd ps ks ix)
    (hkw : DK X W kws m) (hall : (backToKw pos (keywordEach kws X.env)).all (·.1.isSome) = true := by rfl) (hks : (backToKw pos (keywordEach kws X.env)).filterMap (·.1) = ks := by rfl) (hdb : (x == ("__debug__" : Str)) = false := by decide)
    (hpl : ((backTo pos (starEach [] X.env)).any (·.1) || (backToKw pos (keywordEach kws X.env)).any (·.1.isNone)) = false := by rfl) : DE X W (.Call (.Name x p) [] kws pos) (mCallKw c n ix g m) :=
  (kw_core (sp := spD X.K n g) hg hm hk hb hc (fun I b r h => run_F F hr tk I b r h) hkw hall hks hdb hpl).imp fun σ H Q h => tE_callKw h
theorem de_callKwG {c : Nat} {ix : List Nat} {kws : List Keyword} (hg : Gl X x) (hc : ks.length = c) (F : FnG X.prog X.w X.K X.mg X.base k f fd ps (spD X.K n g)) (hgd : X.A.guards = some []) (tk : Takes X W) (hr : Room k X.A) (hm : X.mg x = some (.ref f)) (hk : PySem.W.keepIn X.K (.ref f) = true) (hb : KwB X.K fd ps ks ix)
    (hkw : DK X W kws m) (hall : (backToKw pos (keywordEach kws X.env)).all (·.1.isSome) = true := by rfl) (hks : (backToKw pos (keywordEach kws X.env)).filterMap (·.1) = ks := by rfl) (hdb : (x == ("__debug__" : Str)) = false := by decide)
    (hpl : ((backTo pos (starEach [] X.env)).any (·.1) || (backToKw pos (keywordEach kws X.env)).any (·.1.isNone)) = false := by rfl) : DE X W (.Call (.Name x p) [] kws pos) (mCallKw c n ix g m) :=
  (kw_core (sp := spD X.K n g) hg hm hk hb hc (fun I b r h => run_G F hr hgd tk I b r h) hkw hall hks hdb hpl).imp fun σ H Q h => tE_callKw h
/-- an expression that is never reached -/
def mBad : DenE := fun _ _ => .stuck
theorem de_bad : DE X W e mBad := ⟨fun pins s σ H Q I ⟨_, _, _, _, _, _, h⟩ => h.elim⟩
def mBadT : DenT := fun _ _ => .stuck
theorem dt_bad : DT X W e mBadT := ⟨fun pins s σ H Q I ⟨_, _, _, _, _, _, h⟩ => h.elim⟩
end
end DL

/-! DL15: repr, count, index of data; == of texts; isinstance by a table. -/
namespace DL
open PySem PySem.Spec PyProof.Rows L2

/-! ### repr of data -/
mutual
def ibD : D → Bool
  | .int i => decide (i.natAbs.log2 < 1920)
  | .lst l => ibL l
  | .tup l => ibL l
  | _ => true
def ibL : List D → Bool
  | [] => true
  | d :: ds => ibD d && ibL ds
end
/-! at most so many signs -/
mutual
def szD : D → Nat
  | .int i => i.natAbs.log2 + 4
  | .str x => 10 * x.length + 2
  | .lst l => szL l + 3
  | .tup l => szL l + 3
  | _ => 5
def szL : List D → Nat
  | [] => 0
  | d :: ds => szD d + 2 + szL ds
end
theorem int_sz {i : Int} : (PyData.shown (.int i)).length ≤ i.natAbs.log2 + 4 := by
  rw [PyData.shown_int]
  have h := int_text_length_le (a := i) (k := i.natAbs.log2 + 1) (by omega) (by omega)
  have e : (Str.ofString (toString i)).length = (toString i).length := PySem.ofString_length _
  rw [e]
  omega
mutual
theorem shown_sz : ∀ (n : Nat) (d : D), okD n d = true → ibD d = true → (py d).showable = true ∧ (py d).shown.length ≤ szD d
  | _, .non, _, _ => by
    have e : (PyData.shown .none).length = 4 := rfl
    simp only [py, PyData.showable, szD, true_and]
    omega
  | _, .bl b, _, _ => by
    have e : (PyData.shown (.bool b)).length ≤ 5 := by cases b <;> decide
    simp only [py, PyData.showable, szD, true_and]
    omega
  | _, .int i, _, h => by
    have e := int_sz (i := i)
    simp only [ibD] at h
    simp only [py, PyData.showable, szD]
    exact ⟨h, e⟩
  | _, .str x, h, _ => by
    simp only [okD] at h
    have hx : ∀ c ∈ x.cps.toList, c < 16 ^ 8 := fun c hc => by
      unfold PyData.strOk at h
      have := (Array.all_eq_true_iff_forall_mem.mp h) c (Array.mem_toList_iff.mp hc)
      have h2 : c < 0x110000 := by simpa using this
      have e : (16 : Nat) ^ 8 = 4294967296 := by decide
      omega
    have e := StrLaws.reprText_len x hx
    simp only [py, PyData.showable, szD, PyData.shown, true_and]
    exact e
  | n + 1, .lst l, h, k => by
    simp only [okD] at h
    simp only [ibD] at k
    obtain ⟨a, b⟩ := shownL_sz n l h k
    have h2 := listText_len_le (PyData.shownAll (pyL l))
    have h3 := PyData.shownAll_length (pyL l)
    simp only [py, PyData.showable, szD, PyData.shown]
    exact ⟨a, by omega⟩
  | n + 1, .tup l, h, k => by
    simp only [okD] at h
    simp only [ibD] at k
    obtain ⟨a, b⟩ := shownL_sz n l h k
    have h2 := tupleText_len_le (PyData.shownAll (pyL l))
    have h3 := PyData.shownAll_length (pyL l)
    simp only [py, PyData.showable, szD, PyData.shown]
    exact ⟨a, by omega⟩
  | 0, .lst _, h, _ => by simp [okD] at h
  | 0, .tup _, h, _ => by simp [okD] at h
  | n, .rl _, h, _ => by cases n <;> simp [okD] at h
  | n, .dk _, h, _ => by cases n <;> simp [okD] at h
  | n, .cell _, h, _ => by cases n <;> simp [okD] at h
  | n, .ty _, h, _ => by cases n <;> simp [okD] at h
  | n, .ref _, h, _ => by cases n <;> simp [okD] at h
  | n, .exn _, h, _ => by cases n <;> simp [okD] at h
  | n, .exf _ _ _, h, _ => by cases n <;> simp [okD] at h
theorem shownL_sz : ∀ (n : Nat) (l : List D), okL n l = true → ibL l = true → PyData.showableAll (pyL l) = true ∧ ((PyData.shownAll (pyL l)).map (·.length)).sum + 2 * (pyL l).length ≤ szL l
  | _, [], _, _ => by simp [pyL, PyData.showableAll, PyData.shownAll]
  | n, d :: ds, h, k => by
    simp only [okL, Bool.and_eq_true] at h
    simp only [ibL, Bool.and_eq_true] at k
    obtain ⟨a1, b1⟩ := shown_sz n d h.1 k.1
    obtain ⟨a2, b2⟩ := shownL_sz n ds h.2 k.2
    simp only [pyL, PyData.showableAll, PyData.shownAll, szL, List.map_cons, List.sum_cons, List.length_cons, a1, a2, Bool.and_self, true_and]
    omega
end
def rpB (d : D) : Bool := okD 60 d && ibD d && decide (szD d ≤ 16000000)
/-- the text that repr tells of data -/
def shD (d : D) : Str := (py d).shown
/-! what a value shows now, so deep -/
mutual
def vwD (mu : Mu) : Nat → D → D
  | 0, d => d
  | n + 1, .cell c => match mu[c]? with
    | some (.lst l) => .lst (vwL mu n l)
    | _ => .cell c
  | n + 1, .lst l => .lst (vwL mu n l)
  | n + 1, .tup l => .tup (vwL mu n l)
  | _ + 1, d => d
def vwL (mu : Mu) (n : Nat) : List D → List D
  | [] => []
  | d :: ds => vwD mu n d :: vwL mu n ds
end
def gRepr (mu : Mu) (ds : List D) : ORes D := match ds with
  | [x] => if rpB (vwD mu 60 x) = true then some (.str (shD (vwD mu 60 x)), mu) else none
  | _ => none
section
variable {K : PySem.W.Frag} {F H : Hp} {io : List Addr} {mu : Mu}
theorem Mem.cellAt {n : Nat} {v : V} {ds : List D} (M : Mem K F io H mu) (r : Rep K F io v (.cell n)) (e : mu[n]? = some (.lst ds)) : ∃ a xs, v = .ref a ∧ H a = some (.lst xs) ∧ RepL K F io xs ds := by
  obtain ⟨a, xs, h1, _, h2, h3⟩ := M.lstW r e
  exact ⟨a, xs, h1, h2, h3⟩
mutual
theorem Mem.dpV (M : Mem K F io H mu) : ∀ (n k : Nat) {v : V} {d : D}, Rep K F io v d → okD k (vwD mu n d) = true → Dp K H v (py (vwD mu n d))
  | 0, k, _, d, r, h => by
    simp only [vwD] at h ⊢
    exact rep_dp M.le k r h
  | n + 1, k, v, .cell c, r, h => by
    simp only [vwD] at h ⊢
    cases e : mu[c]? with
    | none => rw [e] at h; cases k <;> simp [okD] at h
    | some z =>
      rw [e] at h
      cases z with
      | lst l =>
        obtain ⟨a, xs, rfl, ha, r2⟩ := M.cellAt r e
        cases k with
        | zero => simp [okD] at h
        | succ k =>
          simp only [okD] at h
          simp only [py]
          exact .lst (SqL.of ha) (Mem.dpVL M n k r2 h)
      | _ => cases k <;> simp [okD] at h
  | n + 1, k, _, .lst l, .lst hF r, h => by
    cases k with
    | zero => simp [vwD, okD] at h
    | succ k =>
      simp only [vwD, okD] at h
      simp only [vwD, py]
      exact .lst (SqL.of (M.le _ _ hF)) (Mem.dpVL M n k r h)
  | n + 1, k, _, .tup l, .tup hF r, h => by
    cases k with
    | zero => simp [vwD, okD] at h
    | succ k =>
      simp only [vwD, okD] at h
      simp only [vwD, py]
      exact .tup (M.le.sqt hF) (Mem.dpVL M n k r h)
  | n + 1, k, _, .non, r, h => by simp only [vwD] at h ⊢; exact rep_dp M.le k r h
  | n + 1, k, _, .bl _, r, h => by simp only [vwD] at h ⊢; exact rep_dp M.le k r h
  | n + 1, k, _, .int _, r, h => by simp only [vwD] at h ⊢; exact rep_dp M.le k r h
  | n + 1, k, _, .str _, r, h => by simp only [vwD] at h ⊢; exact rep_dp M.le k r h
  | n + 1, k, _, .ty _, r, h => by simp only [vwD] at h ⊢; exact rep_dp M.le k r h
  | n + 1, k, _, .ref _, r, h => by simp only [vwD] at h ⊢; exact rep_dp M.le k r h
  | n + 1, k, _, .rl _, r, h => by simp only [vwD] at h ⊢; exact rep_dp M.le k r h
  | n + 1, k, _, .dk _, r, h => by simp only [vwD] at h ⊢; exact rep_dp M.le k r h
  | n + 1, k, _, .exn _, r, h => by simp only [vwD] at h ⊢; exact rep_dp M.le k r h
  | n + 1, k, _, .exf _ _ _, r, h => by simp only [vwD] at h ⊢; exact rep_dp M.le k r h
theorem Mem.dpVL (M : Mem K F io H mu) : ∀ (n k : Nat) {v : List V} {d : List D}, RepL K F io v d → okL k (vwL mu n d) = true → DpAll K H v (pyL (vwL mu n d))
  | _, _, _, _, .nil, _ => by simp only [vwL, pyL]; exact .nil
  | n, k, _, _, .cons r t, h => by
    simp only [vwL, okL, Bool.and_eq_true] at h
    simp only [vwL, pyL]
    exact .cons (Mem.dpV M n k r h.1) (Mem.dpVL M n k t h.2)
end
end
section
variable {X : Cx}
theorem call_reprD (hu : X.A.units + 65 < cLine) (hgd : X.A.guards = some []) : CallR X (.builtin "repr") (fun xs H Q => ∃ x d, xs = [x] ∧ Dp X.K H x d ∧ d.canLay0 = true ∧ d.depth ≤ 60 ∧ d.showable = true ∧ d.shown.length ≤ sizeLine ∧ Q (.str d.shown) H) := by
  intro pins s σ H xs us Q I r h
  obtain ⟨x, d, rfl, hd, hc, hdp, hs, hz, q⟩ := h
  obtain ⟨u, rfl, ru⟩ := r.one
  obtain ⟨as, rd⟩ := Dp.reads I d x u hd ru
  have hnd : d.hasDict = true → sysModules ∉ as := PyData.noDict_hsm (PyData.hasDict_of_canLay d hc)
  cases rd with
  | none => exact PySem.P.repr_of_none ⟨.str _, H, I.tok _, ⟨_, by simp only [PyData.shown]; rfl⟩, q⟩
  | bool b => exact PySem.P.repr_of_bool ⟨.str _, H, I.tok _, ⟨_, by simp only [PyData.shown]; rfl⟩, q⟩
  | int i t =>
    have hb : i.natAbs.log2 < 1920 := by simpa [PyData.showable] using hs
    exact PySem.P.repr_of_int hb ⟨.str _, H, I.tok _, ⟨_, by simp only [PyData.shown]; rfl⟩, q⟩
  | str y t =>
    have hz' : (reprText y).length ≤ sizeLine := by simpa only [PyData.shown] using hz
    exact PySem.P.repr_of_str ⟨.str _, H, I.tok _, ⟨_, by simp only [PyData.shown]; rfl⟩, q⟩ hz'
  | list h1 h2 h3 h4 =>
    exact repr_of_reads' (.list h1 h2 h3 h4) hs hnd hgd (by omega) (fun _ _ e => e) (fun h' v tk hk => ⟨.str _, H, I.kept hk, ⟨_, rfl⟩, q⟩) hz
  | tuple h1 h2 h3 h4 =>
    exact repr_of_reads' (.tuple h1 h2 h3 h4) hs hnd hgd (by omega) (fun _ _ e => e) (fun h' v tk hk => ⟨.str _, H, I.kept hk, ⟨_, rfl⟩, q⟩) hz
  | dict h1 h2 h3 h4 h5 => simp [PyData.canLay0] at hc
end
section
variable {K : PySem.W.Frag}
theorem cg_repr : CallD K (fun xs H Q => ∃ x d, xs = [x] ∧ Dp K H x d ∧ d.canLay0 = true ∧ d.depth ≤ 60 ∧ d.showable = true ∧ d.shown.length ≤ sizeLine ∧ Q (.str d.shown) H) gRepr := fun F io H mu vs ds Q M r h => by
  unfold gRepr at h
  split at h
  · rename_i x
    obtain ⟨v, rfl, rx⟩ := r.one_inv
    split at h
    · rename_i hk
      unfold rpB at hk
      simp only [Bool.and_eq_true, decide_eq_true_eq] at hk
      obtain ⟨⟨h1, h2⟩, h3⟩ := hk
      obtain ⟨a, b⟩ := py_lay 60 _ h1
      obtain ⟨c, d⟩ := shown_sz 60 _ h1 h2
      exact ⟨v, _, rfl, M.dpV 60 60 rx h1, a, b, c, by rw [sizeLine_eq]; omega, satO_some h M .str⟩
    · exact h.elim
  · exact h.elim
/-! ### == of texts of any signs -/
def gEqS (neg : Bool) (mu : Mu) (x y : D) : ORes D := match x, y with
  | .str a, .str b => some (.bl (if neg then !decide (a = b) else decide (a = b)), mu)
  | _, _ => none
theorem decS {a b : Str} : decide (V.str a = V.str b) = decide (a = b) := by
  rw [Bool.eq_iff_iff]; simp
theorem og_eqS : OpD K rEq (gEqS false) := fun F io H mu x y dx dy Q M rx ry h => by
  unfold gEqS at h
  split at h
  · rename_i a b
    have := rx.str_inv
    subst this
    have := ry.str_inv
    subst this
    refine ⟨rfl, ?_⟩
    rw [decS]
    exact satO_some h M .bl
  · exact h.elim
theorem og_neS : OpD K rNe (gEqS true) := fun F io H mu x y dx dy Q M rx ry h => by
  unfold gEqS at h
  split at h
  · rename_i a b
    have := rx.str_inv
    subst this
    have := ry.str_inv
    subst this
    refine ⟨rfl, ?_⟩
    rw [decS]
    exact satO_some h M .bl
  · exact h.elim
/-! ### xs.count(y), xs.index(y) of data -/
def idxD (y : D) : List D → Option Nat
  | [] => none
  | x :: xs => if deq x y then some 0 else (idxD y xs).map (· + 1)
def gCountD (mu : Mu) (x : D) (ds : List D) : ORes D := match view mu x, ds with
  | .lst l, [y] => if okD 60 (.lst l) = true ∧ okD 60 (view mu y) = true then some (.int ((l.countP fun z => deq z (view mu y)) : Nat), mu) else none
  | _, _ => none
def gIndexD (mu : Mu) (x : D) (ds : List D) : ORes D := match view mu x, ds with
  | .lst l, [y] => if okD 60 (.lst l) = true ∧ okD 60 (view mu y) = true then (idxD (view mu y) l).map fun j => (.int (j : Nat), mu) else none
  | _, _ => none
def rCountD (K : PySem.W.Frag) : V → List V → Hp → VK → Prop := fun x xs H Q => ∃ (a : Addr) (y : V) (d : PyData) (ds : List PyData), x = V.ref a ∧ xs = [y] ∧ Dp K H (V.ref a) (.list ds) ∧ Dp K H y d ∧
  SeqAt.shaped (.list ds) = true ∧ SeqAt.shaped d = true ∧ Q (.int ((ds.countP fun z => PyData.eqv z d) : Nat)) H
theorem mt_countD {X : Cx} (hu : X.A.units + 65 < cLine) : MtR X "list.count" (rCountD X.K) := by
  intro pins s σ H x xs v us Q I rx rxs h
  obtain ⟨a, y, d, ds, rfl, rfl, hl, hy, sl, sd, q⟩ := h
  cases rx
  obtain ⟨uy, rfl, ry⟩ := rxs.one
  obtain ⟨bs, r1⟩ := Dp.reads I d y uy hy ry
  have lay : PyData.canLayAll0 ds = true := SeqAt.canLay_of_shaped sl
  have room : X.A.units + 1 + min (PyData.depthAll ds) d.depth < cLine := room_in_shaped sd hu
  cases hl with
  | lst hs ha =>
    obtain ⟨its, rv, ⟨⟨cls, dd, data, sls⟩, n, ho, hc, hdn, hdt⟩, hlen⟩ := I.list hs
    simp only at hc hdt
    subst hc hdt
    obtain ⟨as, h4⟩ := Dp.readsAll I ds _ its ha rv
    have hmap : its.map (SeqAt.readOf s.heap) = ds := SeqAt.readsAll_map ds its as lay h4
    have hcnt : its.toArray.toList.countP (fun u => PyData.eqv (SeqAt.readOf s.heap u) d) = ds.countP fun z => PyData.eqv z d := by
      rw [← hmap, List.countP_map]
      rfl
    refine call_meets PySem.F.slot_list_count ⟨_, ho, rfl⟩ PySem.F.entry_list_count (PySem.F.args_list_count_2 _ _)
      (SeqAt.list_countAt a its.toArray n dd sls uy fun u => PyData.eqv (SeqAt.readOf s.heap u) d) ⟨ho, ?_, ?_⟩
    · exact SeqAt.items_eqAt (vs := its.toArray) (show ReadsAll s.heap its.toArray.toList ds as from h4) r1 lay (SeqAt.canLay_of_shaped sd) room
    · refine ⟨.int ((ds.countP fun z => PyData.eqv z d) : Nat), H, I.tok _, ⟨s.toks, ?_⟩, q⟩
      rw [hcnt]
theorem count_py {n m : Nat} {d : D} (hd : okD m d = true) : ∀ {l : List D}, okL n l = true → ((pyL l).countP fun z => PyData.eqv z (py d)) = l.countP fun z => deq z d
  | [], _ => rfl
  | x :: xs, h => by
    simp only [okL, Bool.and_eq_true] at h
    simp only [pyL, List.countP_cons]
    rw [py_eqv n m x d h.1 hd, count_py hd h.2]
theorem mg_countD : MetD K (rCountD K) gCountD := fun F io H mu x vs dx ds Q M rx r h => by
  unfold gCountD at h
  split at h
  · rename_i l y e
    split at h
    · rename_i hk
      obtain ⟨v, rfl, ry⟩ := r.one_inv
      obtain ⟨a, xs, rfl, ha, r2⟩ := M.lst rx e
      have dl := M.dp (n := 60) rx (by rw [e]; exact hk.1)
      rw [e] at dl
      refine ⟨a, v, _, pyL l, rfl, rfl, by simpa only [py] using dl, M.dp ry hk.2, by have := shaped_py hk.1; simpa only [py] using this, shaped_py hk.2, ?_⟩
      rw [count_py (n := 59) hk.2 (by simpa only [okD] using hk.1)]
      exact satO_some h M .int
    · exact h.elim
  · exact h.elim
theorem idxD_py {n m : Nat} {d : D} (hd : okD m d = true) : ∀ {l : List D} {j : Nat}, okL n l = true → idxD d l = some j → ∃ z, (pyL l)[j]? = some z ∧ PyData.eqv z (py d) = true ∧ ∀ (i : Nat) z', i < j → (pyL l)[i]? = some z' → PyData.eqv z' (py d) = false
  | [], _, _, e => by cases e
  | x :: xs, j, h, e => by
    simp only [okL, Bool.and_eq_true] at h
    simp only [idxD] at e
    have ex := py_eqv n m x d h.1 hd
    split at e
    · rename_i hx
      cases e
      exact ⟨py x, by simp [pyL], by rw [ex]; exact hx, fun i z' hi => absurd hi (Nat.not_lt_zero i)⟩
    · rename_i hx
      rw [Option.map_eq_some_iff] at e
      obtain ⟨k, e1, rfl⟩ := e
      obtain ⟨z, h1, h2, h3⟩ := idxD_py hd h.2 e1
      refine ⟨z, by simpa [pyL] using h1, h2, fun i z' hi hz => ?_⟩
      cases i with
      | zero =>
        have : z' = py x := by simpa [pyL] using hz.symm
        rw [this, ex]
        simpa using hx
      | succ i => exact h3 i z' (by omega) (by simpa [pyL] using hz)
theorem mg_indexD : MetD K (rIndexD K) gIndexD := fun F io H mu x vs dx ds Q M rx r h => by
  unfold gIndexD at h
  split at h
  · rename_i l y e
    split at h
    · rename_i hk
      cases e2 : idxD (view mu y) l with
      | none => rw [e2] at h; exact h.elim
      | some j =>
        rw [e2] at h
        obtain ⟨v, rfl, ry⟩ := r.one_inv
        obtain ⟨a, xs, rfl, ha, r2⟩ := M.lst rx e
        have dl := M.dp (n := 60) rx (by rw [e]; exact hk.1)
        rw [e] at dl
        obtain ⟨z, h1, h2, h3⟩ := idxD_py (n := 59) hk.2 (by simpa only [okD] using hk.1) e2
        exact ⟨a, v, _, pyL l, j, z, rfl, rfl, by simpa only [py] using dl, M.dp ry hk.2, by have := shaped_py hk.1; simpa only [py] using this, shaped_py hk.2, h1, h2, h3, satO_some h M .int⟩
    · exact h.elim
  · exact h.elim
/-! ### isinstance with own classes, by a table -/
/-- ex: error classes; isx: is a thing of the class v one of the class c -/
def clsV : D → Option Value
  | .ref C => some (.ref C)
  | .ty n => some (.type n)
  | _ => none
def gIsx (ex : Addr → Bool) (isx : Value → Value → Option Bool) (mu : Mu) (ds : List D) : ORes D := match ds with
  | [.exn (.ref a), c] => match clsV c with
    | some u => if ex a = true then (isx (.ref a) u).map fun b => (.bl b, mu) else none
    | none => none
  | [x, .ref C] => match tyN mu x with
    | some n => (isx (.type n) (.ref C)).map fun b => (.bl b, mu)
    | none => none
  | ds => gIsi mu ds
def rIsx (K : PySem.W.Frag) (ex : Addr → Bool) : List V → Hp → VK → Prop := fun xs H Q => (∃ (D a : Addr) (c : V) (cv : Value) (b : Bool), ex D = true ∧ xs = [.ref a, c] ∧ H a = some (ExH (.ref D) none a) ∧ (∀ u, RelV c u → u = cv) ∧ PySem.W.kitOne K (.ref D) cv = some b ∧ Q (.bl b) H) ∨ rIsiA K xs H Q
theorem call_isx {X : Cx} {ex : Addr → Bool} (hex : ∀ a, ex a = true → ExcC X.K a) : CallR X (.builtin "isinstance") (rIsx X.K ex) := by
  intro pins s σ H xs us Q I r h
  rcases h with ⟨D, a, c, cv, b, h1, h2⟩ | h
  · exact call_isX (hex D h1) pins s σ H xs us Q I r ⟨a, c, cv, b, h2⟩
  · exact call_isiA pins s σ H xs us Q I r h
theorem cg_isx {ex : Addr → Bool} {isx : Value → Value → Option Bool} (hi : ∀ v u b, isx v u = some b → PySem.W.kitOne K v u = some b) : CallD K (rIsx K ex) (gIsx ex isx) := fun F io H mu vs ds Q M r h => by
  unfold gIsx at h
  split at h
  · rename_i a c
    obtain ⟨v, w, rfl, rx, ry⟩ := r.two_inv
    split at h
    · rename_i u eu
      split at h
      · rename_i hex
        cases e2 : isx (.ref a) u with
        | none => rw [e2] at h; exact h.elim
        | some b =>
          rw [e2] at h
          cases rx with
          | exn hF =>
            refine .inl ⟨a, _, w, u, b, hex, rfl, M.le _ _ hF, fun z hz => ?_, hi _ _ _ e2, satO_some h M .bl⟩
            unfold clsV at eu
            split at eu
            · cases eu
              have := ry.ref_inv
              subst this
              exact hz
            · cases eu
              have := ry.ty_inv
              subst this
              exact hz
            · cases eu
      · exact h.elim
    · exact h.elim
  · rename_i x C _
    obtain ⟨v, w, rfl, rx, ry⟩ := r.two_inv
    split at h
    · rename_i n en
      cases e2 : isx (.type n) (.ref C) with
      | none => rw [e2] at h; exact h.elim
      | some b =>
        rw [e2] at h
        have := ry.ref_inv
        subst this
        exact .inr (.inl ⟨v, _, _, _, b, rfl, .own C, tyN_rep M rx en, hi _ _ _ e2, satO_some h M .bl⟩)
    · exact h.elim
  · exact .inr (cg_isi F io H mu vs _ Q M r h)
end
end DL

/-! DL16: the end of a law whose def is a FnG. -/
namespace DL
open PySem PySem.Spec PyProof.Rows L2

/-- what is tracked where the law begins: the empty tables at T, the script at a unless it is written -/
def lawH (T : List Addr) (a : Addr) (u : Option HO) : Hp := fun b => if b ∈ T then some (.tbl #[]) else if b = a then u else none
section
variable {T : List Addr} {a b : Addr} {u : Option HO} {o : HO}
theorem lawH_tab (h : b ∈ T) : lawH T a u b = some (.tbl #[]) := if_pos h
theorem lawH_at (h : a ∉ T) : lawH T a u a = u := (if_neg h).trans (if_pos rfl)
theorem lawH_inv (h : lawH T a u b = some o) : (b ∈ T ∧ o = .tbl #[]) ∨ (b ∉ T ∧ b = a ∧ u = some o) := by
  unfold lawH at h
  split at h
  · rename_i m; cases h; exact .inl ⟨m, rfl⟩
  · rename_i m
    split at h
    · rename_i e; exact .inr ⟨m, e, h⟩
    · cases h
theorem lawH_none (h : b ∉ T) (h2 : b = a → u = none) : lawH T a u b = none := by
  unfold lawH
  rw [if_neg h]
  split
  · rename_i e; exact h2 e
  · rfl
end
abbrev tab0 : Obj := { cls := .none, data := .fields #[] }
theorem law_callG {P : Program} {w : World} {K : PySem.W.Frag} {mg mb : Str → Option Value} {k : Nat} {fa a : Addr} {cs : List (Addr × Addr)} {fd : FuncData} {x : Str} {g : List D → Mu → Res D} {T : List (Addr × Str)} {s₁ : Shared} {vs : List Value} {ns : List Int}
    (KX : K.In s₁.heap) (hns : s₁.heap.Ns mainGlobals mg) (hb : s₁.heap.Ns builtinsNs mb) (hbb : ∀ x : Str, x ≠ "__name__" → mb x = bootBuiltins x) (hlim : s₁.heap.NoLimit) (hg : s₁.gens = #[])
    (hbm : ∃ (bm : Addr) (ob : Obj), mg "__builtins__" = some (.ref bm) ∧ bm ≠ builtinsNs ∧ s₁.heap.get? bm = some ob ∧ ob.cls = .type "module" ∧ ob.dict = some builtinsNs ∧ ob.data = .plain)
    (hT : ∀ p ∈ cs, s₁.heap.get? p.2 = some tab0) (nT : ∀ p ∈ cs, K.lookup p.2 = none) (C : ∀ p ∈ cs, PySem.W.CodeHd s₁.heap p.1 p.2) (eT : T.map (·.1) = cs.map (·.2)) (nd : (cs.map (·.2)).Nodup)
    (ha : s₁.heap.get? a = some { cls := .type "list", data := .seq vs.toArray }) (hi : IntsAre vs ns) (hl : ns.length ≤ sizeLine) (hr : Room k callerA) (hbind : ∀ (s : Shared) (u : Value), BindsTo s fd ⟨[u], []⟩ [(x, u)])
    (F : ∀ base : Heap, K.In base → base.Ns mainGlobals mg → (∀ p ∈ cs, LamX.TabB base mg p.1 p.2) → FnG P w K mg base k fa fd [x] (spD K 1 g)) (hm : ∃ mu, g [scriptD ns] (tabCells T) = .ok (.bl true) mu) :
    codeAny (model P w) callerA (.call (.ref fa) ⟨[.ref a], []⟩) (fun r s' => r = .ok (.ret (.bool true)) ∧ OldK s₁.heap s'.heap ∧ s'.os = s₁.os ∧ AllBare s'.gens) s₁ := by
  let TA := cs.map (·.2)
  have tabAt : ∀ b, b ∈ TA → ∃ p ∈ cs, p.2 = b := fun b hb => List.mem_map.mp hb
  have isT : ∀ b, b ∈ TA → s₁.heap.get? b = some tab0 := fun b hb => by
    obtain ⟨p, hp, rfl⟩ := tabAt b hb
    exact hT p hp
  have aT : a ∉ TA := fun z => by
    have q := isT a z
    rw [ha] at q
    injection q with q
    injection q with _ _ q _
    cases q
  let ob0 : Obj := { cls := .type "list", data := .seq vs.toArray }
  let u : Option HO := if (K.lookup a).isSome then none else some (.frz ob0 (.lst (ns.map V.int)))
  let H : Hp := lawH TA a u
  have rv := vals_ints hi
  have hS : SqL K H a (ns.map V.int) := by
    cases hk : K.lookup a with
    | none =>
      refine .inl (.inr ⟨ob0, ?_⟩)
      show lawH TA a u a = _
      rw [lawH_at aT]
      show (if (K.lookup a).isSome then none else some (HO.frz ob0 (.lst (ns.map V.int)))) = _
      rw [hk]; rfl
    | some o =>
      have e := KX a o hk
      rw [ha] at e
      cases e
      exact .inr ⟨_, vs.toArray, _, hk, rfl, rfl, rfl, by rw [List.size_toArray, hi.length]; exact hl, by simpa using rv⟩
  have uInv : ∀ o, u = some o → K.lookup a = none ∧ o = .frz ob0 (.lst (ns.map V.int)) := fun o e => by
    cases hk : K.lookup a with
    | none =>
      refine ⟨rfl, ?_⟩
      have e' : (if (K.lookup a).isSome then none else some (HO.frz ob0 (.lst (ns.map V.int)))) = some o := e
      rw [hk] at e'
      exact (Option.some.inj e').symm
    | some z =>
      have e' : (if (K.lookup a).isSome then none else some (HO.frz ob0 (.lst (ns.map V.int)))) = some o := e
      rw [hk] at e'
      cases e'
  have hok : HOk P w H s₁.heap := fun b o e => by
    rcases lawH_inv e with ⟨m, rfl⟩ | ⟨_, rfl, e2⟩
    · exact isT b m
    · obtain ⟨_, rfl⟩ := uInv o e2
      exact ⟨ha, by rw [List.length_map]; exact hl, vs, _, rv, ha⟩
  -- what is neither a table nor the script is not tracked
  have off : ∀ {b : Addr}, b ∉ TA → (b = a → K.lookup a ≠ none) → H b = none := fun {b} h1 h2 => lawH_none h1 fun eb => by
    cases hu : u with
    | none => rfl
    | some z => exact absurd (uInv z hu).1 (h2 eb)
  have unl : ∀ {b : Addr} {o : Obj}, s₁.heap.get? b = some o → (∀ v n, o.data ≠ .seq v n) → o.data ≠ .fields #[] → H b = none := fun {b o} e h1 h2 => by
    refine off (fun m => ?_) fun eb => ?_
    · rw [isT b m] at e
      cases e
      exact h2 rfl
    · subst eb
      rw [ha] at e
      cases e
      exact absurd rfl (h1 _ _)
  have ns_ : ∀ {b : Addr} {m : Str → Option Value}, s₁.heap.Ns b m → (hidT s₁.heap H).Ns b m := fun {b m} z => by
    obtain ⟨o, es, ep, e, d, r⟩ := z
    refine ⟨o, es, ep, hidT_get e (unl e (fun v n q => ?_) fun q => ?_), d, r⟩ <;> (rw [d] at q; cases q)
  have kin : K.In (hidT s₁.heap H) := fun b o e => by
    refine hidT_get (KX b o e) (off (fun m => ?_) fun eb q => ?_)
    · obtain ⟨p, hp, rfl⟩ := tabAt b m
      rw [nT p hp] at e; cases e
    · subst eb; rw [q] at e; cases e
  have tbs : ∀ p ∈ cs, LamX.TabB (hidT s₁.heap H) mg p.1 p.2 := fun p hp => by
    have tp := hT p hp
    have notNs : ∀ {b : Addr} {m : Str → Option Value}, s₁.heap.Ns b m → b ≠ p.2 := fun {b m} z q => by
      obtain ⟨o, es, ep, e, d, _⟩ := z
      rw [q, tp] at e
      cases e
      cases d
    refine ⟨?_, ?_, notNs hns⟩
    · obtain ⟨o, vs', fl, tf, n1, t1, bb, n2, t2, e1, c1, c2, c3, r⟩ := C p hp
      refine ⟨o, vs', fl, tf, n1, t1, bb, n2, t2, hidT_get e1 (unl e1 (fun v n q => ?_) fun q => ?_), c1, c2, c3, r⟩
      · rw [c2] at q; cases q
      · rw [c2] at q
        cases q
        simp at c3
    · obtain ⟨bm, ob, g1, g2, g3, g4, g5, g6⟩ := hbm
      refine ⟨bm, ob, g1, g2, fun q => ?_, fun q => ?_, hidT_get g3 (unl g3 (fun v n q => ?_) fun q => ?_), g4, g5, g6⟩
      · obtain ⟨o, es, ep, e, d, _⟩ := hns
        rw [q, e] at g3
        cases g3
        rw [d] at g6; cases g6
      · rw [q, tp] at g3
        cases g3
        cases g6
      · rw [g6] at q; cases q
      · rw [g6] at q; cases q
  have mod : L2.Mod K mg (hidT s₁.heap H) := by
    obtain ⟨mc, h1, h2⟩ := hlim
    exact ⟨kin, ns_ hns, ⟨mb, ns_ hb, hbb⟩, mc, ns_ h1, h2⟩
  have env : Env0 P w K mg (hidT s₁.heap H) callerA [] s₁ H := by
    constructor
    case frames => rfl
    case mod => exact mod
    case bs => exact fun b o e => of_hidT e
    case bsz => exact Nat.le_of_eq (hidT_size _ _)
    case funs => trivial
    case frf => exact fun b hb => (List.not_mem_nil hb).elim
    case hok => exact hok
    case bare => exact .of_eq hg
  have hTH : ∀ p ∈ T, H p.1 = some (.tbl #[]) := fun p hp => lawH_tab (by
    show p.1 ∈ cs.map (·.2)
    rw [← eT]; exact List.mem_map.mpr ⟨p, hp, rfl⟩)
  obtain ⟨mu, hm⟩ := hm
  have sp : spD K 1 g [.ref a] H (fun v _ => v = .bl true) (fun _ _ _ => False) := by
    refine ⟨rfl, noTab H, T.map (·.1), tabCells T, [scriptD ns], mem_tabs (by rw [eT]; exact nd) hTH, .cons (.rl (noTab_sql hS) (repL_ints ns)) .nil, ?_⟩
    rw [hm]
    intro F' jo H' v s M r
    exact r.bl_inv
  refine codeAny_mono ((F _ kin (ns_ hns) tbs).run (us := [.ref a]) (vs := [.ref a]) hr rfl env (hbind s₁ (.ref a)) (.cons rfl .nil) sp) fun r s' h => ?_
  match r, h with
  | .error e, h => exact (cx_none h).elim
  | .ok (.ret v), h =>
    obtain ⟨v', H', os, bare, un, hok', r', q⟩ := h
    have q : v' = .bl true := q
    subst q
    have r' : v = Value.bool true := r'
    subst r'
    have same : ∀ b o, b ∉ TA → s₁.heap.get? b = some o → s'.heap.get? b = some o := fun b o m e => by
      cases z : H b with
      | none => exact un.keep b o e z (fun y => (List.not_mem_nil y).elim) (fun y => (List.not_mem_nil y).elim)
      | some v =>
        rcases lawH_inv z with ⟨m', _⟩ | ⟨_, rfl, e2⟩
        · exact absurd m' m
        · obtain ⟨_, rfl⟩ := uInv v e2
          obtain ⟨e3, _⟩ := hok' b _ (un.frzs b ob0 _ z)
          rw [ha] at e
          cases e
          exact e3
    have grown : ∀ p ∈ cs, ∃ more : Array Value, s'.heap.get? p.2 = some { cls := .none, data := .fields more } := fun p hp => by
      obtain ⟨more, z⟩ := un.tbls p.2 #[] (lawH_tab (List.mem_map.mpr ⟨p, hp, rfl⟩))
      exact ⟨_, hok' p.2 _ z⟩
    refine ⟨rfl, ⟨fun b o e => ?_, fun b o e => ?_⟩, os, bare⟩
    · by_cases m : b ∈ TA
      · obtain ⟨p, hp, rfl⟩ := tabAt b m
        obtain ⟨more, hm⟩ := grown p hp
        rw [hT p hp] at e
        cases e
        exact .inr (.inl ⟨((C p hp).tab (hT p hp)).isCodeTable, rfl, #[], more, rfl, by simpa using hm⟩)
      · exact .inl (same b o m e)
    · by_cases m : b ∈ TA
      · obtain ⟨p, hp, rfl⟩ := tabAt b m
        obtain ⟨more, hm⟩ := grown p hp
        exact ⟨_, hm⟩
      · exact ⟨o, same b o m e⟩
/-- what the end of a law's text tells -/
structure LawG (l : PySem.W.OpenLaw) (w : World) (mg : Str → Option Value) (fa : Addr) (x : Str) (k : Nat) (h : Heap) : Type where
  K : PySem.W.Frag
  kin : K.In h
  fd : FuncData
  cs : List (Addr × Addr)
  T : List (Addr × Str)
  g : List D → Mu → Res D
  eT : T.map (·.1) = cs.map (·.2)
  nd : (cs.map (·.2)).Nodup
  hT : ∀ p ∈ cs, h.get? p.2 = some tab0
  nT : ∀ p ∈ cs, K.lookup p.2 = none
  C : ∀ p ∈ cs, PySem.W.CodeHd h p.1 p.2
  hb : ∀ (s : Shared) (u : Value), BindsTo s fd ⟨[u], []⟩ [(x, u)]
  F : ∀ base : Heap, K.In base → base.Ns mainGlobals mg → (∀ p ∈ cs, LamX.TabB base mg p.1 p.2) → FnG l.prog w K mg base k fa fd [x] (spD K 1 g)
  main : ∀ ns : List Int, ns.length ≤ 63 → ∃ mu, g [scriptD ns] (tabCells T) = .ok (.bl true) mu
theorem walk_G {l : PySem.W.OpenLaw} {k : Nat} {q : Program} {loose : List Str} {XP : (Str → Option Value) → Heap → Prop} {YP : World → Heap → Prop} {d : DefRec} {x : Str}
    (hn : l.most = some 63) (hdf : d.params.defaults = []) (hr : Room k callerA)
    (F : ∀ (w : World) (mg : Str → Option Value) (fa : Addr) (h : Heap), YP w h → h.Ns mainGlobals mg → mg d.name = some (.ref fa) → Nonempty (LawG l w mg fa x k h)) :
    PySem.W.WalkO q loose XP YP l.row.toRowW d [] (fun f vs => PySem.call f vs) := by
  refine Att.attach_callB hn hdf fun w s₀ s₁ mg mb fa o pm cd doc a vs ns G Y ho hd hcd hmg hobj hints hlen hbits hg => ?_
  obtain ⟨L⟩ := F w mg fa _ Y G.T.g hmg
  exact law_callG L.kin G.T.g G.T.b G.T.builtins G.T.nolimit hg G.T.bmain L.hT L.nT L.C L.eT L.nd hobj hints (Nat.le_trans hlen (by rw [sizeLine_eq]; decide)) hr L.hb L.F (L.main ns hlen)
end DL

/-! DL17: what gen2.py prints leans on: the lambda's rule over a def's facts, tables of error classes, the head's facts. -/
namespace DL
open PySem PySem.Spec PyProof.Rows L2
theorem tab_uniq {T : List (Addr × Str)} {P : Addr} {q : Str} (nd : (T.map (·.1)).Nodup) (h : (P, q) ∈ T) : ∀ p ∈ T, p.1 = P → p.2 = q := by
  induction T with
  | nil => cases h
  | cons t T ih =>
    rw [List.map_cons, List.nodup_cons] at nd
    intro p hp e
    rcases List.mem_cons.mp h with h | h
    · rcases List.mem_cons.mp hp with hp | hp
      · rw [hp, ← h]
      · exact absurd (List.mem_map.mpr ⟨p, hp, by rw [e, ← h]⟩) nd.1
    · rcases List.mem_cons.mp hp with hp | hp
      · exact absurd (List.mem_map.mpr ⟨(P, q), h, by rw [← e, hp]⟩) nd.1
      · exact ih nd.2 h p hp e
theorem nodup_of {l : List Addr} (h : nodupB l = true) : l.Nodup := by
  induction l with
  | nil => exact List.nodup_nil
  | cons a l ih =>
    simp only [nodupB, Bool.and_eq_true, Bool.not_eq_true'] at h
    refine List.nodup_cons.mpr ⟨fun m => ?_, ih h.2⟩
    rw [List.contains_iff_mem.mpr m] at h
    cases h.1
section
variable {X : Cx} {W : WX}
theorem de_caughtF {T : List (Addr × Str)} {B : List (Addr × Bool)} {me : DenE} {st : Stmt} {x a e n m : Str} {c P CS : Addr} {k : Nat} {Ng : List Str} {params : Arguments} {body : Expr} {scope : Scope} {p lpos pos : Pos}
    (hB : ∀ q ∈ B, PySem.W.exmOne X.K (.ref q.1) (.ref CS) = some q.2) (hg : Gl X x) (Fc : FnF X.K X.mg x st [a]) (Sg : FnScope Ng [a] (defScope st)) (h0 : Ng[0]? = some a) (h1 : Ng[1]? = some m) (h2 : Ng[2]? = some n) (hl : Ng.length = 3)
    (hbd : ∃ (j : Nat) (p0 p1 p2 p3 p4 p5 p6 p7 p8 p9 pa pb pc pd : Pos), defBody st = [.Assign [.Name m p0] (.Constant .none j p9) pa, .Try [.Expr (.Call (.Name a p1) [] [] p2) p3] [.ExceptHandler (some (.Name e p4)) (some n) [.Assign [.Name m p5] (.Name n p6) p7] p8] [] [] pb, .Return (some (.Name m pd)) pc])
    (la : (defScope st).names.lookup a = some .local) (lm : (defScope st).names.lookup m = some .local) (ln : (defScope st).names.lookup n = some .local) (hge : (defScope st).names.lookup e = some .globalImplicit) (hme : X.mg e = some (.ref CS))
    (TB : LamX.TabB X.base X.mg c P) (hcode : X.env.code = .ref c) (hmT : (P, X.env.qual ++ "<lambda>") ∈ T) (nd : (T.map (·.1)).Nodup) (hr : Room (k + 2) X.A) (L : LamX.LamS X.env.scope scope) (hdef : defaultsOf params X.env = ([], []))
    (hbind : ∀ (q : Str) (cl : List (Str × Addr)) (pm cv ctv : Value), bindArgs (PySem.W.kla_fn "<lambda>" q params body scope cl pm cv ctv) ⟨[], []⟩ = pure [])
    (hbody : ∀ (A : Around) (outer : List Env) (s : Shared) (H : Hp) (E : XK) (f c' : Addr), Room k (A.deeper (LamX.lamEnv X scope s.heap.objs.size f c')) → DE (LamX.lamCx X A outer s H E scope f c') (fun cls d _ H => E cls d H) body me)
    (hd : (n == ("__debug__" : Str)) = false := by decide) (hcd : (n == ("__classdict__" : Str)) = false := by decide) (hdm : (m == ("__debug__" : Str)) = false := by decide) (hcm : (m == ("__classdict__" : Str)) = false := by decide) (hde : (e == ("__debug__" : Str)) = false := by decide)
    (hdb : (x == ("__debug__" : Str)) = false := by decide) (hda : (a == ("__debug__" : Str)) = false := by decide) (hca : (a == ("__classdict__" : Str)) = false := by decide) :
    DE X W (.Call (.Name x p) [.Lambda params body scope lpos] [] pos) (mCaught T B me) := by
  obtain ⟨oc, od, kV, doc, pm, an, cdv, ct, osl, efd, lk, hcg⟩ := Fc.F.ex
  have hb := Fc.b
  rw [efd] at lk hb
  obtain ⟨j, p0, p1, p2, p3, p4, p5, p6, p7, p8, p9, pa, pb, pc, pd, ebd⟩ := hbd
  refine de_caught hB hg Fc.g Fc.F.kp lk hcg hb Sg h0 (.inl la) ?_ TB hcode hmT (tab_uniq nd hmT) hr L hdef hbind hbody hdb hda hca
  rw [ebd]
  exact caught_gives (j := j) hge hme hde Sg.nd h1 h2 hl lm ln hd hcd hdm hcm
end
/-- an error class of which isinstance can ask -/
def excCB (K : PySem.W.Frag) (D : Addr) : Bool := PySem.W.findIn K (.ref D) "__getattribute__" == some (some (.builtin "BaseException.__getattribute__")) && (PySem.W.findIn K (.ref D) "__getattr__" == some none && (PySem.W.subIn K (.ref D) (.type "BaseException") == some true && (PySem.W.hasDictIn K D &&
  (PySem.W.findIn K (.ref D) "__class__" == some (some (.builtin "object.__class__")) && (PySem.W.specialIn K (.builtin "object.__class__") "__get__" == some (some (.builtin "getset_descriptor.__get__")) && (PySem.W.takesIn K (.builtin "object.__class__") == some true && PySem.W.mroIn K D (.type "object") == some true))))))
theorem excCB_ok {K : PySem.W.Frag} {D : Addr} (h : excCB K D = true) : ExcC K D := by
  unfold excCB at h
  simp only [Bool.and_eq_true, beq_iff_eq] at h
  obtain ⟨h1, h2, h3, h4, h5, h6, h7, h8⟩ := h
  exact ⟨h1, h2, h3, h4, h5, h6, h7, h8⟩
theorem th_excC {K K' : PySem.W.Frag} (T : Thin K K') {D : Addr} (h : excCB K D = true) : ExcC K' D := by
  refine excCB_ok ?_
  unfold excCB at h ⊢
  simpa only [th_find T, th_sub T, th_hasDict T, th_special T, th_takes T, th_mro T] using h
def FnF.ofT {K K' : PySem.W.Frag} {h : Heap} {mg : Str → Option Value} {x : Str} {st : Stmt} {ps : List Str} {f : Addr} {oc : Value} {od an : Option Addr} {osl : Array (Option Value)} {kV doc pm cdv ct : Value} (Th : Thin K K') (KX : K'.In h) (G : h.Ns mainGlobals mg)
    (hb : ∀ (kV doc pm : Value) (an : Option Addr) (cdv ct : Value) (us : List Value), us.length = ps.length → bindArgs (PySem.W.fnOf x x (defArgs st) (defBody st) (defScope st) .none kV doc pm an cdv ct) ⟨us, []⟩ = pure (ps.zip us))
    (e : PySem.W.nsIn K mainGlobals x = some (some (.ref f))) (l : K.lookup f = some ⟨oc, od, .func (PySem.W.fnOf x x (defArgs st) (defBody st) (defScope st) .none kV doc pm an cdv ct), osl⟩) (c : PySem.W.codeIn K cdv x = true) (k : PySem.W.keepIn K (.ref f) = true) : FnF K' mg x st ps :=
  FnF.of KX G hb ((th_nsIn Th _ _).trans e) (th_look Th l (by cases oc <;> rfl)) ((th_code Th _ _).trans c) ((th_keep Th _).trans k)
def CnF.refT {K K' : PySem.W.Frag} {h : Heap} {mg : Str → Option Value} {x : Str} {d : D} {a : Addr} (n : Nat) (Th : Thin K K') (KX : K'.In h) (G : h.Ns mainGlobals mg) (e : PySem.W.nsIn K mainGlobals x = some (some (.ref a))) (hr : repK K n (.ref a) = some d) : CnF K' mg x d :=
  CnF.ref n KX G ((th_nsIn Th _ _).trans e) ((th_repK Th _ _).trans hr)
def CnF.intT {K K' : PySem.W.Frag} {h : Heap} {mg : Str → Option Value} {x : Str} {i : Int} {t : Tok} (Th : Thin K K') (KX : K'.In h) (G : h.Ns mainGlobals mg) (e : PySem.W.nsIn K mainGlobals x = some (some (.int i t))) : CnF K' mg x (.int i) := CnF.int KX G ((th_nsIn Th _ _).trans e)
def CnF.strT {K K' : PySem.W.Frag} {h : Heap} {mg : Str → Option Value} {x : Str} {i : Str} {t : Tok} (Th : Thin K K') (KX : K'.In h) (G : h.Ns mainGlobals mg) (e : PySem.W.nsIn K mainGlobals x = some (some (.str i t))) : CnF K' mg x (.str i) := CnF.str KX G ((th_nsIn Th _ _).trans e)
def ClF.ofT {K K' : PySem.W.Frag} {h : Heap} {mg : Str → Option Value} {x : Str} {a : Addr} (Th : Thin K K') (KX : K'.In h) (G : h.Ns mainGlobals mg) (e : PySem.W.nsIn K mainGlobals x = some (some (.ref a)))
    (q : PySem.W.excIn K a [.type "ValueError", .type "Exception", .type "BaseException", .type "object"] "ValueError.__new__" = true) (k : PySem.W.keepIn K (.ref a) = true) (b : PySem.W.subIn K (.ref a) (.type "BaseException") = some true) (t : PySem.W.typeIn K (.ref a) = some (.type "type")) : ClF K' mg x :=
  ⟨a, PySem.W.mg_of KX G ((th_nsIn Th _ _).trans e), (th_exc Th _ _ _).trans q, (th_keep Th _).trans k, (th_sub Th _ _).trans b, th_type Th t nofun⟩
theorem mgT {K K' : PySem.W.Frag} {h : Heap} {mg : Str → Option Value} {x : Str} {v : Value} (Th : Thin K K') (KX : K'.In h) (G : h.Ns mainGlobals mg) (e : PySem.W.nsIn K mainGlobals x = some (some v)) : mg x = some v := PySem.W.mg_of KX G ((th_nsIn Th _ _).trans e)
theorem mgNT {K K' : PySem.W.Frag} {h : Heap} {mg : Str → Option Value} {x : Str} (Th : Thin K K') (KX : K'.In h) (G : h.Ns mainGlobals mg) (e : PySem.W.nsIn K mainGlobals x = some none) : mg x = none := PySem.W.mg_none_of KX G ((th_nsIn Th _ _).trans e)
theorem bt_ValueError : bootBuiltins "ValueError" = some (.type "ValueError") := by decide +kernel
end DL

/-! DL18: what holds behind a meaning: rules from the left (WP[..] of ev.py). -/
namespace DL
open PySem L2
def wR {α : Type} (r : Res α) (Q : α → Mu → Prop) (E : XD → Mu → Prop) : Prop := match r with
  | .ok a m => Q a m
  | .exc x m => E x m
  | .stuck => False
def wO {α : Type} (o : Option (α × Mu)) (Q : α → Mu → Prop) : Prop := match o with
  | some p => Q p.1 p.2
  | none => False
def wS (r : SR) (N : DEnv → Mu → Prop) (R : D → Mu → Prop) (B C : DEnv → Mu → Prop) (E : XD → Mu → Prop) : Prop := match r with
  | .nx e m => N e m
  | .rt d m => R d m
  | .bk e m => B e m
  | .ct e m => C e m
  | .exc x _ m => E x m
  | .stuck => False
def wB (c : Bool) (A B : Prop) : Prop := if c = true then A else B
def no2 {α : Type} : α → Mu → Prop := fun _ _ => False
section
variable {α β : Type} {r : Res α} {Q : α → Mu → Prop} {E : XD → Mu → Prop} {A B : Prop} {c : Bool} {p : Prop}
theorem wB_t (h : c = true) (k : A) : wB c A B := by unfold wB; rw [if_pos h]; exact k
theorem wB_f (h : c = false) (k : B) : wB c A B := by unfold wB; rw [if_neg (by rw [h]; decide)]; exact k
theorem wB_dec [Decidable p] (h : p → A) (k : ¬ p → B) : wB (decide p) A B := by
  unfold wB
  by_cases q : p
  · rw [if_pos (decide_eq_true q)]; exact h q
  · rw [if_neg (by simpa using q)]; exact k q
theorem wB_any (h : c = true → A) (k : c = false → B) : wB c A B := by
  cases c with
  | true => exact wB_t rfl (h rfl)
  | false => exact wB_f rfl (k rfl)
theorem wB_not (h : wB c B A) : wB (!c) A B := by
  cases c with
  | true => exact wB_f rfl h
  | false => exact wB_t rfl h
theorem wB_true (k : A) : wB true A B := wB_t rfl k
theorem wB_false (k : B) : wB false A B := wB_f rfl k
theorem w_eq {a : α} {m : Mu} (h : r = .ok a m) (k : Q a m) : wR r Q E := by rw [h]; exact k
theorem w_exc {x : XD} {m : Mu} (h : r = .exc x m) (k : E x m) : wR r Q E := by rw [h]; exact k
theorem w_out (h : wR r Q no2) : ∃ a m, r = .ok a m ∧ Q a m := by
  cases r with
  | ok a m => exact ⟨a, m, rfl, h⟩
  | exc x m => exact h.elim
  | stuck => exact h.elim
theorem w_ok {a : α} {m : Mu} (k : Q a m) : wR (.ok a m) Q E := k
theorem w_mono {Q' : α → Mu → Prop} (h : wR r Q' E) (k : ∀ a m, Q' a m → Q a m) : wR r Q E := by
  cases r with
  | ok a m => exact k a m h
  | exc x m => exact h
  | stuck => exact h
theorem wO_eq {o : Option (α × Mu)} {Q : α → Mu → Prop} {a : α} {m : Mu} (h : o = some (a, m)) (k : Q a m) : wO o Q := by rw [h]; exact k
theorem wO_some {a : α} {m : Mu} (k : Q a m) : wO (some (a, m)) Q := k
theorem w_ofO {o : Option (α × Mu)} (h : wO o Q) : wR (.ofO o) Q E := by
  cases o with
  | some p => exact h
  | none => exact h.elim
theorem w_bind {f : α → Mu → Res β} {Q : β → Mu → Prop} (h : wR r (fun a m => wR (f a m) Q E) E) : wR (r.bind f) Q E := by
  cases r with
  | ok a m => exact h
  | exc x m => exact h
  | stuck => exact h
theorem w_noX (h : wR r Q no2) : wR r.noX Q E := by
  cases r with
  | ok a m => exact h
  | exc x m => exact h.elim
  | stuck => exact h
end
section
variable {Q : D → Mu → Prop} {E : XD → Mu → Prop} {env e' : DEnv} {mu m1 : Mu} {d x y : D} {ds : List D} {i j k n : Nat} {c : Bool}
variable {ma mb mc : DenE} {ta tb : DenT} {am : DenA}
theorem w_var (h : env[i]? = some (some d)) (q : Q d mu) : wR (mVar i env mu) Q E := by unfold mVar; rw [h]; exact q
theorem w_C (q : Q d mu) : wR (mC d env mu) Q E := q
theorem w_op {g : Mu → D → D → ORes D} (h : wR (ma env mu) (fun x m1 => wR (mb env m1) (fun y m2 => wO (g m2 x y) Q) E) E) : wR (mOp g ma mb env mu) Q E :=
  w_bind (w_mono h fun _ _ h => w_bind (w_mono h fun _ _ h => w_ofO h))
theorem w_un {g : Mu → D → ORes D} (h : wR (ma env mu) (fun x m1 => wO (g m1 x) Q) E) : wR (mUn g ma env mu) Q E := w_bind (w_mono h fun _ _ h => w_ofO h)
/-- a truth value, for sure -/
def isBl (Q : Bool → Mu → Prop) (d : D) (m : Mu) : Prop := ∃ c, d = .bl c ∧ Q c m
theorem isBl_i {Q : Bool → Mu → Prop} (h : Q c mu) : isBl Q (.bl c) mu := ⟨c, rfl, h⟩
theorem w_test {Q : Bool → Mu → Prop} (h : wR (ma env mu) (isBl Q) E) : wR (mTest ma env mu) Q E :=
  w_bind (w_mono h fun d m ⟨c, e, h⟩ => by subst e; exact h)
theorem w_tand {Q : Bool → Mu → Prop} (h : wR (ta env mu) (fun c m1 => wB c (wR (tb env m1) Q E) (Q false m1)) E) : wR (mTAnd ta tb env mu) Q E :=
  w_bind (w_mono h fun c m h => by cases c <;> exact h)
theorem w_tor {Q : Bool → Mu → Prop} (h : wR (ta env mu) (fun c m1 => wB c (Q true m1) (wR (tb env m1) Q E)) E) : wR (mTOr ta tb env mu) Q E :=
  w_bind (w_mono h fun c m h => by cases c <;> exact h)
theorem w_tnot {Q : Bool → Mu → Prop} (h : wR (ta env mu) (fun c m1 => Q (!c) m1) E) : wR (mTNot ta env mu) Q E := w_bind (w_mono h fun c m h => h)
theorem w_and (h : wR (ma env mu) (isBl fun c m1 => wB c (wR (mb env m1) Q E) (Q (.bl false) m1)) E) : wR (mAnd ma mb env mu) Q E :=
  w_bind (w_mono h fun d m ⟨c, e, h⟩ => by subst e; cases c <;> exact h)
theorem w_or (h : wR (ma env mu) (isBl fun c m1 => wB c (Q (.bl true) m1) (wR (mb env m1) Q E)) E) : wR (mOr ma mb env mu) Q E :=
  w_bind (w_mono h fun d m ⟨c, e, h⟩ => by subst e; cases c <;> exact h)
theorem w_not (h : wR (ma env mu) (isBl fun c m1 => Q (.bl (!c)) m1) E) : wR (mNot ma env mu) Q E :=
  w_bind (w_mono h fun d m ⟨c, e, h⟩ => by subst e; exact h)
theorem w_if (h : wR (ta env mu) (fun c m1 => wB c (wR (ma env m1) Q E) (wR (mb env m1) Q E)) E) : wR (mIf ta ma mb env mu) Q E :=
  w_bind (w_mono h fun c m h => by cases c <;> exact h)
theorem w_chain {g g' : Mu → D → D → ORes D} (h : wR (ma env mu) (fun x m1 => wR (mb env m1) (fun y m2 => wO (g m2 x y) (isBl fun c m3 => wB c (wR (mc env m3) (fun w m4 => wO (g' m4 y w) Q) E) (Q (.bl false) m3))) E) E) : wR (mChain g g' ma mb mc env mu) Q E :=
  w_bind (w_mono h fun x m1 h => w_bind (w_mono h fun y m2 h => w_bind (w_ofO (by
    cases e : g m2 x y with
    | none => rw [e] at h; exact h.elim
    | some p =>
      rw [e] at h
      obtain ⟨d, m⟩ := p
      unfold wO isBl at h
      obtain ⟨c, e2, h⟩ := h
      have e2 : d = .bl c := e2
      subst e2
      cases c with
      | true => exact w_bind (w_mono h fun _ _ h => w_ofO h)
      | false => exact h))))
theorem w_nil {Q : List D → Mu → Prop} (q : Q [] mu) : wR (mNil env mu) Q E := q
theorem w_cons {Q : List D → Mu → Prop} (h : wR (ma env mu) (fun x m1 => wR (am env m1) (fun ds m2 => Q (x :: ds) m2) E) E) : wR (mCons ma am env mu) Q E :=
  w_bind (w_mono h fun _ _ h => w_bind (w_mono h fun _ _ h => h))
theorem w_tup (h : wR (am env mu) (fun ds m => lim ds.length = true ∧ Q (.tup ds) m) E) : wR (mTup am env mu) Q E :=
  w_bind (w_mono h fun ds m ⟨h1, h2⟩ => by rw [h1]; exact h2)
theorem w_lst (h : wR (am env mu) (fun ds m => lim ds.length = true ∧ Q (.lst ds) m) E) : wR (mLst false am env mu) Q E :=
  w_bind (w_mono h fun ds m ⟨h1, h2⟩ => by rw [h1]; exact h2)
theorem w_lstC (h : wR (am env mu) (fun ds m => lim ds.length = true ∧ Q (.cell m.length) (m ++ [.lst ds])) E) : wR (mLst true am env mu) Q E :=
  w_bind (w_mono h fun ds m ⟨h1, h2⟩ => by rw [h1]; exact h2)
theorem w_newD (q : Q (.cell mu.length) (mu ++ [.dk []])) : wR (mNewD env mu) Q E := q
theorem w_call {g : Mu → List D → ORes D} (h : wR (am env mu) (fun ds m => wO (g m ds) Q) E) : wR (mCall g am env mu) Q E := w_bind (w_mono h fun _ _ h => w_ofO h)
theorem w_met {ty : Mu → D → Bool} {g : Mu → D → List D → ORes D} (h : wR (ma env mu) (fun x m1 => ty m1 x = true ∧ wR (am env m1) (fun ds m2 => wO (g m2 x ds) Q) E) E) : wR (mMet ty g ma am env mu) Q E :=
  w_bind (w_mono h fun x m ⟨h1, h2⟩ => by rw [h1]; exact w_bind (w_mono h2 fun _ _ h => w_ofO h))
theorem w_metC {g : Mu → D → List D → ORes D} (h : wR (am env mu) (fun ds m => wO (g m d ds) Q) E) : wR (mMetC d g am env mu) Q E := w_bind (w_mono h fun _ _ h => w_ofO h)
theorem w_callF {g : List D → Mu → Res D} (h : wR (am env mu) (fun ds m => ds.length = n ∧ wR (g ds m) Q E) E) : wR (mCallF n g am env mu) Q E :=
  w_bind (w_mono h fun ds m ⟨h1, h2⟩ => by rw [if_pos h1]; exact h2)
theorem w_callKw {g : List D → Mu → Res D} {ix : List Nat} (h : wR (am env mu) (fun ds m => (ds.length = k ∧ (permL ix ds).length = n) ∧ wR (g (permL ix ds) m) Q E) E) : wR (mCallKw k n ix g am env mu) Q E :=
  w_bind (w_mono h fun ds m ⟨h1, h2⟩ => by rw [if_pos h1]; exact h2)
theorem w_callV {T : FTab} {f : Addr} {g : List D → Mu → Res D} (h0 : env[i]? = some (some (.ref f))) (hT : ftGet T f = some (n, g)) (h : wR (am env mu) (fun ds m => ds.length = n ∧ wR (g ds m) Q no2) no2) : wR (mCallV i T am env mu) Q E := by
  unfold mCallV
  rw [h0]
  simp only [hT]
  exact w_bind (w_noX (w_mono h fun ds m ⟨h1, h2⟩ => by rw [if_pos h1]; exact w_noX h2))
theorem w_caught {T : List (Addr × Str)} {B : List (Addr × Bool)} (ht : isTabs T mu = true) (h : wR (ma env mu) (fun _ m => Q .non m) (fun x m => exmL B x.cls = some true ∧ Q (excD x) m)) : wR (mCaught T B ma env mu) Q E := by
  unfold mCaught
  rw [if_pos ht]
  cases e : ma env mu with
  | ok d m => rw [e] at h; exact h
  | exc x m =>
    rw [e] at h
    obtain ⟨h1, h2⟩ := (h : _ ∧ _)
    show wR (if exmL B x.cls = some true then _ else _) Q E
    rw [if_pos h1]; exact h2
  | stuck => rw [e] at h; exact h
theorem w_sl {b : Bool} {ml mh : DenO} (h : wR (ma env mu) (fun x m1 => wR (ml env m1) (fun lo m2 => wR (mh env m2) (fun hi m3 => wO (gSl b m3 x lo hi) Q) E) E) E) : wR (mSl b ma ml mh env mu) Q E :=
  w_bind (w_mono h fun _ _ h => w_bind (w_mono h fun _ _ h => w_bind (w_mono h fun _ _ h => w_ofO h)))
theorem w_oN {Q : Option Int → Mu → Prop} (q : Q none mu) : wR (mON env mu) Q E := q
/-- an int, for sure -/
def isInt (Q : Int → Mu → Prop) (d : D) (m : Mu) : Prop := ∃ c, d = .int c ∧ Q c m
theorem isInt_i {Q : Int → Mu → Prop} {c : Int} (h : Q c mu) : isInt Q (.int c) mu := ⟨c, rfl, h⟩
theorem w_oS {Q : Option Int → Mu → Prop} (h : wR (ma env mu) (isInt fun i m => Q (some i) m) E) : wR (mOS ma env mu) Q E :=
  w_bind (w_mono h fun d m ⟨c, e, h⟩ => by subst e; exact h)
theorem w_disp {prs : List (DenE × DenE)} (h : wR (mPairs prs env mu) (fun ps m => ∃ l, keysOf ps = some l ∧ l.length ≤ 15 ∧ Q (.cell m.length) (m ++ [.dk (mergeD [] l)])) E) : wR (mDisp prs env mu) Q E :=
  w_bind (w_mono h fun ps m ⟨l, h1, h2, h3⟩ => by simp only [h1]; rw [if_pos h2]; exact h3)
theorem w_prN {Q : List (D × D) → Mu → Prop} (q : Q [] mu) : wR (mPairs [] env mu) Q E := q
theorem w_prC {Q : List (D × D) → Mu → Prop} {r : List (DenE × DenE)} (h : wR (ma env mu) (fun x m1 => wR (mb env m1) (fun y m2 => wR (mPairs r env m2) (fun ps m3 => Q ((x, y) :: ps) m3) E) E) E) : wR (mPairs ((ma, mb) :: r) env mu) Q E :=
  w_bind (w_mono h fun _ _ h => w_bind (w_mono h fun _ _ h => w_bind (w_mono h fun _ _ h => h)))
/-! targets, what is walked -/
theorem w_gname {Q : DEnv → Mu → Prop} (h : env.set i (some d) = e') (q : Q e' mu) : wR (mGName i d env mu) Q E := by subst h; exact q
theorem w_gtup {Q : DEnv → Mu → Prop} {ms : DenGs} (hl : ds.length = n) (h : wR (ms ds env mu) Q E) : wR (mGTup n ms (.tup ds) env mu) Q E := by
  show wR (if ds.length = n then ms ds env mu else .stuck) Q E
  rw [if_pos hl]; exact h
theorem w_gcons {Q : DEnv → Mu → Prop} {mg : DenG} {ms : DenGs} (h : wR (mg d env mu) (fun e m => wR (ms ds e m) Q E) E) : wR (mGCons mg ms (d :: ds) env mu) Q E := w_bind h
theorem w_gnil {Q : DEnv → Mu → Prop} (q : Q env mu) : wR (mGNil [] env mu) Q E := q
def isItems (Q : List D → Mu → Prop) (d : D) (m : Mu) : Prop := ∃ ds, itemsD d = some ds ∧ Q ds m
def isRng (Q : List D → Mu → Prop) (ds : List D) (m : Mu) : Prop := ∃ n : Int, ds = [.int n] ∧ (-1000000000000 ≤ n ∧ n ≤ 1000000000000) ∧ Q (rangeD n) m
def isZip (Q : List D → Mu → Prop) (ds : List D) (m : Mu) : Prop := ∃ x y es, ds = [x, y] ∧ zipO x y = some es ∧ Q es m
theorem w_seqI {Q : List D → Mu → Prop} (h : wR (ma env mu) (isItems Q) E) : wR (mSeqI ma env mu) Q E :=
  w_bind (w_mono h fun d m ⟨ds, h1, h2⟩ => by cases d <;> cases h1 <;> exact h2)
theorem items_l {Q : List D → Mu → Prop} (q : Q ds mu) : isItems Q (.lst ds) mu := ⟨_, rfl, q⟩
theorem items_r {Q : List D → Mu → Prop} (q : Q ds mu) : isItems Q (.rl ds) mu := ⟨_, rfl, q⟩
theorem items_t {Q : List D → Mu → Prop} (q : Q ds mu) : isItems Q (.tup ds) mu := ⟨_, rfl, q⟩
theorem w_rng1 {Q : List D → Mu → Prop} (h : wR (am env mu) (isRng Q) E) : wR (mRange1 am env mu) Q E :=
  w_bind (w_mono h fun ds m ⟨n, h1, h2, h3⟩ => by subst h1; simp only [h2, and_self, if_true]; exact h3)
theorem rng1_i {Q : List D → Mu → Prop} {n : Int} (h : -1000000000000 ≤ n ∧ n ≤ 1000000000000) (q : Q (rangeD n) mu) : isRng Q [.int n] mu := ⟨n, rfl, h, q⟩
theorem zip_i {Q : List D → Mu → Prop} {es : List D} (h : zipO x y = some es) (q : Q es mu) : isZip Q [x, y] mu := ⟨x, y, es, rfl, h, q⟩
theorem w_zip {Q : List D → Mu → Prop} (h : wR (am env mu) (isZip Q) E) : wR (mZip am env mu) Q E :=
  w_bind (w_mono h fun ds m ⟨x, y, es, h1, h2, h3⟩ => by subst h1; cases x <;> cases y <;> cases h2 <;> exact h3)
/-! comprehensions -/
theorem w_lcL {mg : DenG} {mt : DenT} {me : DenE} {env0 : DEnv} {Q : List D → Mu → Prop} (I : List D → List D → Mu → Prop) (hI : ∀ d rest acc mu, I (d :: rest) acc mu → acc.length ≤ 1000000 ∧ wR (mg d env0 mu) (fun e m1 => wR (mt e m1) (fun c m2 => wB c (wR (me e m2) (fun y m3 => I rest (acc ++ [y]) m3) no2) (I rest acc m2)) no2) no2)
    (hQ : ∀ acc mu, I [] acc mu → Q acc mu) : ∀ (ds acc : List D) (mu : Mu), I ds acc mu → wR (lcL mg mt me env0 ds acc mu) Q E
  | [], acc, mu, h => hQ acc mu h
  | d :: ds, acc, mu, h => by
    obtain ⟨hl, h⟩ := hI d ds acc mu h
    unfold lcL
    refine w_bind (w_noX (w_mono h fun e m1 h => w_bind (w_noX (w_mono h fun c m2 h => ?_))))
    cases c with
    | false => exact w_lcL I hI hQ ds acc m2 h
    | true =>
      refine w_bind (w_noX (w_mono h fun y m3 h => ?_))
      rw [lim_ok hl]
      exact w_lcL I hI hQ ds _ m3 h
/-- a fresh list: data, or a cell -/
def mkQ (b : Bool) (Q : D → Mu → Prop) (out : List D) (m : Mu) : Prop := match b with
  | true => Q (.cell m.length) (m ++ [.lst out])
  | false => Q (.lst out) m
theorem w_lc {b : Bool} {mi : DenI} {mg : DenG} {mt : DenT} {own : List Nat} (h : wR (mi env mu) (fun ds m => wR (lcL mg mt ma (wipeD env own) ds [] m) (mkQ b Q) E) E) : wR (mLc b mi mg mt ma own env mu) Q E :=
  w_bind (w_mono h fun ds m h => w_bind (w_mono h fun out m h => w_ofO (by cases b <;> exact h)))
theorem w_yes {Q : Bool → Mu → Prop} (q : Q true mu) : wR (mYes env mu) Q E := q
end
section
variable {N B C : DEnv → Mu → Prop} {R : D → Mu → Prop} {E : XD → Mu → Prop} {env e' : DEnv} {mu m1 : Mu} {d x y : D} {ds : List D} {i j k n : Nat}
variable {ma mb mc : DenE} {ta : DenT} {am : DenA} {mg : DenG} {mi : DenI} {sa sb : DenS}
theorem w_andS {α : Type} {r : Res α} {f : α → Mu → SR} (h : wR r (fun a m => wS (f a m) N R B C E) E) : wS (r.andS env f) N R B C E := by
  cases r with
  | ok a m => exact h
  | exc x m => exact h
  | stuck => exact h
theorem s_nx (q : N env mu) : wS (.nx env mu) N R B C E := q
theorem s_rt (q : R d mu) : wS (.rt d mu) N R B C E := q
theorem s_seq (h : wS (sa env mu) (fun e m => wS (sb e m) N R B C E) R B C E) : wS (mSeq sa sb env mu) N R B C E := by
  unfold mSeq
  cases e : sa env mu <;> rw [e] at h <;> exact h
theorem s_skip (q : N env mu) : wS (mSkip env mu) N R B C E := q
theorem s_brk (q : B env mu) : wS (mBrk env mu) N R B C E := q
theorem s_cont (q : C env mu) : wS (mCont env mu) N R B C E := q
theorem s_retN (q : R .non mu) : wS (mRetN env mu) N R B C E := q
theorem s_ret (h : wR (ma env mu) (fun d m => R d m) E) : wS (mRet ma env mu) N R B C E := w_andS h
theorem s_expr (h : wR (ma env mu) (fun _ m => N env m) E) : wS (mExpr ma env mu) N R B C E := w_andS h
theorem s_asg (h : wR (ma env mu) (fun d m => wR (mg d env m) N E) E) : wS (mAsg ma mg env mu) N R B C E := w_andS (w_mono h fun _ _ h => w_andS h)
def isPar (i j : Nat) (env : DEnv) (N : DEnv → Mu → Prop) (ds : List D) (m : Mu) : Prop := ∃ x y, ds = [x, y] ∧ N ((env.set i (some x)).set j (some y)) m
def isPar3 (i j k : Nat) (env : DEnv) (N : DEnv → Mu → Prop) (ds : List D) (m : Mu) : Prop := ∃ x y z, ds = [x, y, z] ∧ N (((env.set i (some x)).set j (some y)).set k (some z)) m
theorem s_par (h : wR (am env mu) (isPar i j env N) E) : wS (mPar i j am env mu) N R B C E := w_andS (w_mono h fun _ _ ⟨x, y, e, h⟩ => by subst e; exact h)
theorem s_par3 (h : wR (am env mu) (isPar3 i j k env N) E) : wS (mPar3 i j k am env mu) N R B C E := w_andS (w_mono h fun _ _ ⟨x, y, z, e, h⟩ => by subst e; exact h)
theorem s_if (h : wR (ta env mu) (fun c m => wB c (wS (sa env m) N R B C E) (wS (sb env m) N R B C E)) E) : wS (mIfS ta sa sb env mu) N R B C E := w_andS (w_mono h fun c m h => by cases c <;> exact h)
theorem s_for (h : wR (mi env mu) (fun ds m => wS (forL mg sb ds env m) N R B C E) E) : wS (mFor mi mg sb env mu) N R B C E := w_andS h
theorem s_forL (I : List D → DEnv → Mu → Prop) (hI : ∀ d rest env mu, I (d :: rest) env mu → wR (mg d env mu) (fun e m => wS (sb e m) (I rest) R N (I rest) E) E) (hN : ∀ env mu, I [] env mu → N env mu) : ∀ (ds : List D) (env : DEnv) (mu : Mu), I ds env mu → wS (forL mg sb ds env mu) N R B C E
  | [], env, mu, h => hN env mu h
  | d :: ds, env, mu, h => w_andS (w_mono (hI d ds env mu h) fun e m h => by
    cases q : sb e m with
    | nx e2 m2 => rw [q] at h; exact s_forL I hI hN ds e2 m2 h
    | ct e2 m2 => rw [q] at h; exact s_forL I hI hN ds e2 m2 h
    | bk e2 m2 => rw [q] at h; exact h
    | rt d2 m2 => rw [q] at h; exact h
    | exc x2 e2 m2 => rw [q] at h; exact h
    | stuck => rw [q] at h; exact h)
/-- over encoded items -/
theorem s_forE {α : Type} (enc : α → D) (I : List α → DEnv → Mu → Prop) (xs : List α) (h0 : I xs env mu) (hI : ∀ a rest env mu, I (a :: rest) env mu → wR (mg (enc a) env mu) (fun e m => wS (sb e m) (I rest) R N (I rest) E) E) (hN : ∀ env mu, I [] env mu → N env mu) : wS (forL mg sb (xs.map enc) env mu) N R B C E :=
  s_forL (fun ds env mu => ∃ l, ds = l.map enc ∧ I l env mu) (fun d rest env mu ⟨l, e, h⟩ => by
    cases l with
    | nil => cases e
    | cons a l =>
      cases e
      refine w_mono (hI a l env mu h) fun e m h => ?_
      cases q : sb e m with
      | nx e2 m2 => rw [q] at h; exact ⟨l, rfl, h⟩
      | ct e2 m2 => rw [q] at h; exact ⟨l, rfl, h⟩
      | bk e2 m2 => rw [q] at h; exact h
      | rt d2 m2 => rw [q] at h; exact h
      | exc x2 e2 m2 => rw [q] at h; exact h
      | stuck => rw [q] at h; exact h) (fun env mu ⟨l, e, h⟩ => by
    cases l with
    | nil => exact hN env mu h
    | cons a l => cases e) _ env mu ⟨xs, rfl, h0⟩
theorem s_while {fuel : Nat} (I : Nat → DEnv → Mu → Prop) (hI : ∀ f env mu, I f env mu → wR (ta env mu) (fun c m => wB c (∃ g, f = g + 1 ∧ wS (sb env m) (I g) R N (I g) E) (N env m)) E) (h0 : I fuel env mu) (h1 : ∀ env mu, ¬ I 0 env mu) : wS (mWhile fuel ta sb env mu) N R B C E := by
  show wS (whileL ta sb fuel env mu) N R B C E
  induction fuel generalizing env mu with
  | zero => exact absurd h0 (h1 env mu)
  | succ f ih =>
    refine w_andS (w_mono (hI _ env mu h0) fun c m h => ?_)
    cases c with
    | false => exact h
    | true =>
      obtain ⟨g, eg, h⟩ := (h : ∃ g, _)
      cases eg
      show wS (match sb env m with
        | .nx e m' => whileL ta sb f e m'
        | .ct e m' => whileL ta sb f e m'
        | .bk e m' => .nx e m'
        | r => r) N R B C E
      cases q : sb env m with
      | nx e2 m2 => rw [q] at h; exact ih h
      | ct e2 m2 => rw [q] at h; exact ih h
      | bk e2 m2 => rw [q] at h; exact h
      | rt d2 m2 => rw [q] at h; exact h
      | exc x2 e2 m2 => rw [q] at h; exact h
      | stuck => rw [q] at h; exact h
theorem s_raise {v : Value} (q : E ⟨v, none⟩ mu) : wS (mRaise v env mu) N R B C E := q
def isSet (env : DEnv) (N : DEnv → Mu → Prop) (v o i : D) (m : Mu) : Prop := ∃ m4, gSet m o i v = some m4 ∧ N env m4
theorem s_set (h : wR (ma env mu) (fun v m1 => wR (mb env m1) (fun o m2 => wR (mc env m2) (fun i m3 => isSet env N v o i m3) E) E) E) : wS (mSet ma mb mc env mu) N R B C E :=
  w_andS (w_mono h fun v m1 h => w_andS (w_mono h fun o m2 h => w_andS (w_mono h fun i m3 ⟨m4, e, h⟩ => by rw [e]; exact h)))
theorem s_frz {l : List D} (h1 : env[i]? = some (some (.cell n))) (h2 : mu[n]? = some (.lst l)) (h3 : wS (sa (env.set i (some (.lst l))) (mu.set n .dead)) N R B C E) : wS (mFrz i sa env mu) N R B C E := by
  unfold mFrz; rw [h1]; simp only [h2]; exact h3
theorem s_frz0 (h1 : env[i]? = some (some d)) (h2 : ∀ n, d ≠ .cell n) (h3 : wS (sa env mu) N R B C E) : wS (mFrz i sa env mu) N R B C E := by
  unfold mFrz; rw [h1]
  cases d with
  | cell n => exact absurd rfl (h2 n)
  | _ => exact h3
theorem w_den {M : List Str} {m : DenS} {Q : D → Mu → Prop} (h : wS (m (startD M ds) mu) (fun _ m => Q .non m) Q no2 no2 E) : wR (denF M m ds mu) Q E := by
  unfold denF
  cases e : m (startD M ds) mu <;> rw [e] at h <;> exact h
end
end DL

/-! DL19: small steps for WP: cells, the drawing, list methods, tables. -/
namespace DL
open PySem L2
theorem lim_and {n : Nat} {q : Prop} (h : n ≤ 1000000) (k : q) : lim n = true ∧ q := ⟨lim_ok h, k⟩
theorem isl_and {b : Bool} {q : Prop} (h : b = true) (k : q) : b = true ∧ q := ⟨h, k⟩
theorem len_and {n m : Nat} {q : Prop} (h : n = m) (k : q) : n = m ∧ q := ⟨h, k⟩
section
variable {mu mu' : Mu} {k n b : Nat} {c c' c0 : Cell} {l : List Cell}
theorem c_last : (mu ++ [c])[mu.length]? = some c := by rw [List.getElem?_append_right (Nat.le_refl _), Nat.sub_self]; rfl
theorem c_app (h : mu[k]? = some c) : (mu ++ l)[k]? = some c := by rw [List.getElem?_append_left (List.getElem?_eq_some_iff.mp h).1]; exact h
theorem c_set (h : mu[n]? = some c0) : (mu.set n c)[n]? = some c := List.getElem?_set_self (List.getElem?_eq_some_iff.mp h).1
theorem c_setne (h : n ≠ k) (e : mu[k]? = some c) : (mu.set n c')[k]? = some c := by rw [List.getElem?_set_ne h]; exact e
theorem c_fr (f : Fr b mu mu') (h : k < b ∨ b + 2 ≤ k) (e : mu[k]? = some c) : mu'[k]? = some c := by rw [f.at_ k h]; exact e
/-- what stood, but in the drawing's two cells, is as it was; more may stand behind -/
structure _root_.DL.Ex (b : Nat) (mu mu' : Mu) : Prop where
  len : mu.length ≤ mu'.length
  at_ : ∀ k c, (k < b ∨ b + 2 ≤ k) → mu[k]? = some c → mu'[k]? = some c
theorem c_ex (f : Ex b mu mu') (h : k < b ∨ b + 2 ≤ k) (e : mu[k]? = some c) : mu'[k]? = some c := f.at_ k c h e
theorem Ex.rfl : Ex b mu mu := ⟨Nat.le_refl _, fun _ _ _ h => h⟩
theorem Ex.trans {mu2 : Mu} (f : Ex b mu mu') (g : Ex b mu' mu2) : Ex b mu mu2 := ⟨Nat.le_trans f.len g.len, fun k c h e => g.at_ k c h (f.at_ k c h e)⟩
theorem Ex.of (f : Fr b mu mu') : Ex b mu mu' := ⟨by rw [f.len]; exact Nat.le_refl _, fun k c h e => by rw [f.at_ k h]; exact e⟩
theorem Ex.app (f : Ex b mu mu') : Ex b mu (mu' ++ l) := ⟨by rw [List.length_append]; have := f.len; omega, fun k c h e => c_app (f.at_ k c h e)⟩
/-- a cell behind what stood is written -/
theorem Ex.set (f : Ex b mu mu') (h : mu.length ≤ n) : Ex b mu (mu'.set n c) := ⟨by rw [List.length_set]; exact f.len, fun k c' h2 e => c_setne (by have := (List.getElem?_eq_some_iff.mp e).1; omega) (f.at_ k c' h2 e)⟩
theorem c_lt (h : mu[k]? = some c) : k < mu.length := (List.getElem?_eq_some_iff.mp h).1
end
section
variable {Q : D → Mu → Prop} {E : XD → Mu → Prop} {mu : Mu} {n b : Nat} {l : List D} {x y : D} {ds : List D}
theorem o_append (h : mu[n]? = some (.lst l)) (hl : l.length ≤ 1000000) (q : Q .non (mu.set n (.lst (l ++ [y])))) : wO (gAppend mu (.cell n) [y]) Q := by
  unfold gAppend
  simp only [h, lim_ok hl, if_true]
  exact q
theorem isLst_c (h : mu[n]? = some (.lst l)) : isLst mu (.cell n) = true := by
  unfold isLst
  rw [view_cell, h]
theorem isl_c {q : Prop} (h : mu[n]? = some (.lst l)) (k : q) : isLst mu (.cell n) = true ∧ q := ⟨isLst_c h, k⟩
theorem isl_l {q : Prop} (k : q) : isLst mu (.lst l) = true ∧ q := ⟨rfl, k⟩
theorem isLst_l : isLst mu (.lst l) = true := rfl
theorem o_ixC {i : Int} (h : mu[n]? = some (.lst l)) (e : atI l i = some x) (q : Q x mu) : wO (gIx mu (.cell n) (.int i)) Q := by
  unfold gIx
  rw [view_cell, h]
  simp only [e, Option.map_some]
  exact q
theorem o_ixL {i : Int} (e : atI l i = some x) (q : Q x mu) : wO (gIx mu (.lst l) (.int i)) Q := by
  unfold gIx
  rw [view_lst]
  simp only [e, Option.map_some]
  exact q
theorem o_ixT {i : Int} (e : atI l i = some x) (q : Q x mu) : wO (gIx mu (.tup l) (.int i)) Q := by
  unfold gIx
  rw [view_tup]
  simp only [e, Option.map_some]
  exact q
theorem o_lenC (h : mu[n]? = some (.lst l)) (q : Q (.int l.length) mu) : wO (gLen mu [.cell n]) Q := by
  unfold gLen
  simp only [view_cell, h]
  exact q
theorem o_setC {i : Int} {k : Nat} {N : DEnv → Mu → Prop} {env : DEnv} (h : mu[n]? = some (.lst l)) (e : ixN l.length i = some k) (q : N env (mu.set n (.lst (l.set k y)))) : isSet env N y (.cell n) (.int i) mu := by
  refine ⟨_, ?_, q⟩
  unfold gSet
  simp only [h, e]
theorem o_tupC (h : mu[n]? = some (.lst l)) (q : Q (.tup l) mu) : wO (gTuple mu [.cell n]) Q := by
  unfold gTuple
  simp only [view_cell, h]
  exact q
theorem o_addT {k : List D} {bb : Bool} (h : l.length + k.length ≤ 1000000) (q : Q (.tup (l ++ k)) mu) : wO (gAdd bb mu (.tup l) (.tup k)) Q := by
  unfold gAdd
  simp only [lim_ok h, if_true]
  exact q
theorem o_addL {k : List D} (h : l.length + k.length ≤ 1000000) (q : Q (.lst (l ++ k)) mu) : wO (gAdd false mu (.lst l) (.lst k)) Q := wO_eq (gCatL (lim_ok h)) q
theorem atI_get {i : Int} {k : Nat} (h0 : 0 ≤ i) (h : l[i.toNat]? = some x) : atI l i = some x := by
  have e : i = ((i.toNat : Nat) : Int) := by omega
  rw [e, atI_nat (j := i.toNat) (v := x) h]
theorem o_repr {y : D} (e : vwD mu 60 x = y) (h : rpB y = true) (q : Q (.str (shD y)) mu) : wO (gRepr mu [x]) Q := by
  unfold gRepr
  simp only [e, h, if_true]
  exact q
theorem o_neS {a b : Str} (q : Q (.bl (!decide (a = b))) mu) : wO (gEqS true mu (.str a) (.str b)) Q := q
theorem o_eqS {a b : Str} (q : Q (.bl (decide (a = b))) mu) : wO (gEqS false mu (.str a) (.str b)) Q := q
theorem o_ne {y : D} (hx : okD 60 x = true) (hy : okD 60 y = true) (hv : view mu x = x) (hw : view mu y = y) (q : Q (.bl (!deq x y)) mu) : wO (gEq true mu x y) Q := wO_eq (gNeD hx hy hv hw) q
theorem o_eq {y : D} (hx : okD 60 x = true) (hy : okD 60 y = true) (hv : view mu x = x) (hw : view mu y = y) (q : Q (.bl (deq x y)) mu) : wO (gEq false mu x y) Q := wO_eq (gEqD hx hy hv hw) q
theorem o_isn (q : Q (.bl (isN x)) mu) : wO (gIsN false mu x .non) Q := q
theorem o_isnn (q : Q (.bl (!isN x)) mu) : wO (gIsN true mu x .non) Q := q
end
/-! tables, and nothing like them behind -/
def isTabC : Cell → Bool
  | .tab _ _ _ => true
  | _ => false
/-- the tables T stand first, and no others -/
structure TabP (T : List (Addr × Str)) (mu : Mu) : Prop where
  at_ : ∀ i, i < T.length → mu[i]? = (tabCells T)[i]?
  no : ∀ i c, T.length ≤ i → mu[i]? = some c → isTabC c = false
section
variable {T : List (Addr × Str)} {mu mu' : Mu} {b : Nat} {c : Cell}
theorem tabCells_length : (tabCells T).length = T.length := by unfold tabCells; rw [List.length_map, List.length_zipIdx]
theorem TabP.start : TabP T (tabCells T) where
  at_ := fun _ _ => rfl
  no := fun i c h e => by rw [List.getElem?_eq_none (by rw [tabCells_length]; exact h)] at e; cases e
theorem TabP.is (h : TabP T mu) : isTabs T mu = true := by
  have hs := tabs_start T
  unfold isTabs at hs ⊢
  rw [Bool.and_eq_true, List.all_eq_true, List.all_eq_true] at hs ⊢
  refine ⟨fun cn hc => ?_, fun p hp => ?_⟩
  · obtain ⟨c, n⟩ := cn
    have e := List.mem_zipIdx_iff_getElem?.mp hc
    have e : mu[n]? = some c := e
    by_cases hn : n < T.length
    · rw [h.at_ n hn] at e
      exact hs.1 (c, n) (List.mem_zipIdx_iff_getElem?.mpr e)
    · have := h.no n c (by omega) e
      cases c with
      | tab _ _ _ => cases this
      | _ => rfl
  · have h2 := hs.2 p hp
    rw [List.any_eq_true] at h2 ⊢
    obtain ⟨c, hc, q⟩ := h2
    obtain ⟨n, hn⟩ := List.getElem?_of_mem hc
    have hl : n < T.length := by rw [← tabCells_length (T := T)]; exact (List.getElem?_eq_some_iff.mp hn).1
    exact ⟨c, List.mem_of_getElem? (i := n) ((h.at_ n hl).trans hn), q⟩
theorem TabP.app (h : TabP T mu) (hl : T.length ≤ mu.length) (hc : isTabC c = false) : TabP T (mu ++ [c]) where
  at_ := fun i hi => by rw [List.getElem?_append_left (by omega)]; exact h.at_ i hi
  no := fun i c' hi e => by
    by_cases q : i < mu.length
    · rw [List.getElem?_append_left q] at e; exact h.no i c' hi e
    · rw [List.getElem?_append_right (by omega)] at e
      cases z : i - mu.length with
      | zero => rw [z] at e; cases e; exact hc
      | succ k => rw [z] at e; simp at e
theorem TabP.set {n : Nat} (h : TabP T mu) (hn : T.length ≤ n) (hc : isTabC c = false) : TabP T (mu.set n c) where
  at_ := fun i hi => by rw [List.getElem?_set_ne (by omega)]; exact h.at_ i hi
  no := fun i c' hi e => by
    by_cases q : n = i
    · subst q
      by_cases hl : n < mu.length
      · rw [List.getElem?_set_self hl] at e; cases e; exact hc
      · rw [List.getElem?_eq_none (by rw [List.length_set]; omega)] at e; cases e
    · rw [List.getElem?_set_ne q] at e; exact h.no i c' hi e
theorem TabP.fr {n : Nat} (h : TabP T mu) (hb : T.length ≤ b) (f : Fr b mu mu') (d : Draw b n mu') : TabP T mu' where
  at_ := fun i hi => by rw [f.at_ i (by omega)]; exact h.at_ i hi
  no := fun i c' hi e => by
    by_cases q : i < b ∨ b + 2 ≤ i
    · rw [f.at_ i q] at e; exact h.no i c' hi e
    · obtain ⟨great, cells, rest, turn, h0, h1, _⟩ := d.ex
      have q2 : i = b ∨ i = b + 1 := by omega
      rcases q2 with rfl | rfl
      · rw [h0] at e; cases e; rfl
      · rw [h1] at e; cases e; rfl
end
/-! the drawing, the tables kept: cells b, b + 1; at most n turns so far -/
structure Dr (T : List (Addr × Str)) (n : Nat) (mu : Mu) : Prop where
  d : Draw T.length n mu
  t : TabP T mu
section
variable {T : List (Addr × Str)} {mu mu' : Mu} {n m k : Nat} {c : Cell} {Q : D → Mu → Prop} {E : XD → Mu → Prop}
theorem Dr.mono (h : Dr T n mu) (l : n ≤ m) : Dr T m mu := ⟨h.d.mono l, h.t⟩
theorem Dr.len (h : Dr T n mu) : T.length + 2 ≤ mu.length := h.d.len
theorem Dr.app (h : Dr T n mu) (hc : isTabC c = false) : Dr T n (mu ++ [c]) := ⟨h.d.app, h.t.app (by have := h.len; omega) hc⟩
theorem Dr.set (h : Dr T n mu) (hk : T.length + 2 ≤ k) (hc : isTabC c = false) : Dr T n (mu.set k c) := ⟨h.d.put (.inr hk), h.t.set (by omega) hc⟩
theorem take_w {many : Int} (h : Dr T n mu) (hn : n ≤ 900000000) (hm : 0 < many) (hl : many.natAbs.log2 < 9000)
    (q : ∀ (r : Int) (mu' : Mu), 0 ≤ r → r < many → Dr T (n + 1) mu' → Ex T.length mu mu' → Q (.int r) mu') : wR (dTake [.cell (T.length + 1), .int many] mu) Q E := by
  obtain ⟨r, mu', e, r0, r1, h', fr⟩ := take_ok h.d hn hm hl
  exact w_eq e (q r mu' r0 r1 ⟨h', h.t.fr (Nat.le_refl _) fr h'⟩ (.of fr))
theorem pick_w {ds : List D} (h : Dr T n mu) (hn : n ≤ 900000000) (h0 : 0 < ds.length) (hl : ds.length ≤ 1000000)
    (q : ∀ (d : D) (mu' : Mu), d ∈ ds → Dr T (n + 1) mu' → Ex T.length mu mu' → Q d mu') : wR (dPick [.cell (T.length + 1), .lst ds] mu) Q E := by
  obtain ⟨d, mu', hd, e, h', fr⟩ := pick_ok h.d hn h0 hl
  exact w_eq e (q d mu' hd ⟨h', h.t.fr (Nat.le_refl _) fr h'⟩ (.of fr))
theorem begin_w {ns : List Int} (hl : ns.length ≤ 63) (q : ∀ mu', Dr T 0 mu' → Q (.cell (T.length + 1)) mu') : wR (dBegin [scriptD ns] (tabCells T)) Q E := by
  obtain ⟨mu, e, d, c1, c2, em⟩ := begin_ok (mu0 := tabCells T) hl
  rw [tabCells_length] at e d
  refine w_eq e (q mu ⟨d, ?_⟩)
  have h0 : mu[T.length]? = some c1 := by rw [em, ← tabCells_length (T := T), List.getElem?_append_right (Nat.le_refl _), Nat.sub_self]; rfl
  have h1 : mu[T.length + 1]? = some c2 := by
    rw [em, List.getElem?_append_right (by rw [tabCells_length]; omega), tabCells_length, show T.length + 1 - T.length = 1 by omega]; rfl
  obtain ⟨great, cells, rest, turn, g0, g1, _⟩ := d.ex
  constructor
  · intro i hi
    rw [em, List.getElem?_append_left (by rw [tabCells_length]; exact hi)]
  · intro i c hi e
    by_cases q0 : i = T.length
    · subst q0; rw [g0] at e; cases e; rfl
    · by_cases q1 : i = T.length + 1
      · subst q1; rw [g1] at e; cases e; rfl
      · rw [em, List.getElem?_eq_none (by rw [List.length_append, tabCells_length]; simp only [List.length_cons, List.length_nil]; omega)] at e; cases e
end
section
variable {N : DEnv → Mu → Prop} {Q : D → Mu → Prop} {E : XD → Mu → Prop} {env env0 e' : DEnv} {mu : Mu} {i j k : Nat} {x y z : D} {ma : DenE} {am : DenA} {mi : DenI} {mg : DenG} {mt : DenT} {own : List Nat} {b : Bool}
theorem par2_i (h : (env.set i (some x)).set j (some y) = e') (q : N e' mu) : isPar i j env N [x, y] mu := ⟨x, y, rfl, by rw [h]; exact q⟩
theorem par3_i (h : ((env.set i (some x)).set j (some y)).set k (some z) = e') (q : N e' mu) : isPar3 i j k env N [x, y, z] mu := ⟨x, y, z, rfl, by rw [h]; exact q⟩
theorem w_lcE (hw : wipeD env own = env0) (h : wR (mi env mu) (fun ds m => wR (lcL mg mt ma env0 ds [] m) (mkQ b Q) E) E) : wR (mLc b mi mg mt ma own env mu) Q E := w_lc (by rw [hw]; exact h)
theorem mkQ_t {out : List D} (q : Q (.cell mu.length) (mu ++ [.lst out])) : mkQ true Q out mu := q
theorem mkQ_f {out : List D} (q : Q (.lst out) mu) : mkQ false Q out mu := q
theorem w_lcFil {α : Type} (enc : α → D) (p : α → Bool) (f : α → D) (xs : List α) (h : ∀ x ∈ xs, wR (mg (enc x) env0 mu) (fun e m1 => wR (mt e m1) (fun c m2 => c = p x ∧ m2 = mu ∧ (p x = true → wR (ma e mu) (fun y m3 => y = f x ∧ m3 = mu) no2)) no2) no2) (hl : xs.length ≤ 1000000)
    (q : mkQ b Q ((xs.filter p).map f) mu) : wR (lcL mg mt ma env0 (xs.map enc) [] mu) (mkQ b Q) E := by
  refine w_lcL (fun ds acc m => ∃ ys, ds = ys.map enc ∧ (∀ y ∈ ys, y ∈ xs) ∧ m = mu ∧ acc ++ (ys.filter p).map f = (xs.filter p).map f ∧ acc.length + ys.length ≤ 1000000) ?_ ?_ _ _ _ ⟨xs, rfl, fun _ h => h, rfl, by simp, by simpa using hl⟩
  · rintro d rest acc m ⟨ys, e, hin, rfl, ea, hl⟩
    cases ys with
    | nil => cases e
    | cons a ys =>
      cases e
      simp only [List.length_cons] at hl
      refine ⟨by omega, w_mono (h a (hin a List.mem_cons_self)) fun e m1 h => w_mono h fun c m2 ⟨h1, h2, h3⟩ => ?_⟩
      subst h1 h2
      cases hp : p a with
      | true =>
        refine wB_t rfl (w_mono (h3 hp) fun y m3 ⟨h4, h5⟩ => ?_)
        subst h4 h5
        refine ⟨ys, rfl, fun y hy => hin y (List.mem_cons_of_mem _ hy), rfl, ?_, by simp; omega⟩
        rw [List.filter_cons_of_pos hp, List.map_cons] at ea
        simpa using ea
      | false =>
        refine wB_f rfl ⟨ys, rfl, fun y hy => hin y (List.mem_cons_of_mem _ hy), rfl, ?_, by omega⟩
        rw [List.filter_cons_of_neg (by rw [hp]; decide)] at ea
        exact ea
  · rintro acc m ⟨ys, e, _, rfl, ea, _⟩
    cases ys with
    | nil =>
      simp only [List.filter_nil, List.map_nil, List.append_nil] at ea
      rw [ea]; exact q
    | cons _ _ => cases e
theorem w_lcMap {α : Type} (enc : α → D) (f : α → D) (xs : List α) (h : ∀ x ∈ xs, wR (mg (enc x) env0 mu) (fun e m1 => wR (mt e m1) (fun c m2 => c = true ∧ m2 = mu ∧ wR (ma e mu) (fun y m3 => y = f x ∧ m3 = mu) no2) no2) no2) (hl : xs.length ≤ 1000000)
    (q : mkQ b Q (xs.map f) mu) : wR (lcL mg mt ma env0 (xs.map enc) [] mu) (mkQ b Q) E :=
  w_lcFil enc (fun _ => true) f xs (fun x hx => w_mono (h x hx) fun e m h => w_mono h fun c m2 ⟨h1, h2, h3⟩ => ⟨h1, h2, fun _ => h3⟩) hl (by rw [List.filter_eq_self.mpr (fun _ _ => rfl)]; exact q)
theorem kw_i {kk n : Nat} {ix : List Nat} {ds es : List D} {g : List D → Mu → Res D} (h1 : ds.length = kk) (h2 : permL ix ds = es) (h3 : es.length = n) (q : wR (g es mu) Q E) : (ds.length = kk ∧ (permL ix ds).length = n) ∧ wR (g (permL ix ds) mu) Q E := by
  subst h2; exact ⟨⟨h1, h3⟩, q⟩
theorem p10 {a c : D} : permL [1, 0] [a, c] = [c, a] := rfl
theorem p01 {a c : D} : permL [0, 1] [a, c] = [a, c] := rfl
theorem p210 {a c d : D} : permL [2, 1, 0] [a, c, d] = [d, c, a] := rfl
theorem p120 {a c d : D} : permL [1, 2, 0] [a, c, d] = [c, d, a] := rfl
theorem p201 {a c d : D} : permL [2, 0, 1] [a, c, d] = [d, a, c] := rfl
theorem p021 {a c d : D} : permL [0, 2, 1] [a, c, d] = [a, d, c] := rfl
theorem p102 {a c d : D} : permL [1, 0, 2] [a, c, d] = [c, a, d] := rfl
end
end DL

/-! DL20: the rules of DL18 as equations, for simp from the head on. -/
namespace DL
open PySem L2
/-! simp does not look into what is wanted behind -/
section
variable {α : Type} {r : Res α} {o : Option (α × Mu)} {Q : α → Mu → Prop} {E : XD → Mu → Prop} {s : SR} {N B C : DEnv → Mu → Prop} {R : D → Mu → Prop} {P P' : Prop} {c : Bool} {d x y z : D} {mu : Mu} {i j k : Nat} {env : DEnv} {ds : List D}
end
section
variable {α β : Type} {r : Res α} {Q : α → Mu → Prop} {E : XD → Mu → Prop} {c : Bool} {A B : Prop}
theorem E_ok {a : α} {m : Mu} : wR (.ok a m) Q E = Q a m := rfl
theorem E_bind {f : α → Mu → Res β} {Q : β → Mu → Prop} : wR (r.bind f) Q E = wR r (fun a m => wR (f a m) Q E) E := by cases r <;> rfl
theorem E_ofO {o : Option (α × Mu)} : wR (.ofO o) Q E = wO o Q := by cases o <;> rfl
theorem E_ite {b : Bool} {x y : Res α} : wR (if b = true then x else y) Q E = wB b (wR x Q E) (wR y Q E) := by cases b <;> rfl
theorem E_itep {p : Prop} [Decidable p] {x : Res α} : wR (if p then x else .stuck) Q E = (p ∧ wR x Q E) := by
  by_cases h : p
  · rw [if_pos h]; exact propext ⟨fun q => ⟨h, q⟩, fun q => q.2⟩
  · rw [if_neg h]; exact propext ⟨fun q => q.elim, fun q => absurd q.1 h⟩
theorem E_iteb {b : Bool} {x : Res α} : wR (if b = true then x else .stuck) Q E = (b = true ∧ wR x Q E) := E_itep
theorem E_wBt : wB true A B = A := by unfold wB; exact if_pos rfl
theorem E_wBf : wB false A B = B := by unfold wB; exact if_neg Bool.false_ne_true
theorem E_wBn : wB (!c) A B = wB c B A := by cases c <;> (unfold wB; simp)
theorem E_noX : wR r.noX Q E = wR r Q no2 := by cases r <;> rfl
end
section
variable {Q : D → Mu → Prop} {E : XD → Mu → Prop} {env e' : DEnv} {mu m1 : Mu} {d x y : D} {ds : List D} {i j k n : Nat} {c : Bool}
variable {ma mb mc me mf : DenE} {ta tb : DenT} {am : DenA}
theorem E_v0 {e : DEnv} : wR (mVar 0 (some d :: e) mu) Q E = Q d mu := rfl
theorem E_v1 {a0} {e : DEnv} : wR (mVar 1 (a0 :: some d :: e) mu) Q E = Q d mu := rfl
theorem E_v2 {a0 a1} {e : DEnv} : wR (mVar 2 (a0 :: a1 :: some d :: e) mu) Q E = Q d mu := rfl
theorem E_v3 {a0 a1 a2} {e : DEnv} : wR (mVar 3 (a0 :: a1 :: a2 :: some d :: e) mu) Q E = Q d mu := rfl
theorem E_v4 {a0 a1 a2 a3} {e : DEnv} : wR (mVar 4 (a0 :: a1 :: a2 :: a3 :: some d :: e) mu) Q E = Q d mu := rfl
theorem E_v5 {a0 a1 a2 a3 a4} {e : DEnv} : wR (mVar 5 (a0 :: a1 :: a2 :: a3 :: a4 :: some d :: e) mu) Q E = Q d mu := rfl
theorem E_v6 {a0 a1 a2 a3 a4 a5} {e : DEnv} : wR (mVar 6 (a0 :: a1 :: a2 :: a3 :: a4 :: a5 :: some d :: e) mu) Q E = Q d mu := rfl
theorem E_v7 {a0 a1 a2 a3 a4 a5 a6} {e : DEnv} : wR (mVar 7 (a0 :: a1 :: a2 :: a3 :: a4 :: a5 :: a6 :: some d :: e) mu) Q E = Q d mu := rfl
theorem E_v8 {a0 a1 a2 a3 a4 a5 a6 a7} {e : DEnv} : wR (mVar 8 (a0 :: a1 :: a2 :: a3 :: a4 :: a5 :: a6 :: a7 :: some d :: e) mu) Q E = Q d mu := rfl
theorem E_v9 {a0 a1 a2 a3 a4 a5 a6 a7 a8} {e : DEnv} : wR (mVar 9 (a0 :: a1 :: a2 :: a3 :: a4 :: a5 :: a6 :: a7 :: a8 :: some d :: e) mu) Q E = Q d mu := rfl
theorem E_v10 {a0 a1 a2 a3 a4 a5 a6 a7 a8 a9} {e : DEnv} : wR (mVar 10 (a0 :: a1 :: a2 :: a3 :: a4 :: a5 :: a6 :: a7 :: a8 :: a9 :: some d :: e) mu) Q E = Q d mu := rfl
theorem E_v11 {a0 a1 a2 a3 a4 a5 a6 a7 a8 a9 a10} {e : DEnv} : wR (mVar 11 (a0 :: a1 :: a2 :: a3 :: a4 :: a5 :: a6 :: a7 :: a8 :: a9 :: a10 :: some d :: e) mu) Q E = Q d mu := rfl
theorem E_v12 {a0 a1 a2 a3 a4 a5 a6 a7 a8 a9 a10 a11} {e : DEnv} : wR (mVar 12 (a0 :: a1 :: a2 :: a3 :: a4 :: a5 :: a6 :: a7 :: a8 :: a9 :: a10 :: a11 :: some d :: e) mu) Q E = Q d mu := rfl
theorem E_C : wR (mC d env mu) Q E = Q d mu := rfl
theorem E_op {g : Mu → D → D → ORes D} : wR (mOp g ma mb env mu) Q E = wR (ma env mu) (fun x m1 => wR (mb env m1) (fun y m2 => wO (g m2 x y) Q) E) E := by unfold mOp; simp only [E_bind, E_ofO]
theorem E_un {g : Mu → D → ORes D} : wR (mUn g ma env mu) Q E = wR (ma env mu) (fun x m1 => wO (g m1 x) Q) E := by unfold mUn; simp only [E_bind, E_ofO]
theorem E_isBl {Q : Bool → Mu → Prop} : isBl Q (.bl c) mu = Q c mu := propext ⟨fun ⟨_, e, h⟩ => by cases e; exact h, fun h => ⟨c, rfl, h⟩⟩
theorem E_test {Q : Bool → Mu → Prop} : wR (mTest ma env mu) Q E = wR (ma env mu) (isBl Q) E := by
  unfold mTest
  rw [E_bind]
  congr 1
  funext d m
  cases d <;> first | exact E_isBl.symm | exact propext ⟨fun h => h.elim, fun ⟨_, e, _⟩ => by cases e⟩
theorem E_tand {Q : Bool → Mu → Prop} : wR (mTAnd ta tb env mu) Q E = wR (ta env mu) (fun c m1 => wB c (wR (tb env m1) Q E) (Q false m1)) E := by unfold mTAnd; simp only [E_bind, E_ite, E_ok]
theorem E_tor {Q : Bool → Mu → Prop} : wR (mTOr ta tb env mu) Q E = wR (ta env mu) (fun c m1 => wB c (Q true m1) (wR (tb env m1) Q E)) E := by unfold mTOr; simp only [E_bind, E_ite, E_ok]
theorem E_tnot {Q : Bool → Mu → Prop} : wR (mTNot ta env mu) Q E = wR (ta env mu) (fun c m1 => Q (!c) m1) E := by unfold mTNot; simp only [E_bind, E_ok]
theorem E_and : wR (mAnd ma mb env mu) Q E = wR (ma env mu) (isBl fun c m1 => wB c (wR (mb env m1) Q E) (Q (.bl false) m1)) E := by
  unfold mAnd
  rw [E_bind]
  congr 1
  funext d m
  cases d <;> first | (rw [E_isBl, E_ite]; rfl) | exact propext ⟨fun h => h.elim, fun ⟨_, e, _⟩ => by cases e⟩
theorem E_or : wR (mOr ma mb env mu) Q E = wR (ma env mu) (isBl fun c m1 => wB c (Q (.bl true) m1) (wR (mb env m1) Q E)) E := by
  unfold mOr
  rw [E_bind]
  congr 1
  funext d m
  cases d <;> first | (rw [E_isBl, E_ite]; rfl) | exact propext ⟨fun h => h.elim, fun ⟨_, e, _⟩ => by cases e⟩
theorem E_not : wR (mNot ma env mu) Q E = wR (ma env mu) (isBl fun c m1 => Q (.bl (!c)) m1) E := by
  unfold mNot
  rw [E_bind]
  congr 1
  funext d m
  cases d <;> first | (rw [E_isBl]; rfl) | exact propext ⟨fun h => h.elim, fun ⟨_, e, _⟩ => by cases e⟩
theorem E_if : wR (mIf ta ma mb env mu) Q E = wR (ta env mu) (fun c m1 => wB c (wR (ma env m1) Q E) (wR (mb env m1) Q E)) E := by unfold mIf; simp only [E_bind, E_ite]
theorem E_nil {Q : List D → Mu → Prop} : wR (mNil env mu) Q E = Q [] mu := rfl
theorem E_cons {Q : List D → Mu → Prop} : wR (mCons ma am env mu) Q E = wR (ma env mu) (fun x m1 => wR (am env m1) (fun ds m2 => Q (x :: ds) m2) E) E := by unfold mCons; simp only [E_bind, E_ok]
theorem E_tup : wR (mTup am env mu) Q E = wR (am env mu) (fun ds m => lim ds.length = true ∧ Q (.tup ds) m) E := by unfold mTup; simp only [E_bind, E_iteb, E_ok]
theorem E_lst : wR (mLst false am env mu) Q E = wR (am env mu) (fun ds m => lim ds.length = true ∧ Q (.lst ds) m) E := by unfold mLst; simp only [E_bind, E_iteb, E_ofO]; rfl
theorem E_lstC : wR (mLst true am env mu) Q E = wR (am env mu) (fun ds m => lim ds.length = true ∧ Q (.cell m.length) (m ++ [.lst ds])) E := by unfold mLst; simp only [E_bind, E_iteb, E_ofO]; rfl
theorem E_newD : wR (mNewD env mu) Q E = Q (.cell mu.length) (mu ++ [.dk []]) := rfl
theorem E_call {g : Mu → List D → ORes D} : wR (mCall g am env mu) Q E = wR (am env mu) (fun ds m => wO (g m ds) Q) E := by unfold mCall; simp only [E_bind, E_ofO]
theorem E_met {ty : Mu → D → Bool} {g : Mu → D → List D → ORes D} : wR (mMet ty g ma am env mu) Q E = wR (ma env mu) (fun x m1 => ty m1 x = true ∧ wR (am env m1) (fun ds m2 => wO (g m2 x ds) Q) E) E := by unfold mMet; simp only [E_bind, E_iteb, E_ofO]
theorem E_metC {g : Mu → D → List D → ORes D} : wR (mMetC d g am env mu) Q E = wR (am env mu) (fun ds m => wO (g m d ds) Q) E := by unfold mMetC; simp only [E_bind, E_ofO]
theorem E_callF {g : List D → Mu → Res D} : wR (mCallF n g am env mu) Q E = wR (am env mu) (fun ds m => ds.length = n ∧ wR (g ds m) Q E) E := by unfold mCallF; simp only [E_bind, E_itep]
theorem E_callF1 {g : List D → Mu → Res D} : wR (mCallF 1 g (mCons ma mNil) env mu) Q E = wR (ma env mu) (fun x m => wR (g [x] m) Q E) E := by
  rw [E_callF, E_cons]; simp only [E_nil, List.length_cons, List.length_nil, true_and]
theorem E_callF2 {g : List D → Mu → Res D} : wR (mCallF 2 g (mCons ma (mCons mb mNil)) env mu) Q E = wR (ma env mu) (fun x m => wR (mb env m) (fun y m => wR (g [x, y] m) Q E) E) E := by
  rw [E_callF, E_cons]; simp only [E_cons, E_nil, List.length_cons, List.length_nil, true_and]
theorem E_callF3 {g : List D → Mu → Res D} : wR (mCallF 3 g (mCons ma (mCons mb (mCons mc mNil))) env mu) Q E = wR (ma env mu) (fun x m => wR (mb env m) (fun y m => wR (mc env m) (fun z m => wR (g [x, y, z] m) Q E) E) E) E := by
  rw [E_callF, E_cons]; simp only [E_cons, E_nil, List.length_cons, List.length_nil, true_and]
theorem E_callF4 {g : List D → Mu → Res D} : wR (mCallF 4 g (mCons ma (mCons mb (mCons mc (mCons me mNil)))) env mu) Q E = wR (ma env mu) (fun x m => wR (mb env m) (fun y m => wR (mc env m) (fun z m => wR (me env m) (fun u m => wR (g [x, y, z, u] m) Q E) E) E) E) E := by
  rw [E_callF, E_cons]; simp only [E_cons, E_nil, List.length_cons, List.length_nil, true_and]
theorem E_callF5 {g : List D → Mu → Res D} : wR (mCallF 5 g (mCons ma (mCons mb (mCons mc (mCons me (mCons mf mNil))))) env mu) Q E = wR (ma env mu) (fun x m => wR (mb env m) (fun y m => wR (mc env m) (fun z m => wR (me env m) (fun u m => wR (mf env m) (fun v m => wR (g [x, y, z, u, v] m) Q E) E) E) E) E) E := by
  rw [E_callF, E_cons]; simp only [E_cons, E_nil, List.length_cons, List.length_nil, true_and]
theorem E_call1 {g : Mu → List D → ORes D} : wR (mCall g (mCons ma mNil) env mu) Q E = wR (ma env mu) (fun x m => wO (g m [x]) Q) E := by
  rw [E_call, E_cons]; simp only [E_nil]
theorem E_call2 {g : Mu → List D → ORes D} : wR (mCall g (mCons ma (mCons mb mNil)) env mu) Q E = wR (ma env mu) (fun x m => wR (mb env m) (fun y m => wO (g m [x, y]) Q) E) E := by
  rw [E_call, E_cons]; simp only [E_cons, E_nil]
theorem E_met0 {ty : Mu → D → Bool} {g : Mu → D → List D → ORes D} : wR (mMet ty g ma mNil env mu) Q E = wR (ma env mu) (fun x m1 => ty m1 x = true ∧ wO (g m1 x []) Q) E := by
  rw [E_met]; simp only [E_nil]
theorem E_met1 {ty : Mu → D → Bool} {g : Mu → D → List D → ORes D} : wR (mMet ty g ma (mCons mb mNil) env mu) Q E = wR (ma env mu) (fun x m1 => ty m1 x = true ∧ wR (mb env m1) (fun y m2 => wO (g m2 x [y]) Q) E) E := by
  rw [E_met]; simp only [E_cons, E_nil]
theorem E_metC1 {g : Mu → D → List D → ORes D} : wR (mMetC d g (mCons mb mNil) env mu) Q E = wR (mb env mu) (fun y m2 => wO (g m2 d [y]) Q) E := by
  rw [E_metC]; simp only [E_cons, E_nil]
theorem E_tup2 : wR (mTup (mCons ma (mCons mb mNil)) env mu) Q E = wR (ma env mu) (fun x m => wR (mb env m) (fun y m => Q (.tup [x, y]) m) E) E := by
  have h : ∀ x y : D, lim ([x, y] : List D).length = true := fun _ _ => rfl
  rw [E_tup, E_cons]; simp only [E_cons, E_nil, h, true_and]
theorem E_tup0 : wR (mTup mNil env mu) Q E = Q (.tup []) mu := rfl
theorem E_lst0 : wR (mLst false mNil env mu) Q E = Q (.lst []) mu := rfl
theorem E_lstC0 : wR (mLst true mNil env mu) Q E = Q (.cell mu.length) (mu ++ [.lst []]) := rfl
theorem E_oN {Q : Option Int → Mu → Prop} : wR (mON env mu) Q E = Q none mu := rfl
theorem E_isInt {Q : Int → Mu → Prop} {c : Int} : isInt Q (.int c) mu = Q c mu := propext ⟨fun ⟨_, e, h⟩ => by cases e; exact h, fun h => ⟨c, rfl, h⟩⟩
theorem E_oS {Q : Option Int → Mu → Prop} : wR (mOS ma env mu) Q E = wR (ma env mu) (isInt fun i m => Q (some i) m) E := by
  unfold mOS
  rw [E_bind]
  congr 1
  funext d m
  cases d <;> first | (rw [E_isInt]; rfl) | exact propext ⟨fun h => h.elim, fun ⟨_, e, _⟩ => by cases e⟩
theorem E_sl {b : Bool} {ml mh : DenO} : wR (mSl b ma ml mh env mu) Q E = wR (ma env mu) (fun x m1 => wR (ml env m1) (fun lo m2 => wR (mh env m2) (fun hi m3 => wO (gSl b m3 x lo hi) Q) E) E) E := by unfold mSl; simp only [E_bind, E_ofO]
theorem E_g0 {e : DEnv} {a0 : Option D} {Q : DEnv → Mu → Prop} : wR (mGName 0 d (a0 :: e) mu) Q E = Q (some d :: e) mu := rfl
theorem E_g1 {e : DEnv} {a0 a1 : Option D} {Q : DEnv → Mu → Prop} : wR (mGName 1 d (a0 :: a1 :: e) mu) Q E = Q (a0 :: some d :: e) mu := rfl
theorem E_g2 {e : DEnv} {a0 a1 a2 : Option D} {Q : DEnv → Mu → Prop} : wR (mGName 2 d (a0 :: a1 :: a2 :: e) mu) Q E = Q (a0 :: a1 :: some d :: e) mu := rfl
theorem E_g3 {e : DEnv} {a0 a1 a2 a3 : Option D} {Q : DEnv → Mu → Prop} : wR (mGName 3 d (a0 :: a1 :: a2 :: a3 :: e) mu) Q E = Q (a0 :: a1 :: a2 :: some d :: e) mu := rfl
theorem E_g4 {e : DEnv} {a0 a1 a2 a3 a4 : Option D} {Q : DEnv → Mu → Prop} : wR (mGName 4 d (a0 :: a1 :: a2 :: a3 :: a4 :: e) mu) Q E = Q (a0 :: a1 :: a2 :: a3 :: some d :: e) mu := rfl
theorem E_g5 {e : DEnv} {a0 a1 a2 a3 a4 a5 : Option D} {Q : DEnv → Mu → Prop} : wR (mGName 5 d (a0 :: a1 :: a2 :: a3 :: a4 :: a5 :: e) mu) Q E = Q (a0 :: a1 :: a2 :: a3 :: a4 :: some d :: e) mu := rfl
theorem E_g6 {e : DEnv} {a0 a1 a2 a3 a4 a5 a6 : Option D} {Q : DEnv → Mu → Prop} : wR (mGName 6 d (a0 :: a1 :: a2 :: a3 :: a4 :: a5 :: a6 :: e) mu) Q E = Q (a0 :: a1 :: a2 :: a3 :: a4 :: a5 :: some d :: e) mu := rfl
theorem E_g7 {e : DEnv} {a0 a1 a2 a3 a4 a5 a6 a7 : Option D} {Q : DEnv → Mu → Prop} : wR (mGName 7 d (a0 :: a1 :: a2 :: a3 :: a4 :: a5 :: a6 :: a7 :: e) mu) Q E = Q (a0 :: a1 :: a2 :: a3 :: a4 :: a5 :: a6 :: some d :: e) mu := rfl
theorem E_g8 {e : DEnv} {a0 a1 a2 a3 a4 a5 a6 a7 a8 : Option D} {Q : DEnv → Mu → Prop} : wR (mGName 8 d (a0 :: a1 :: a2 :: a3 :: a4 :: a5 :: a6 :: a7 :: a8 :: e) mu) Q E = Q (a0 :: a1 :: a2 :: a3 :: a4 :: a5 :: a6 :: a7 :: some d :: e) mu := rfl
theorem E_g9 {e : DEnv} {a0 a1 a2 a3 a4 a5 a6 a7 a8 a9 : Option D} {Q : DEnv → Mu → Prop} : wR (mGName 9 d (a0 :: a1 :: a2 :: a3 :: a4 :: a5 :: a6 :: a7 :: a8 :: a9 :: e) mu) Q E = Q (a0 :: a1 :: a2 :: a3 :: a4 :: a5 :: a6 :: a7 :: a8 :: some d :: e) mu := rfl
theorem E_gtup {Q : DEnv → Mu → Prop} {ms : DenGs} : wR (mGTup n ms (.tup ds) env mu) Q E = (ds.length = n ∧ wR (ms ds env mu) Q E) := E_itep
theorem E_gcons {Q : DEnv → Mu → Prop} {mg : DenG} {ms : DenGs} : wR (mGCons mg ms (d :: ds) env mu) Q E = wR (mg d env mu) (fun e m => wR (ms ds e m) Q E) E := E_bind
theorem E_gnil {Q : DEnv → Mu → Prop} : wR (mGNil [] env mu) Q E = Q env mu := rfl
theorem E_yes {Q : Bool → Mu → Prop} : wR (mYes env mu) Q E = Q true mu := rfl
theorem E_isItems {Q : List D → Mu → Prop} : isItems Q (.lst ds) mu = Q ds mu := propext ⟨fun ⟨_, e, h⟩ => by cases e; exact h, fun h => ⟨_, rfl, h⟩⟩
theorem E_isItemsT {Q : List D → Mu → Prop} : isItems Q (.tup ds) mu = Q ds mu := propext ⟨fun ⟨_, e, h⟩ => by cases e; exact h, fun h => ⟨_, rfl, h⟩⟩
theorem E_seqI {Q : List D → Mu → Prop} : wR (mSeqI ma env mu) Q E = wR (ma env mu) (isItems Q) E := by
  unfold mSeqI
  rw [E_bind]
  congr 1
  funext d m
  cases d <;> first | exact E_isItems.symm | exact E_isItemsT.symm | exact propext ⟨fun h => ⟨_, rfl, h⟩, fun ⟨_, e, h⟩ => by cases e; exact h⟩ | exact propext ⟨fun h => h.elim, fun ⟨_, e, _⟩ => by cases e⟩
theorem E_isLstL : isLst mu (.lst ds) = true := rfl
end
section
variable {N B C : DEnv → Mu → Prop} {R : D → Mu → Prop} {E : XD → Mu → Prop} {env e' : DEnv} {mu m1 : Mu} {d x y : D} {ds : List D} {i j k n : Nat}
variable {ma mb mc : DenE} {ta : DenT} {am : DenA} {mg : DenG} {mi : DenI} {sa sb : DenS}
theorem E_andS {α : Type} {r : Res α} {f : α → Mu → SR} : wS (r.andS env f) N R B C E = wR r (fun a m => wS (f a m) N R B C E) E := by cases r <;> rfl
theorem E_iteS {b : Bool} {x y : SR} : wS (if b = true then x else y) N R B C E = wB b (wS x N R B C E) (wS y N R B C E) := by cases b <;> rfl
theorem E_nx : wS (.nx env mu) N R B C E = N env mu := rfl
theorem E_rt : wS (.rt d mu) N R B C E = R d mu := rfl
theorem E_seq : wS (mSeq sa sb env mu) N R B C E = wS (sa env mu) (fun e m => wS (sb e m) N R B C E) R B C E := by
  unfold mSeq
  cases sa env mu <;> rfl
theorem E_skip : wS (mSkip env mu) N R B C E = N env mu := rfl
theorem E_retN : wS (mRetN env mu) N R B C E = R .non mu := rfl
theorem E_ret : wS (mRet ma env mu) N R B C E = wR (ma env mu) R E := by unfold mRet; rw [E_andS]; rfl
theorem E_expr : wS (mExpr ma env mu) N R B C E = wR (ma env mu) (fun _ m => N env m) E := by unfold mExpr; rw [E_andS]; rfl
theorem E_asg : wS (mAsg ma mg env mu) N R B C E = wR (ma env mu) (fun d m => wR (mg d env m) N E) E := by
  unfold mAsg
  simp only [E_andS]
  rfl
theorem E_ifS : wS (mIfS ta sa sb env mu) N R B C E = wR (ta env mu) (fun c m => wB c (wS (sa env m) N R B C E) (wS (sb env m) N R B C E)) E := by unfold mIfS; simp only [E_andS, E_iteS]
theorem E_for : wS (mFor mi mg sb env mu) N R B C E = wR (mi env mu) (fun ds m => wS (forL mg sb ds env m) N R B C E) E := by unfold mFor; rw [E_andS]
theorem E_par {a0 : Option D} : wS (mPar i j (mCons ma (mCons mb mNil)) env mu) N R B C E = wR (ma env mu) (fun x m => wR (mb env m) (fun y m => N ((env.set i (some x)).set j (some y)) m) E) E := by
  unfold mPar
  rw [E_andS, E_cons]; simp only [E_cons, E_nil]; rfl
theorem E_raise {v : Value} : wS (mRaise v env mu) N R B C E = E ⟨v, none⟩ mu := rfl
theorem E_brk : wS (mBrk env mu) N R B C E = B env mu := rfl
theorem E_cont : wS (mCont env mu) N R B C E = C env mu := rfl
end
section
variable {Q : D → Mu → Prop} {mu : Mu} {i j : Int} {b : Bool}
theorem E_some {α : Type} {Q : α → Mu → Prop} {a : α} {m : Mu} : wO (some (a, m)) Q = Q a m := rfl
theorem E_addI : wO (gAdd b mu (.int i) (.int j)) Q = Q (.int (i + j)) mu := rfl
theorem E_subI : wO (gSub mu (.int i) (.int j)) Q = Q (.int (i - j)) mu := rfl
theorem E_eqI : wO (gEq false mu (.int i) (.int j)) Q = Q (.bl (decide (i = j))) mu := rfl
theorem E_neI : wO (gEq true mu (.int i) (.int j)) Q = Q (.bl (!decide (i = j))) mu := rfl
theorem E_ltI : wO (gLt mu (.int i) (.int j)) Q = Q (.bl (decide (i < j))) mu := rfl
theorem E_leI : wO (gLe mu (.int i) (.int j)) Q = Q (.bl (decide (i ≤ j))) mu := rfl
theorem E_gtI : wO (gGt mu (.int i) (.int j)) Q = Q (.bl (decide (j < i))) mu := rfl
theorem E_geI : wO (gGe mu (.int i) (.int j)) Q = Q (.bl (decide (j ≤ i))) mu := rfl
theorem E_intI : wO (gInt mu [.int i]) Q = Q (.int i) mu := rfl
theorem E_max2 : wO (gMax mu [.int i, .int j]) Q = Q (.int (max i j)) mu := rfl
theorem E_min2 : wO (gMin mu [.int i, .int j]) Q = Q (.int (min i j)) mu := rfl
theorem E_negI : wO (gNeg mu (.int i)) Q = Q (.int (-i)) mu := rfl
theorem E_isn {x : D} : wO (gIsN false mu x .non) Q = Q (.bl (isN x)) mu := rfl
theorem E_isnn {x : D} : wO (gIsN true mu x .non) Q = Q (.bl (!isN x)) mu := rfl
theorem E_neS {x y : Str} : wO (gEqS true mu (.str x) (.str y)) Q = Q (.bl (!decide (x = y))) mu := rfl
theorem E_eqS {x y : Str} : wO (gEqS false mu (.str x) (.str y)) Q = Q (.bl (decide (x = y))) mu := rfl
theorem E_lenT {l : List D} : wO (gLen mu [.tup l]) Q = Q (.int l.length) mu := rfl
theorem E_lenL {l : List D} : wO (gLen mu [.lst l]) Q = Q (.int l.length) mu := rfl
theorem E_tupL {l : List D} : wO (gTuple mu [.lst l]) Q = Q (.tup l) mu := rfl
theorem E_tupT {l : List D} : wO (gTuple mu [.tup l]) Q = Q (.tup l) mu := rfl
theorem E_ix0T {d : D} {l : List D} : wO (gIx mu (.tup (d :: l)) (.int 0)) Q = Q d mu := by
  show wO ((atI (d :: l) ((0 : Nat) : Int)).map _) Q = _
  rw [atI_nat (j := 0) (v := d) rfl]; rfl
theorem E_ix1T {d e : D} {l : List D} : wO (gIx mu (.tup (e :: d :: l)) (.int 1)) Q = Q d mu := by
  show wO ((atI (e :: d :: l) ((1 : Nat) : Int)).map _) Q = _
  rw [atI_nat (j := 1) (v := d) rfl]; rfl
theorem E_ix0L {d : D} {l : List D} : wO (gIx mu (.lst (d :: l)) (.int 0)) Q = Q d mu := by
  show wO ((atI (d :: l) ((0 : Nat) : Int)).map _) Q = _
  rw [atI_nat (j := 0) (v := d) rfl]; rfl
theorem E_ix1L {d e : D} {l : List D} : wO (gIx mu (.lst (e :: d :: l)) (.int 1)) Q = Q d mu := by
  show wO ((atI (e :: d :: l) ((1 : Nat) : Int)).map _) Q = _
  rw [atI_nat (j := 1) (v := d) rfl]; rfl
end
section
variable {Q : D → Mu → Prop} {P : Bool → Mu → Prop} {E : XD → Mu → Prop} {env : DEnv} {mu : Mu} {c : Bool} {mb : DenE} {tb : DenT}
/-! both sides looked at, nothing changed: no ways -/
def sameB (mu : Mu) (P : Bool → Prop) (c : Bool) (m : Mu) : Prop := m = mu ∧ P c
theorem sameB_i {P : Bool → Prop} (h : P c) : sameB mu P c mu := ⟨rfl, h⟩
theorem j_and (h : wR (mb env mu) (isBl (sameB mu fun c2 => Q (.bl (c && c2)) mu)) no2) : wB c (wR (mb env mu) Q E) (Q (.bl false) mu) := by
  obtain ⟨d, m, e, c2, rfl, rfl, h⟩ := w_out h
  cases c with
  | true => exact wB_t rfl (w_eq e h)
  | false => exact wB_f rfl h
theorem j_or (h : wR (mb env mu) (isBl (sameB mu fun c2 => Q (.bl (c || c2)) mu)) no2) : wB c (Q (.bl true) mu) (wR (mb env mu) Q E) := by
  obtain ⟨d, m, e, c2, rfl, rfl, h⟩ := w_out h
  cases c with
  | true => exact wB_t rfl h
  | false => exact wB_f rfl (w_eq e h)
theorem j_tand (h : wR (tb env mu) (sameB mu fun c2 => P (c && c2) mu) no2) : wB c (wR (tb env mu) P E) (P false mu) := by
  obtain ⟨c2, m, e, rfl, h⟩ := w_out h
  cases c with
  | true => exact wB_t rfl (w_eq e h)
  | false => exact wB_f rfl h
theorem j_tor (h : wR (tb env mu) (sameB mu fun c2 => P (c || c2) mu) no2) : wB c (P true mu) (wR (tb env mu) P E) := by
  obtain ⟨c2, m, e, rfl, h⟩ := w_out h
  cases c with
  | true => exact wB_t rfl h
  | false => exact wB_f rfl (w_eq e h)
theorem E_intB : wO (gInt mu [.bl c]) Q = Q (.int (if c then 1 else 0)) mu := rfl
end
end DL

/-! DL21: one step from the left, found by its head. Written by mkinst.py. -/
namespace DL
open PySem L2
class Stp (P : Prop) (R : outParam Prop) : Prop where
  h : R → P
class Stps (P : Prop) (R : outParam Prop) : Prop where
  h : R → P
instance (priority := 10) Stps.none {P : Prop} : Stps P P := ⟨id⟩
instance Stps.more {P R R' : Prop} [a : Stp P R] [b : Stps R R'] : Stps P R' := ⟨fun h => a.h (b.h h)⟩
theorem go1 {P R R' : Prop} [a : Stp P R] [b : Stps R R'] (h : R') : P := a.h (b.h h)
section
variable {α : Type} {r : Res α} {o : Option (α × Mu)} {Q : α → Mu → Prop} {E : XD → Mu → Prop} {s : SR} {N B C : DEnv → Mu → Prop} {R : D → Mu → Prop} {P P' : Prop} {c : Bool} {d x y z : D} {mu : Mu} {i j k : Nat} {env : DEnv} {ds : List D}
end
section
variable {α β : Type} {r : Res α} {Q : α → Mu → Prop} {E : XD → Mu → Prop} {c : Bool} {A B : Prop}
instance I_wBt : Stp (wB true A B) (A) := ⟨Eq.mpr E_wBt⟩
instance I_wBf : Stp (wB false A B) (B) := ⟨Eq.mpr E_wBf⟩
instance I_wBn : Stp (wB (!c) A B) (wB c B A) := ⟨Eq.mpr E_wBn⟩
end
section
variable {Q : D → Mu → Prop} {E : XD → Mu → Prop} {env e' : DEnv} {mu m1 : Mu} {d x y : D} {ds : List D} {i j k n : Nat} {c : Bool}
variable {ma mb mc me mf : DenE} {ta tb : DenT} {am : DenA}
instance I_v0 {e : DEnv} : Stp (wR (mVar 0 (some d :: e) mu) Q E) (Q d mu) := ⟨Eq.mpr E_v0⟩
instance I_v1 {a0} {e : DEnv} : Stp (wR (mVar 1 (a0 :: some d :: e) mu) Q E) (Q d mu) := ⟨Eq.mpr E_v1⟩
instance I_v2 {a0 a1} {e : DEnv} : Stp (wR (mVar 2 (a0 :: a1 :: some d :: e) mu) Q E) (Q d mu) := ⟨Eq.mpr E_v2⟩
instance I_v3 {a0 a1 a2} {e : DEnv} : Stp (wR (mVar 3 (a0 :: a1 :: a2 :: some d :: e) mu) Q E) (Q d mu) := ⟨Eq.mpr E_v3⟩
instance I_v4 {a0 a1 a2 a3} {e : DEnv} : Stp (wR (mVar 4 (a0 :: a1 :: a2 :: a3 :: some d :: e) mu) Q E) (Q d mu) := ⟨Eq.mpr E_v4⟩
instance I_v5 {a0 a1 a2 a3 a4} {e : DEnv} : Stp (wR (mVar 5 (a0 :: a1 :: a2 :: a3 :: a4 :: some d :: e) mu) Q E) (Q d mu) := ⟨Eq.mpr E_v5⟩
instance I_v6 {a0 a1 a2 a3 a4 a5} {e : DEnv} : Stp (wR (mVar 6 (a0 :: a1 :: a2 :: a3 :: a4 :: a5 :: some d :: e) mu) Q E) (Q d mu) := ⟨Eq.mpr E_v6⟩
instance I_v7 {a0 a1 a2 a3 a4 a5 a6} {e : DEnv} : Stp (wR (mVar 7 (a0 :: a1 :: a2 :: a3 :: a4 :: a5 :: a6 :: some d :: e) mu) Q E) (Q d mu) := ⟨Eq.mpr E_v7⟩
instance I_v8 {a0 a1 a2 a3 a4 a5 a6 a7} {e : DEnv} : Stp (wR (mVar 8 (a0 :: a1 :: a2 :: a3 :: a4 :: a5 :: a6 :: a7 :: some d :: e) mu) Q E) (Q d mu) := ⟨Eq.mpr E_v8⟩
instance I_v9 {a0 a1 a2 a3 a4 a5 a6 a7 a8} {e : DEnv} : Stp (wR (mVar 9 (a0 :: a1 :: a2 :: a3 :: a4 :: a5 :: a6 :: a7 :: a8 :: some d :: e) mu) Q E) (Q d mu) := ⟨Eq.mpr E_v9⟩
instance I_v10 {a0 a1 a2 a3 a4 a5 a6 a7 a8 a9} {e : DEnv} : Stp (wR (mVar 10 (a0 :: a1 :: a2 :: a3 :: a4 :: a5 :: a6 :: a7 :: a8 :: a9 :: some d :: e) mu) Q E) (Q d mu) := ⟨Eq.mpr E_v10⟩
instance I_v11 {a0 a1 a2 a3 a4 a5 a6 a7 a8 a9 a10} {e : DEnv} : Stp (wR (mVar 11 (a0 :: a1 :: a2 :: a3 :: a4 :: a5 :: a6 :: a7 :: a8 :: a9 :: a10 :: some d :: e) mu) Q E) (Q d mu) := ⟨Eq.mpr E_v11⟩
instance I_v12 {a0 a1 a2 a3 a4 a5 a6 a7 a8 a9 a10 a11} {e : DEnv} : Stp (wR (mVar 12 (a0 :: a1 :: a2 :: a3 :: a4 :: a5 :: a6 :: a7 :: a8 :: a9 :: a10 :: a11 :: some d :: e) mu) Q E) (Q d mu) := ⟨Eq.mpr E_v12⟩
instance I_C : Stp (wR (mC d env mu) Q E) (Q d mu) := ⟨Eq.mpr E_C⟩
instance I_op {g : Mu → D → D → ORes D} : Stp (wR (mOp g ma mb env mu) Q E) (wR (ma env mu) (fun x m1 => wR (mb env m1) (fun y m2 => wO (g m2 x y) Q) E) E) := ⟨Eq.mpr E_op⟩
instance I_un {g : Mu → D → ORes D} : Stp (wR (mUn g ma env mu) Q E) (wR (ma env mu) (fun x m1 => wO (g m1 x) Q) E) := ⟨Eq.mpr E_un⟩
instance I_isBl {Q : Bool → Mu → Prop} : Stp (isBl Q (.bl c) mu) (Q c mu) := ⟨Eq.mpr E_isBl⟩
instance I_test {Q : Bool → Mu → Prop} : Stp (wR (mTest ma env mu) Q E) (wR (ma env mu) (isBl Q) E) := ⟨Eq.mpr E_test⟩
instance I_tand {Q : Bool → Mu → Prop} : Stp (wR (mTAnd ta tb env mu) Q E) (wR (ta env mu) (fun c m1 => wB c (wR (tb env m1) Q E) (Q false m1)) E) := ⟨Eq.mpr E_tand⟩
instance I_tor {Q : Bool → Mu → Prop} : Stp (wR (mTOr ta tb env mu) Q E) (wR (ta env mu) (fun c m1 => wB c (Q true m1) (wR (tb env m1) Q E)) E) := ⟨Eq.mpr E_tor⟩
instance I_tnot {Q : Bool → Mu → Prop} : Stp (wR (mTNot ta env mu) Q E) (wR (ta env mu) (fun c m1 => Q (!c) m1) E) := ⟨Eq.mpr E_tnot⟩
instance I_and : Stp (wR (mAnd ma mb env mu) Q E) (wR (ma env mu) (isBl fun c m1 => wB c (wR (mb env m1) Q E) (Q (.bl false) m1)) E) := ⟨Eq.mpr E_and⟩
instance I_or : Stp (wR (mOr ma mb env mu) Q E) (wR (ma env mu) (isBl fun c m1 => wB c (Q (.bl true) m1) (wR (mb env m1) Q E)) E) := ⟨Eq.mpr E_or⟩
instance I_not : Stp (wR (mNot ma env mu) Q E) (wR (ma env mu) (isBl fun c m1 => Q (.bl (!c)) m1) E) := ⟨Eq.mpr E_not⟩
instance I_if : Stp (wR (mIf ta ma mb env mu) Q E) (wR (ta env mu) (fun c m1 => wB c (wR (ma env m1) Q E) (wR (mb env m1) Q E)) E) := ⟨Eq.mpr E_if⟩
instance I_nil {Q : List D → Mu → Prop} : Stp (wR (mNil env mu) Q E) (Q [] mu) := ⟨Eq.mpr E_nil⟩
instance I_cons {Q : List D → Mu → Prop} : Stp (wR (mCons ma am env mu) Q E) (wR (ma env mu) (fun x m1 => wR (am env m1) (fun ds m2 => Q (x :: ds) m2) E) E) := ⟨Eq.mpr E_cons⟩
instance I_tup : Stp (wR (mTup am env mu) Q E) (wR (am env mu) (fun ds m => lim ds.length = true ∧ Q (.tup ds) m) E) := ⟨Eq.mpr E_tup⟩
instance I_lst : Stp (wR (mLst false am env mu) Q E) (wR (am env mu) (fun ds m => lim ds.length = true ∧ Q (.lst ds) m) E) := ⟨Eq.mpr E_lst⟩
instance I_lstC : Stp (wR (mLst true am env mu) Q E) (wR (am env mu) (fun ds m => lim ds.length = true ∧ Q (.cell m.length) (m ++ [.lst ds])) E) := ⟨Eq.mpr E_lstC⟩
instance I_newD : Stp (wR (mNewD env mu) Q E) (Q (.cell mu.length) (mu ++ [.dk []])) := ⟨Eq.mpr E_newD⟩
instance I_call {g : Mu → List D → ORes D} : Stp (wR (mCall g am env mu) Q E) (wR (am env mu) (fun ds m => wO (g m ds) Q) E) := ⟨Eq.mpr E_call⟩
instance I_met {ty : Mu → D → Bool} {g : Mu → D → List D → ORes D} : Stp (wR (mMet ty g ma am env mu) Q E) (wR (ma env mu) (fun x m1 => ty m1 x = true ∧ wR (am env m1) (fun ds m2 => wO (g m2 x ds) Q) E) E) := ⟨Eq.mpr E_met⟩
instance I_metC {g : Mu → D → List D → ORes D} : Stp (wR (mMetC d g am env mu) Q E) (wR (am env mu) (fun ds m => wO (g m d ds) Q) E) := ⟨Eq.mpr E_metC⟩
instance I_callF {g : List D → Mu → Res D} : Stp (wR (mCallF n g am env mu) Q E) (wR (am env mu) (fun ds m => ds.length = n ∧ wR (g ds m) Q E) E) := ⟨Eq.mpr E_callF⟩
instance I_callF1 {g : List D → Mu → Res D} : Stp (wR (mCallF 1 g (mCons ma mNil) env mu) Q E) (wR (ma env mu) (fun x m => wR (g [x] m) Q E) E) := ⟨Eq.mpr E_callF1⟩
instance I_callF2 {g : List D → Mu → Res D} : Stp (wR (mCallF 2 g (mCons ma (mCons mb mNil)) env mu) Q E) (wR (ma env mu) (fun x m => wR (mb env m) (fun y m => wR (g [x, y] m) Q E) E) E) := ⟨Eq.mpr E_callF2⟩
instance I_callF3 {g : List D → Mu → Res D} : Stp (wR (mCallF 3 g (mCons ma (mCons mb (mCons mc mNil))) env mu) Q E) (wR (ma env mu) (fun x m => wR (mb env m) (fun y m => wR (mc env m) (fun z m => wR (g [x, y, z] m) Q E) E) E) E) := ⟨Eq.mpr E_callF3⟩
instance I_callF4 {g : List D → Mu → Res D} : Stp (wR (mCallF 4 g (mCons ma (mCons mb (mCons mc (mCons me mNil)))) env mu) Q E) (wR (ma env mu) (fun x m => wR (mb env m) (fun y m => wR (mc env m) (fun z m => wR (me env m) (fun u m => wR (g [x, y, z, u] m) Q E) E) E) E) E) := ⟨Eq.mpr E_callF4⟩
instance I_callF5 {g : List D → Mu → Res D} : Stp (wR (mCallF 5 g (mCons ma (mCons mb (mCons mc (mCons me (mCons mf mNil))))) env mu) Q E) (wR (ma env mu) (fun x m => wR (mb env m) (fun y m => wR (mc env m) (fun z m => wR (me env m) (fun u m => wR (mf env m) (fun v m => wR (g [x, y, z, u, v] m) Q E) E) E) E) E) E) := ⟨Eq.mpr E_callF5⟩
instance I_call1 {g : Mu → List D → ORes D} : Stp (wR (mCall g (mCons ma mNil) env mu) Q E) (wR (ma env mu) (fun x m => wO (g m [x]) Q) E) := ⟨Eq.mpr E_call1⟩
instance I_call2 {g : Mu → List D → ORes D} : Stp (wR (mCall g (mCons ma (mCons mb mNil)) env mu) Q E) (wR (ma env mu) (fun x m => wR (mb env m) (fun y m => wO (g m [x, y]) Q) E) E) := ⟨Eq.mpr E_call2⟩
instance I_met0 {ty : Mu → D → Bool} {g : Mu → D → List D → ORes D} : Stp (wR (mMet ty g ma mNil env mu) Q E) (wR (ma env mu) (fun x m1 => ty m1 x = true ∧ wO (g m1 x []) Q) E) := ⟨Eq.mpr E_met0⟩
instance I_met1 {ty : Mu → D → Bool} {g : Mu → D → List D → ORes D} : Stp (wR (mMet ty g ma (mCons mb mNil) env mu) Q E) (wR (ma env mu) (fun x m1 => ty m1 x = true ∧ wR (mb env m1) (fun y m2 => wO (g m2 x [y]) Q) E) E) := ⟨Eq.mpr E_met1⟩
instance I_metC1 {g : Mu → D → List D → ORes D} : Stp (wR (mMetC d g (mCons mb mNil) env mu) Q E) (wR (mb env mu) (fun y m2 => wO (g m2 d [y]) Q) E) := ⟨Eq.mpr E_metC1⟩
instance I_tup2 : Stp (wR (mTup (mCons ma (mCons mb mNil)) env mu) Q E) (wR (ma env mu) (fun x m => wR (mb env m) (fun y m => Q (.tup [x, y]) m) E) E) := ⟨Eq.mpr E_tup2⟩
instance I_tup0 : Stp (wR (mTup mNil env mu) Q E) (Q (.tup []) mu) := ⟨Eq.mpr E_tup0⟩
instance I_lst0 : Stp (wR (mLst false mNil env mu) Q E) (Q (.lst []) mu) := ⟨Eq.mpr E_lst0⟩
instance I_lstC0 : Stp (wR (mLst true mNil env mu) Q E) (Q (.cell mu.length) (mu ++ [.lst []])) := ⟨Eq.mpr E_lstC0⟩
instance I_oN {Q : Option Int → Mu → Prop} : Stp (wR (mON env mu) Q E) (Q none mu) := ⟨Eq.mpr E_oN⟩
instance I_isInt {Q : Int → Mu → Prop} {c : Int} : Stp (isInt Q (.int c) mu) (Q c mu) := ⟨Eq.mpr E_isInt⟩
instance I_oS {Q : Option Int → Mu → Prop} : Stp (wR (mOS ma env mu) Q E) (wR (ma env mu) (isInt fun i m => Q (some i) m) E) := ⟨Eq.mpr E_oS⟩
instance I_sl {b : Bool} {ml mh : DenO} : Stp (wR (mSl b ma ml mh env mu) Q E) (wR (ma env mu) (fun x m1 => wR (ml env m1) (fun lo m2 => wR (mh env m2) (fun hi m3 => wO (gSl b m3 x lo hi) Q) E) E) E) := ⟨Eq.mpr E_sl⟩
instance I_g0 {e : DEnv} {a0 : Option D} {Q : DEnv → Mu → Prop} : Stp (wR (mGName 0 d (a0 :: e) mu) Q E) (Q (some d :: e) mu) := ⟨Eq.mpr E_g0⟩
instance I_g1 {e : DEnv} {a0 a1 : Option D} {Q : DEnv → Mu → Prop} : Stp (wR (mGName 1 d (a0 :: a1 :: e) mu) Q E) (Q (a0 :: some d :: e) mu) := ⟨Eq.mpr E_g1⟩
instance I_g2 {e : DEnv} {a0 a1 a2 : Option D} {Q : DEnv → Mu → Prop} : Stp (wR (mGName 2 d (a0 :: a1 :: a2 :: e) mu) Q E) (Q (a0 :: a1 :: some d :: e) mu) := ⟨Eq.mpr E_g2⟩
instance I_g3 {e : DEnv} {a0 a1 a2 a3 : Option D} {Q : DEnv → Mu → Prop} : Stp (wR (mGName 3 d (a0 :: a1 :: a2 :: a3 :: e) mu) Q E) (Q (a0 :: a1 :: a2 :: some d :: e) mu) := ⟨Eq.mpr E_g3⟩
instance I_g4 {e : DEnv} {a0 a1 a2 a3 a4 : Option D} {Q : DEnv → Mu → Prop} : Stp (wR (mGName 4 d (a0 :: a1 :: a2 :: a3 :: a4 :: e) mu) Q E) (Q (a0 :: a1 :: a2 :: a3 :: some d :: e) mu) := ⟨Eq.mpr E_g4⟩
instance I_g5 {e : DEnv} {a0 a1 a2 a3 a4 a5 : Option D} {Q : DEnv → Mu → Prop} : Stp (wR (mGName 5 d (a0 :: a1 :: a2 :: a3 :: a4 :: a5 :: e) mu) Q E) (Q (a0 :: a1 :: a2 :: a3 :: a4 :: some d :: e) mu) := ⟨Eq.mpr E_g5⟩
instance I_g6 {e : DEnv} {a0 a1 a2 a3 a4 a5 a6 : Option D} {Q : DEnv → Mu → Prop} : Stp (wR (mGName 6 d (a0 :: a1 :: a2 :: a3 :: a4 :: a5 :: a6 :: e) mu) Q E) (Q (a0 :: a1 :: a2 :: a3 :: a4 :: a5 :: some d :: e) mu) := ⟨Eq.mpr E_g6⟩
instance I_g7 {e : DEnv} {a0 a1 a2 a3 a4 a5 a6 a7 : Option D} {Q : DEnv → Mu → Prop} : Stp (wR (mGName 7 d (a0 :: a1 :: a2 :: a3 :: a4 :: a5 :: a6 :: a7 :: e) mu) Q E) (Q (a0 :: a1 :: a2 :: a3 :: a4 :: a5 :: a6 :: some d :: e) mu) := ⟨Eq.mpr E_g7⟩
instance I_g8 {e : DEnv} {a0 a1 a2 a3 a4 a5 a6 a7 a8 : Option D} {Q : DEnv → Mu → Prop} : Stp (wR (mGName 8 d (a0 :: a1 :: a2 :: a3 :: a4 :: a5 :: a6 :: a7 :: a8 :: e) mu) Q E) (Q (a0 :: a1 :: a2 :: a3 :: a4 :: a5 :: a6 :: a7 :: some d :: e) mu) := ⟨Eq.mpr E_g8⟩
instance I_g9 {e : DEnv} {a0 a1 a2 a3 a4 a5 a6 a7 a8 a9 : Option D} {Q : DEnv → Mu → Prop} : Stp (wR (mGName 9 d (a0 :: a1 :: a2 :: a3 :: a4 :: a5 :: a6 :: a7 :: a8 :: a9 :: e) mu) Q E) (Q (a0 :: a1 :: a2 :: a3 :: a4 :: a5 :: a6 :: a7 :: a8 :: some d :: e) mu) := ⟨Eq.mpr E_g9⟩
instance I_gtup {Q : DEnv → Mu → Prop} {ms : DenGs} : Stp (wR (mGTup n ms (.tup ds) env mu) Q E) ((ds.length = n ∧ wR (ms ds env mu) Q E)) := ⟨Eq.mpr E_gtup⟩
instance I_gcons {Q : DEnv → Mu → Prop} {mg : DenG} {ms : DenGs} : Stp (wR (mGCons mg ms (d :: ds) env mu) Q E) (wR (mg d env mu) (fun e m => wR (ms ds e m) Q E) E) := ⟨Eq.mpr E_gcons⟩
instance I_gnil {Q : DEnv → Mu → Prop} : Stp (wR (mGNil [] env mu) Q E) (Q env mu) := ⟨Eq.mpr E_gnil⟩
instance I_yes {Q : Bool → Mu → Prop} : Stp (wR (mYes env mu) Q E) (Q true mu) := ⟨Eq.mpr E_yes⟩
instance I_isItems {Q : List D → Mu → Prop} : Stp (isItems Q (.lst ds) mu) (Q ds mu) := ⟨Eq.mpr E_isItems⟩
instance I_isItemsT {Q : List D → Mu → Prop} : Stp (isItems Q (.tup ds) mu) (Q ds mu) := ⟨Eq.mpr E_isItemsT⟩
instance I_seqI {Q : List D → Mu → Prop} : Stp (wR (mSeqI ma env mu) Q E) (wR (ma env mu) (isItems Q) E) := ⟨Eq.mpr E_seqI⟩
end
section
variable {N B C : DEnv → Mu → Prop} {R : D → Mu → Prop} {E : XD → Mu → Prop} {env e' : DEnv} {mu m1 : Mu} {d x y : D} {ds : List D} {i j k n : Nat}
variable {ma mb mc : DenE} {ta : DenT} {am : DenA} {mg : DenG} {mi : DenI} {sa sb : DenS}
instance I_nx : Stp (wS (.nx env mu) N R B C E) (N env mu) := ⟨Eq.mpr E_nx⟩
instance I_rt : Stp (wS (.rt d mu) N R B C E) (R d mu) := ⟨Eq.mpr E_rt⟩
instance I_seq : Stp (wS (mSeq sa sb env mu) N R B C E) (wS (sa env mu) (fun e m => wS (sb e m) N R B C E) R B C E) := ⟨Eq.mpr E_seq⟩
instance I_skip : Stp (wS (mSkip env mu) N R B C E) (N env mu) := ⟨Eq.mpr E_skip⟩
instance I_retN : Stp (wS (mRetN env mu) N R B C E) (R .non mu) := ⟨Eq.mpr E_retN⟩
instance I_ret : Stp (wS (mRet ma env mu) N R B C E) (wR (ma env mu) R E) := ⟨Eq.mpr E_ret⟩
instance I_expr : Stp (wS (mExpr ma env mu) N R B C E) (wR (ma env mu) (fun _ m => N env m) E) := ⟨Eq.mpr E_expr⟩
instance I_asg : Stp (wS (mAsg ma mg env mu) N R B C E) (wR (ma env mu) (fun d m => wR (mg d env m) N E) E) := ⟨Eq.mpr E_asg⟩
instance I_ifS : Stp (wS (mIfS ta sa sb env mu) N R B C E) (wR (ta env mu) (fun c m => wB c (wS (sa env m) N R B C E) (wS (sb env m) N R B C E)) E) := ⟨Eq.mpr E_ifS⟩
instance I_for : Stp (wS (mFor mi mg sb env mu) N R B C E) (wR (mi env mu) (fun ds m => wS (forL mg sb ds env m) N R B C E) E) := ⟨Eq.mpr E_for⟩
instance I_raise {v : Value} : Stp (wS (mRaise v env mu) N R B C E) (E ⟨v, none⟩ mu) := ⟨Eq.mpr E_raise⟩
instance I_brk : Stp (wS (mBrk env mu) N R B C E) (B env mu) := ⟨Eq.mpr E_brk⟩
instance I_cont : Stp (wS (mCont env mu) N R B C E) (C env mu) := ⟨Eq.mpr E_cont⟩
end
section
variable {Q : D → Mu → Prop} {mu : Mu} {i j : Int} {b : Bool}
instance I_some {α : Type} {Q : α → Mu → Prop} {a : α} {m : Mu} : Stp (wO (some (a, m)) Q) (Q a m) := ⟨Eq.mpr E_some⟩
instance I_addI : Stp (wO (gAdd b mu (.int i) (.int j)) Q) (Q (.int (i + j)) mu) := ⟨Eq.mpr E_addI⟩
instance I_subI : Stp (wO (gSub mu (.int i) (.int j)) Q) (Q (.int (i - j)) mu) := ⟨Eq.mpr E_subI⟩
instance I_eqI : Stp (wO (gEq false mu (.int i) (.int j)) Q) (Q (.bl (decide (i = j))) mu) := ⟨Eq.mpr E_eqI⟩
instance I_neI : Stp (wO (gEq true mu (.int i) (.int j)) Q) (Q (.bl (!decide (i = j))) mu) := ⟨Eq.mpr E_neI⟩
instance I_ltI : Stp (wO (gLt mu (.int i) (.int j)) Q) (Q (.bl (decide (i < j))) mu) := ⟨Eq.mpr E_ltI⟩
instance I_leI : Stp (wO (gLe mu (.int i) (.int j)) Q) (Q (.bl (decide (i ≤ j))) mu) := ⟨Eq.mpr E_leI⟩
instance I_gtI : Stp (wO (gGt mu (.int i) (.int j)) Q) (Q (.bl (decide (j < i))) mu) := ⟨Eq.mpr E_gtI⟩
instance I_geI : Stp (wO (gGe mu (.int i) (.int j)) Q) (Q (.bl (decide (j ≤ i))) mu) := ⟨Eq.mpr E_geI⟩
instance I_intI : Stp (wO (gInt mu [.int i]) Q) (Q (.int i) mu) := ⟨Eq.mpr E_intI⟩
instance I_max2 : Stp (wO (gMax mu [.int i, .int j]) Q) (Q (.int (max i j)) mu) := ⟨Eq.mpr E_max2⟩
instance I_min2 : Stp (wO (gMin mu [.int i, .int j]) Q) (Q (.int (min i j)) mu) := ⟨Eq.mpr E_min2⟩
instance I_negI : Stp (wO (gNeg mu (.int i)) Q) (Q (.int (-i)) mu) := ⟨Eq.mpr E_negI⟩
instance I_isn {x : D} : Stp (wO (gIsN false mu x .non) Q) (Q (.bl (isN x)) mu) := ⟨Eq.mpr E_isn⟩
instance I_isnn {x : D} : Stp (wO (gIsN true mu x .non) Q) (Q (.bl (!isN x)) mu) := ⟨Eq.mpr E_isnn⟩
instance I_neS {x y : Str} : Stp (wO (gEqS true mu (.str x) (.str y)) Q) (Q (.bl (!decide (x = y))) mu) := ⟨Eq.mpr E_neS⟩
instance I_eqS {x y : Str} : Stp (wO (gEqS false mu (.str x) (.str y)) Q) (Q (.bl (decide (x = y))) mu) := ⟨Eq.mpr E_eqS⟩
instance I_lenT {l : List D} : Stp (wO (gLen mu [.tup l]) Q) (Q (.int l.length) mu) := ⟨Eq.mpr E_lenT⟩
instance I_lenL {l : List D} : Stp (wO (gLen mu [.lst l]) Q) (Q (.int l.length) mu) := ⟨Eq.mpr E_lenL⟩
instance I_tupL {l : List D} : Stp (wO (gTuple mu [.lst l]) Q) (Q (.tup l) mu) := ⟨Eq.mpr E_tupL⟩
instance I_tupT {l : List D} : Stp (wO (gTuple mu [.tup l]) Q) (Q (.tup l) mu) := ⟨Eq.mpr E_tupT⟩
instance I_ix0T {d : D} {l : List D} : Stp (wO (gIx mu (.tup (d :: l)) (.int 0)) Q) (Q d mu) := ⟨Eq.mpr E_ix0T⟩
instance I_ix1T {d e : D} {l : List D} : Stp (wO (gIx mu (.tup (e :: d :: l)) (.int 1)) Q) (Q d mu) := ⟨Eq.mpr E_ix1T⟩
instance I_ix0L {d : D} {l : List D} : Stp (wO (gIx mu (.lst (d :: l)) (.int 0)) Q) (Q d mu) := ⟨Eq.mpr E_ix0L⟩
instance I_ix1L {d e : D} {l : List D} : Stp (wO (gIx mu (.lst (e :: d :: l)) (.int 1)) Q) (Q d mu) := ⟨Eq.mpr E_ix1L⟩
end
section
variable {Q : D → Mu → Prop} {P : Bool → Mu → Prop} {E : XD → Mu → Prop} {env : DEnv} {mu : Mu} {c : Bool} {mb : DenE} {tb : DenT}
/-! both sides looked at, nothing changed: no ways -/
instance I_intB : Stp (wO (gInt mu [.bl c]) Q) (Q (.int (if c then 1 else 0)) mu) := ⟨Eq.mpr E_intB⟩
end
instance I_true {P : Prop} : Stp (True ∧ P) P := ⟨fun h => ⟨trivial, h⟩⟩
instance I_same {α : Type} {a : α} {P : Prop} : Stp (a = a ∧ P) P := ⟨fun h => ⟨rfl, h⟩⟩
instance I_isN_int {x : Int} {P R : Prop} : Stp (wB (isN (.int x)) P R) R := ⟨id⟩
instance I_isN_str {x : Str} {P R : Prop} : Stp (wB (isN (.str x)) P R) R := ⟨id⟩
instance I_isN_tup {x : List D} {P R : Prop} : Stp (wB (isN (.tup x)) P R) R := ⟨id⟩
instance I_isN_lst {x : List D} {P R : Prop} : Stp (wB (isN (.lst x)) P R) R := ⟨id⟩
instance I_isN_cell {x : Nat} {P R : Prop} : Stp (wB (isN (.cell x)) P R) R := ⟨id⟩
instance I_isN_exn {x : Value} {P R : Prop} : Stp (wB (isN (.exn x)) P R) R := ⟨id⟩
instance I_isN_exf {x : Value} {y : List Str} {z : List D} {P R : Prop} : Stp (wB (isN (.exf x y z)) P R) R := ⟨id⟩
instance I_isN_bl {x : Bool} {P R : Prop} : Stp (wB (isN (.bl x)) P R) R := ⟨id⟩
instance I_dec_same {α : Type} {a : α} {i : Decidable (a = a)} {P R : Prop} : Stp (wB (@decide (a = a) i) P R) P := ⟨fun h => by rw [decide_eq_true (Eq.refl a)]; exact h⟩
instance I_isN_non {P R : Prop} : Stp (wB (isN .non) P R) P := ⟨id⟩
end DL

/-! DL22: a list of anything compared with an empty list. -/
namespace DL
open PySem PySem.Spec PyProof.Rows L2
section
variable {X : Cx}
def rEqE (K : PySem.W.Frag) : R2 := fun x y H Q => (∃ a b xs, x = V.ref a ∧ y = V.ref b ∧ H a = some (.lst xs) ∧ H b = some (.lst []) ∧ xs ≠ [] ∧ Q (.bl false) H) ∨ rEqD K x y H Q
theorem op_eqE (hu : X.A.units + 64 < cLine) : OpR X (compareOp .Eq) (rEqE X.K) := by
  intro pins s σ H x y v u Q I rx ry h
  rcases h with ⟨a, b, xs, rfl, rfl, ha, hb, hne, q⟩ | h
  · cases rx
    cases ry
    obtain ⟨is, rv, p1, _⟩ := I.list (SqL.of ha)
    obtain ⟨js, rw_, p2, _⟩ := I.list (SqL.of hb)
    refine SeqAt.eq_list_lengthsAt (items := is.toArray) (items2 := js.toArray) ?_ ?_ ?_ (by omega) ⟨.bl _, H, I, rfl, q⟩
    · obtain ⟨o, n, ho, hc, _, hd⟩ := p1; exact ⟨o, ho, hc, n, hd⟩
    · obtain ⟨o, n, ho, hc, _, hd⟩ := p2; exact ⟨o, ho, hc, n, hd⟩
    · cases rw_
      cases rv with
      | nil => exact absurd rfl hne
      | cons _ _ => rfl
  · exact op_eqD hu pins s σ H x y v u Q I rx ry h
def gEqE (mu : Mu) (x y : D) : ORes D := match view mu x, view mu y with
  | .lst (_ :: _), .lst [] => some (.bl false, mu)
  | _, _ => gEq false mu x y
variable {K : PySem.W.Frag} {F H : Hp} {io : List Addr} {mu : Mu}
theorem og_eqE : OpD K (rEqE K) gEqE := fun F io H mu x y dx dy Q M rx ry h => by
  unfold gEqE at h
  split at h
  · rename_i d l e1 e2
    obtain ⟨a, xs, rfl, h1, r1⟩ := M.lst rx e1
    obtain ⟨b, ys, rfl, h2, r2⟩ := M.lst ry e2
    cases r2
    refine .inl ⟨a, b, xs, rfl, rfl, h1, h2, ?_, satO_some h M .bl⟩
    cases r1
    exact fun z => by cases z
  · exact .inr (og_eq F io H mu x y dx dy Q M rx ry h)
theorem gEqE_L {l : List D} : gEqE mu (.lst l) (.lst []) = some (.bl l.isEmpty, mu) := by
  unfold gEqE
  cases l with
  | nil => exact gEqL0 (by decide)
  | cons d l => rfl
end
theorem p0 {a : D} : permL [0] [a] = [a] := rfl
section
variable {mu : Mu} {Q : D → Mu → Prop} {E : XD → Mu → Prop}
theorem w_lcId {env0 : DEnv} {mg : DenG} {mt : DenT} {ma : DenE} {b : Bool} (f : D → D) (xs : List D) (h : ∀ x ∈ xs, wR (mg x env0 mu) (fun e m1 => wR (mt e m1) (fun c m2 => c = true ∧ m2 = mu ∧ wR (ma e mu) (fun y m3 => y = f x ∧ m3 = mu) no2) no2) no2) (hl : xs.length ≤ 1000000) (q : mkQ b Q (xs.map f) mu) : wR (lcL mg mt ma env0 xs [] mu) (mkQ b Q) E := by
  have := w_lcMap (E := E) (b := b) (Q := Q) (enc := fun d : D => d) f xs h hl q
  rw [List.map_id'] at this
  exact this
theorem w_lcFilD {env0 : DEnv} {mg : DenG} {mt : DenT} {ma : DenE} {b : Bool} (p : D → Bool) (f : D → D) (xs : List D) (h : ∀ x ∈ xs, wR (mg x env0 mu) (fun e m1 => wR (mt e m1) (fun c m2 => c = p x ∧ m2 = mu ∧ (p x = true → wR (ma e mu) (fun y m3 => y = f x ∧ m3 = mu) no2)) no2) no2) (hl : xs.length ≤ 1000000) (q : mkQ b Q ((xs.filter p).map f) mu) : wR (lcL mg mt ma env0 xs [] mu) (mkQ b Q) E := by
  have := w_lcFil (E := E) (b := b) (Q := Q) (enc := fun d : D => d) p f xs h hl q
  rw [List.map_id'] at this
  exact this
theorem w_eqO {r : Res D} {x : D} (h : wR r (fun d m => d = x ∧ m = mu) no2) : r = .ok x mu := by
  obtain ⟨a, m, rfl, rfl, rfl⟩ := w_out h
  rfl
end
end DL

/-! DL23: for over any list or tuple, also over a list cell that the body leaves as it is. -/
namespace DL
open PySem PySem.Spec PyProof.Rows L2
abbrev Its := Option Nat × List D
/-- the cell still holds these items -/
def heldI (p : Its) (mu : Mu) : Prop := ∀ n, p.1 = some n → mu[n]? = some (.lst p.2)
def ItRepA (K : PySem.W.Frag) (F : Hp) (io : List Addr) (J : It) (p : Its) : Prop := ∀ F' jo H' mu', Le F F' → Pre io jo → Mem K F' jo H' mu' → heldI p mu' →
  (∀ (i : Nat) d, p.2[i]? = some d → J.go i H' ∧ ∀ x H2, J.yld i H' x H2 → ∃ F2, Step F' jo H' F2 jo H2 ∧ Mem K F2 jo H2 mu' ∧ Rep K F2 jo x d) ∧ ∀ i, p.2.length ≤ i → J.stop i H'
theorem ItRepA.mono {K : PySem.W.Frag} {F F' : Hp} {io jo : List Addr} {J : It} {p : Its} (h : ItRepA K F io J p) (l : Le F F') (q : Pre io jo) : ItRepA K F' jo J p := fun F2 j2 H2 m2 l2 p2 M2 => h F2 j2 H2 m2 (l.trans l2) (q.trans p2) M2
theorem ItRepA.of {K : PySem.W.Frag} {F : Hp} {io : List Addr} {J : It} {ds : List D} (h : ItRep K F io J ds) : ItRepA K F io J (none, ds) := fun F2 j2 H2 m2 l2 p2 M2 _ => h F2 j2 H2 m2 l2 p2 M2
abbrev DenIA := DEnv → Mu → Res Its
def tIA (K : PySem.W.Frag) (W : WX) (m : DenIA) : TI := fun σ H R => ∃ F io env mu, Mem K F io H mu ∧ EnvR K F io σ env ∧ Sat K (ItRepA K) F io H (fun c dd H => W c dd σ H) (m env mu) R
def mItems (me : DenE) : DenIA := fun env mu => (me env mu).bind fun d m => match d with
  | .lst l => .ok (none, l) m
  | .tup l => .ok (none, l) m
  | .rl l => .ok (none, l) m
  | .cell n => match m[n]? with
    | some (.lst l) => .ok (some n, l) m
    | _ => .stuck
  | _ => .stuck
theorem itc_rep {K : PySem.W.Frag} {F : Hp} {io : List Addr} {n : Nat} {a : Addr} {ds : List D} (hn : io[n]? = some a) : ItRepA K F io (Itl K a) (some n, ds) := fun F' jo H' mu' l p M hh => by
  have hj : jo[n]? = some a := p n a hn
  obtain ⟨a', xs, e, _, ha, r'⟩ := M.lstW (ds := ds) (.cell hj) (hh n rfl)
  cases e
  have hs : SqL K H' a xs := SqL.of ha
  refine ⟨fun i d e => ?_, fun i hi => ⟨xs, hs, by rw [r'.length]; exact hi⟩⟩
  obtain ⟨v, ev, rv⟩ := r'.get e
  refine ⟨⟨xs, v, hs, ev⟩, fun x H2 y => ?_⟩
  obtain ⟨rfl, y2⟩ := y
  have := y2 xs hs
  rw [ev] at this; cases this
  exact ⟨F', Step.rfl, M, rv⟩
theorem di_items {X : Cx} {W : WX} {tg e : Expr} {me : DenE} (he : DE X W e me) : PI X tg e (tIA X.K W (mItems me)) :=
  (PI_or (pi_list he) (pi_tup he)).imp fun σ H R ⟨F, io, env, mu, M, RR, h⟩ => by
    have h : Sat X.K (ItRepA X.K) F io H (fun c dd H => W c dd σ H) ((me env mu).bind fun d m => match d with
      | .lst l => .ok (none, l) m
      | .tup l => .ok (none, l) m
      | .rl l => .ok (none, l) m
      | .cell n => match m[n]? with
        | some (.lst l) => .ok (some n, l) m
        | _ => .stuck
      | _ => .stuck) R := h
    cases q : me env mu with
    | stuck => rw [q] at h; exact h.elim
    | exc x m =>
      rw [q] at h
      refine .inl ⟨F, io, env, mu, M, RR, ?_⟩
      rw [q]; exact h
    | ok d m =>
      rw [q] at h
      cases d with
      | lst l =>
        refine .inl ⟨F, io, env, mu, M, RR, ?_⟩
        rw [q]
        intro F1 j1 H1 v s1 M1 r1
        cases r1 with
        | lst hf r => exact ⟨_, rfl, ⟨_, M1.le.sql (SqL.of hf)⟩, h F1 j1 H1 _ s1 M1 (.of (itl_rep (SqL.of hf) r))⟩
      | rl l =>
        refine .inl ⟨F, io, env, mu, M, RR, ?_⟩
        rw [q]
        intro F1 j1 H1 v s1 M1 r1
        cases r1 with
        | rl hf r => exact ⟨_, rfl, ⟨_, M1.le.sql hf⟩, h F1 j1 H1 _ s1 M1 (.of (itl_rep hf r))⟩
      | tup l =>
        refine .inr ⟨F, io, env, mu, M, RR, ?_⟩
        rw [q]
        intro F1 j1 H1 v s1 M1 r1
        cases r1 with
        | tup hf r => exact ⟨_, rfl, ⟨_, M1.le.sqt hf⟩, h F1 j1 H1 _ s1 M1 (.of (itt_rep hf r))⟩
      | cell n =>
        refine .inl ⟨F, io, env, mu, M, RR, ?_⟩
        rw [q]
        intro F1 j1 H1 v s1 M1 r1
        cases e : m[n]? with
        | none => simp only [Res.bind, e] at h; exact h.elim
        | some c =>
          cases c with
          | lst l =>
            simp only [Res.bind, e] at h
            obtain ⟨a, xs, rfl, hio, ha, r⟩ := M1.lstW r1 e
            exact ⟨_, rfl, ⟨_, SqL.of ha⟩, h F1 j1 H1 _ s1 M1 (itc_rep hio)⟩
          | _ => simp only [Res.bind, e] at h; exact h.elim
      | _ => exact h.elim
open Classical in
noncomputable def forA (p : Its) (mg : DenG) (mb : DenS) : List D → DEnv → Mu → SR
  | [], env, mu => if heldI p mu then .nx env mu else .stuck
  | d :: ds, env, mu => if heldI p mu then ((mg d env mu).andS env fun e m => match mb e m with
      | .nx e' m' => forA p mg mb ds e' m'
      | .ct e' m' => forA p mg mb ds e' m'
      | .bk e' m' => .nx e' m'
      | r => r) else .stuck
noncomputable def mForA (me : DenE) (mg : DenG) (mb : DenS) : DenS := fun env mu => (mItems me env mu).andS env fun p m => forA p mg mb p.2 env m
section
variable {X : Cx} {W : WX} {tg iter : Expr} {body : List Stmt} {me : DenE} {mg : DenG} {mb : DenS} {ts : List Nat} {pos : Pos}
theorem ds_forA (hx : GOk mg) (hp : PassesOwn (model X.prog X.w) X.A X.env X.xe) (hc : X.calm = true) (he : DE X W iter me) (hg : DG X tg ts mg) (hb : DSs X W body mb)
    (hs : ∀ x, foldedSetIterable iter X.env x = pure x := by intro _; rfl) : DS X W (.For tg iter body [] pos) (mForA me mg mb) := (ps_for hp hc (di_items he) hg hb hs).imp fun D σ H ⟨F, io, env, mu, M, R, h⟩ => by
  refine ⟨F, io, env, mu, M, R, (SatS.andS R h).imp fun J H1 ⟨F1, j1, m1, p, s1, M1, r1, q⟩ => ?_⟩
  refine ⟨fun i m σ H => i + m = p.2.length ∧ ∃ F io env mu, Mem X.K F io H mu ∧ EnvR X.K F io σ env ∧ ItRepA X.K F io J p ∧ SatS X.K F io H W (forA p mg mb (p.2.drop i) env mu) D,
    ⟨p.2.length, Nat.zero_add _, F1, j1, env, m1, M1, R.step s1, r1, by rw [List.drop_zero]; exact q⟩, fun i m σ H ⟨hm, F, io, env, mu, M, R, J0, h⟩ => ?_⟩
  by_cases hh : heldI p mu
  case neg =>
    cases hd : p.2.drop i with
    | nil => rw [hd] at h; unfold forA at h; rw [if_neg hh] at h; exact h.elim
    | cons d ds => rw [hd] at h; unfold forA at h; rw [if_neg hh] at h; exact h.elim
  obtain ⟨J1, J2⟩ := J0 F io H mu Le.rfl Pre.rfl M hh
  cases m with
  | zero =>
    rw [List.drop_eq_nil_of_le (by omega)] at h
    unfold forA at h
    rw [if_pos hh] at h
    exact .inl ⟨J2 i (by omega), h F io H σ Step.rfl M R⟩
  | succ m =>
    have hi : i < p.2.length := by omega
    obtain ⟨y, K1⟩ := J1 i p.2[i] (List.getElem?_eq_getElem hi)
    rw [List.drop_eq_getElem_cons hi] at h
    unfold forA at h
    rw [if_pos hh] at h
    refine .inr ⟨y, fun σ H => (i + 1) + m = p.2.length ∧ ∃ F io env mu, Mem X.K F io H mu ∧ EnvR X.K F io σ env ∧ ItRepA X.K F io J p ∧ SatS X.K F io H W (forA p mg mb (p.2.drop (i + 1)) env mu) D, fun σ' H' w => ⟨m, Nat.lt_succ_self m, w⟩, fun x H2 yl => ?_⟩
    obtain ⟨F2, s2, M2, r2⟩ := K1 x H2 yl
    have h2 := SatS.step h s2
    refine ⟨F2, io, env, mu, p.2[i], M2, R.step s2, r2, ?_⟩
    have h3 : SatS X.K F2 io H2 W ((mg p.2[i] env mu).andS env fun e m => match mb e m with
      | .nx e' m' => forA p mg mb (p.2.drop (i + 1)) e' m'
      | .ct e' m' => forA p mg mb (p.2.drop (i + 1)) e' m'
      | .bk e' m' => .nx e' m'
      | r => r) D := h2
    cases hq : mg p.2[i] env mu with
    | exc x m2 => exact absurd hq (hx _ _ _ _ _)
    | stuck => rw [hq] at h3; exact h3.elim
    | ok e3 m3 =>
      rw [hq] at h3
      refine fun F3 j3 H3 σ3 s3 M3 ⟨R3, _⟩ => ⟨F3, j3, e3, m3, M3, R3, ?_⟩
      have h4 : SatS X.K F3 j3 H3 W (match mb e3 m3 with
        | .nx e' m' => forA p mg mb (p.2.drop (i + 1)) e' m'
        | .ct e' m' => forA p mg mb (p.2.drop (i + 1)) e' m'
        | .bk e' m' => .nx e' m'
        | r => r) D := SatS.step h3 s3
      have J3 : ItRepA X.K F3 j3 J p := J0.mono (s2.trans s3).le (s2.trans s3).pre
      cases e : mb e3 m3 with
      | nx e4 m4 => rw [e] at h4; exact fun F4 j4 H4 σ4 s4 M4 R4 => ⟨by omega, F4, j4, e4, m4, M4, R4, J3.mono s4.le s4.pre, SatS.step h4 s4⟩
      | ct e4 m4 => rw [e] at h4; exact fun F4 j4 H4 σ4 s4 M4 R4 => ⟨by omega, F4, j4, e4, m4, M4, R4, J3.mono s4.le s4.pre, SatS.step h4 s4⟩
      | bk e4 m4 => rw [e] at h4; exact h4
      | rt d m4 => rw [e] at h4; exact h4
      | exc x e4 m4 => rw [e] at h4; exact h4
      | stuck => rw [e] at h4; exact h4
end
section
variable {N B C : DEnv → Mu → Prop} {R : D → Mu → Prop} {E : XD → Mu → Prop} {env : DEnv} {mu : Mu} {me : DenE} {mg : DenG} {sb : DenS} {l : List D} {n : Nat} {p : Its}
def isIts (Q : Its → Mu → Prop) (d : D) (m : Mu) : Prop := ∃ p : Its, (match d with
  | .lst l => p = (none, l)
  | .tup l => p = (none, l)
  | .rl l => p = (none, l)
  | .cell n => m[n]? = some (.lst p.2) ∧ p.1 = some n
  | _ => False) ∧ Q p m
theorem w_items {Q : Its → Mu → Prop} (h : wR (me env mu) (isIts Q) E) : wR (mItems me env mu) Q E :=
  w_bind (w_mono h fun d m ⟨p, h1, h2⟩ => by
    cases d with
    | lst l => cases h1; exact h2
    | tup l => cases h1; exact h2
    | rl l => cases h1; exact h2
    | cell n =>
      obtain ⟨a, b⟩ := h1
      obtain ⟨p1, p2⟩ := p
      cases b
      simp only at a
      simp only [a]
      exact h2
    | _ => exact h1.elim)
theorem s_forA (h : wR (me env mu) (isIts fun p m => wS (forA p mg sb p.2 env m) N R B C E) E) : wS (mForA me mg sb env mu) N R B C E := w_andS (w_items h)
theorem forA_none {l0 : List D} : ∀ {ds : List D} {env : DEnv} {mu : Mu}, forA (none, l0) mg sb ds env mu = forL mg sb ds env mu
  | [], env, mu => by
    have h : heldI (none, l0) mu := fun n e => by cases e
    unfold forA forL
    rw [if_pos h]
  | d :: ds, env, mu => by
    have h : heldI (none, l0) mu := fun n e => by cases e
    unfold forA forL
    rw [if_pos h]
    congr 1
    funext e m
    cases sb e m with
    | nx e2 m2 => exact forA_none
    | ct e2 m2 => exact forA_none
    | _ => rfl
instance I_forA : Stp (wS (mForA me mg sb env mu) N R B C E) (wR (me env mu) (isIts fun p m => wS (forA p mg sb p.2 env m) N R B C E) E) := ⟨s_forA⟩
instance I_its_l {Q : Its → Mu → Prop} : Stp (isIts Q (.lst l) mu) (Q (none, l) mu) := ⟨fun h => ⟨_, rfl, h⟩⟩
instance I_its_t {Q : Its → Mu → Prop} : Stp (isIts Q (.tup l) mu) (Q (none, l) mu) := ⟨fun h => ⟨_, rfl, h⟩⟩
instance I_forA_n {l0 ds : List D} : Stp (wS (forA (none, l0) mg sb ds env mu) N R B C E) (wS (forL mg sb ds env mu) N R B C E) := ⟨fun h => by rw [forA_none]; exact h⟩
theorem its_c {Q : Its → Mu → Prop} (h : mu[n]? = some (.lst l)) (q : Q (some n, l) mu) : isIts Q (.cell n) mu := ⟨(some n, l), ⟨h, rfl⟩, q⟩
theorem s_forAL (I : List D → DEnv → Mu → Prop) (hH : ∀ ds env mu, I ds env mu → heldI p mu) (hI : ∀ d rest env mu, I (d :: rest) env mu → wR (mg d env mu) (fun e m => wS (sb e m) (I rest) R N (I rest) E) E) (hN : ∀ env mu, I [] env mu → N env mu) : ∀ (ds : List D) (env : DEnv) (mu : Mu), I ds env mu → wS (forA p mg sb ds env mu) N R B C E
  | [], env, mu, h => by
    unfold forA
    rw [if_pos (hH _ _ _ h)]
    exact hN env mu h
  | d :: ds, env, mu, h => by
    unfold forA
    rw [if_pos (hH _ _ _ h)]
    exact w_andS (w_mono (hI d ds env mu h) fun e m h => by
      cases q : sb e m with
      | nx e2 m2 => rw [q] at h; exact s_forAL I hH hI hN ds e2 m2 h
      | ct e2 m2 => rw [q] at h; exact s_forAL I hH hI hN ds e2 m2 h
      | bk e2 m2 => rw [q] at h; exact h
      | rt d2 m2 => rw [q] at h; exact h
      | exc x2 e2 m2 => rw [q] at h; exact h
      | stuck => rw [q] at h; exact h)
end
section
variable {X : Cx} {W : WX} {a b c : Expr} {pos : Pos} {ta tb tc : DenT}
def mTIf (tc ta tb : DenT) : DenT := fun env mu => (tc env mu).bind fun c m1 => if c then ta env m1 else tb env m1
theorem isTrue_ifx {env : Env} {wh : Sem Value} : isTrue (.IfExp c a b pos) env wh = (do if ← isTrue c env (eval c env) then isTrue a env (eval a env) else isTrue b env (eval b env)) := arm_isTrue_IfExp _ _ _ _ _ _
/-- a if c else b as a test -/
theorem dt_ifx (hc : DT X W c tc) (ha : DT X W a ta) (hb : DT X W b tb) : DT X W (.IfExp c a b pos) (mTIf tc ta tb) := by
  refine ⟨fun pins s σ H Q I ⟨F, io, env, mu, M, R, h⟩ => ?_⟩
  rw [isTrue_ifx]
  refine wpAny_bind (thn (hc.run pins s σ H _ I ⟨F, io, env, mu, M, R, Sat.bind h⟩) fun d s1 ⟨H1, I1, F1, j1, m1, d', st, M1, r1, q1⟩ => ?_)
  cases r1
  cases d with
  | true => exact ha.run pins s1 σ H1 Q I1 ⟨F1, j1, env, m1, M1, R.step st, q1⟩
  | false => exact hb.run pins s1 σ H1 Q I1 ⟨F1, j1, env, m1, M1, R.step st, q1⟩
end
section
variable {Q : Bool → Mu → Prop} {E : XD → Mu → Prop} {env : DEnv} {mu : Mu} {ta tb tc : DenT}
theorem w_tif (h : wR (tc env mu) (fun c m1 => wB c (wR (ta env m1) Q E) (wR (tb env m1) Q E)) E) : wR (mTIf tc ta tb env mu) Q E :=
  w_bind (w_mono h fun c m h => by cases c <;> exact h)
instance I_tif : Stp (wR (mTIf tc ta tb env mu) Q E) (wR (tc env mu) (fun c m1 => wB c (wR (ta env m1) Q E) (wR (tb env m1) Q E)) E) := ⟨w_tif⟩
end
end DL

/-! DL24: errors as values: C('text'), C(i) and C(f=i) with an own __init__ that keeps a field, the field read, isinstance of such. -/
namespace PySem.HandSPX
open PySem.W PySem.Calls PyProof.Rows PyProof.V

/-! ### an own error class called with keywords -/
section
variable {M : Model} {A : Around} {E : Value → Shared → Prop} {h : Heap} {g : Array GenState} {d : Drawn} {t : Nat} {os : OsState}
variable {nm q : Str} {C N : Addr} {bs bm bmB : List Value} {hdct : Bool} {sn : List Str} {sub : List Value} {ab : Bool} {col : Option Bool} {dd : Option Addr} {k0 k1 k2 k3 k5 : Option Value} {B newId initId : String}
theorem check_new_ownK (F : ExcBaseFacts B newId initId bmB) (hT : ∀ X : String, bm.contains (.type X) = bmB.contains (.type X)) {rest : List Value} {kw : List (Str × Value)} {Q : Unit → Shared → Prop}
    (hC : h.get? C = some (excClassObj nm q C N bs bm hdct sn sub ab col dd k0 k1 k2 k3 k5 newId)) (hq : Q () ⟨h, g, d, t, os⟩) : wpAny M A (checkBuiltinCall newId ⟨.ref C :: rest, kw⟩) Q E ⟨h, g, d, t, os⟩ := by
  have hcont : (Value.ref C :: bm).contains (.type B) = true := by rw [List.contains_cons, hT, F.hasB, Bool.or_true]
  have hstar := F.noStar
  simp only [checkBuiltinCall, F.newKind, F.newSplit, F.newRow]
  repeat (first | refine wpAny_loadPart_at hC ?_ | (refine wpAny_isSubtype_exc hC ?_; rw [hcont]) | refine wpAny_staticBase_exc hC ?_ | refine wpAny_madeBy_exc hC ?_ | simp only [bne_self_eq_false, Bool.false_eq_true, if_false] | wp_step)
  exact hq
theorem check_type_callK {rest : List Value} {kw : List (Str × Value)} {Q : Unit → Shared → Prop} (hC : h.get? C = some (excClassObj nm q C N bs bm hdct sn sub ab col dd k0 k1 k2 k3 k5 newId))
    (hq : Q () ⟨h, g, d, t, os⟩) : wpAny M A (checkBuiltinCall "type.__call__" ⟨.ref C :: rest, kw⟩) Q E ⟨h, g, d, t, os⟩ := by
  have f3 := tc_sub
  have hT : (⟨h, g, d, t, os⟩ : Shared).TypeIs (.ref C) "type" := ⟨_, hC, rfl⟩
  simp only [checkBuiltinCall, tc_kind, tc_split]
  repeat (any_goals (first | assumption | with_reducible refine wpAny_loadPart_at hC ?_ | with_reducible refine wpAny_onRaise ?_ | with_reducible refine wpAny_map ?_ | wp_step))
end
section
variable {prog : Program} {w : World} {A : Around} {E : Value → Shared → Prop} {R : Result → Shared → Prop} {h : Heap} {g : Array GenState} {d : Drawn} {t : Nat} {os : OsState}
variable {nm q : Str} {C N : Addr} {bs bm bmB : List Value} {hdct : Bool} {sn : List Str} {sub : List Value} {ab : Bool} {col : Option Bool} {dd : Option Addr} {k0 k1 k2 k3 k5 : Option Value} {B newId initId : String}
theorem new_ownK (F : ExcBaseFacts B newId initId bmB) (hT : ∀ X : String, bm.contains (.type X) = bmB.contains (.type X)) {rest : List Value} {kw : List (Str × Value)}
    (hC : h.get? C = some (excClassObj nm q C N bs bm hdct sn sub ab col dd k0 k1 k2 k3 k5 newId))
    (hq : R (.ok (.ret (.ref (h.objs.size + 1)))) ⟨(h.push { cls := .type "tuple", data := .seq rest.toArray }).push
      { cls := .ref C, data := .fields #[.ref h.objs.size, .none, .none, .none, .bool false, .none] }, g, d, t, os⟩) (hrest : rest.length ≤ sizeLine) :
    codeAny (model prog w) A (.builtin newId ⟨.ref C :: rest, kw⟩) R ⟨h, g, d, t, os⟩ := by
  have hends := F.ends
  have hcB : (Value.ref C :: bm).contains (.type B) = true := by rw [List.contains_cons, hT, F.hasB, Bool.or_true]
  have hcA : (Value.ref C :: bm).contains (.type "AttributeError") = false := by rw [List.contains_cons, hT, F.noAttr]; rfl
  have hcN : (Value.ref C :: bm).contains (.type "NameError") = false := by rw [List.contains_cons, hT, F.noName]; rfl
  refine codeAny_builtinAt F.entry ?_
  unfold Builtin.«BaseException.__new__»
  refine wpAt_bind ?_
  show wpAt _ _ _ (stack >>= _) _ _ _
  refine wpAt_bind (wpAt_stack fun p below => wpAt_of_wpAny ?_)
  wp_walk
  refine wpAt_of_wpAny ?_
  rw [F.owner]
  repeat (first | with_reducible refine wpAny_madeHere_exc F.canon hC ?_ | with_reducible refine wpAny_loadPart_at hC ?_ | (with_reducible refine wpAny_isSubtype_exc hC ?_; first | rw [hcB] | rw [hcA] | rw [hcN]) | wp_step)
  show R _ _
  rw [Heap.size_push]
  exact hq
theorem type_call_ownK (F : ExcBaseFacts B newId initId bmB) (hT : ∀ X : String, bm.contains (.type X) = bmB.contains (.type X)) {rest : List Value} {kw : List (Str × Value)} {fI : Addr} {Q : Fin → Shared → Prop}
    (hC : h.get? C = some (excClassObj nm q C N bs bm hdct sn sub ab col dd k0 k1 k2 k3 k5 newId))
    (hi : W.Looks (model prog w) h (typeLookup (.ref C) "__init__") (some (.ref fI))) (hb : ∀ self, W.Looks (model prog w) h (bindSpecial (.ref fI) self) (.ref fI, [self])) (hrest : rest.length ≤ sizeLine)
    (hq : codeAny (model prog w) A (.call (.ref fI) ⟨.ref (h.objs.size + 1) :: rest, kw⟩)
      (fun r s' => match r with | .ok (.ret v) => v = .none ∧ Q (.done (.ret (.ref (h.objs.size + 1)))) s' | .ok _ => False | .error e => E e s')
      ⟨(h.push (W.kdv_tup rest)).push (excO C h.objs.size), g, d, t, os⟩) :
    wpAny (model prog w) A (Builtin.«type.__call__» ⟨.ref C :: rest, kw⟩) Q E ⟨h, g, d, t, os⟩ := by
  repeat (first | with_reducible refine wpAny_loadPart_at hC ?_ | with_reducible refine wpAny_madeBy_exc hC ?_ | wp_step)
  refine codeAny_call_builtin_code (Code.quiet_builtin _ F.quiet) (check_new_ownK F hT hC ?_)
  refine new_ownK F hT hC ?_ hrest
  show wpAny _ _ _ _ _ _
  have k : ∀ b o, h.get? b = some o → ((h.push (W.kdv_tup rest)).push (excO C h.objs.size)).get? b = some o := fun b o e => Heap.get?_push_of_some _ (Heap.get?_push_of_some _ e)
  have hC₁ := k _ _ hC
  have hget : ((h.push (W.kdv_tup rest)).push (excO C h.objs.size)).get? (h.objs.size + 1) = some (excO C h.objs.size) := by heap_get
  have hcC : (Value.ref C :: bm).contains (.ref C) = true := by simp
  have i1 := hi.keeps k
  have b1 := (hb (.ref (h.objs.size + 1))).keeps k
  unfold isInstance
  repeat (first | with_reducible refine wpAny_loadPart_at hget ?_ | (with_reducible refine wpAny_isSubtype_exc hC₁ ?_; rw [hcC]) | wp_step)
  show wpAny _ _ (typeLookup (.ref C) _) _ _ _
  refine i1.at ?_
  refine wpAny_holding (wpAny_bind (b1.at ?_))
  refine wpAny_bind (wpAny_call (codeAny_mono hq fun r s' z => ?_))
  rcases r with e | (v | _ | _ | _) <;> first | exact z | exact z.elim | skip
  obtain ⟨rfl, z⟩ := z
  first
    | exact wpAny_pure (wpAny_pure z)
    | (wp_walk; exact z)
theorem call_ownK (F : ExcBaseFacts B newId initId bmB) (hT : ∀ X : String, bm.contains (.type X) = bmB.contains (.type X)) {rest : List Value} {kw : List (Str × Value)} {fI : Addr}
    (hC : h.get? C = some (excClassObj nm q C N bs bm hdct sn sub ab col dd k0 k1 k2 k3 k5 newId))
    (hi : W.Looks (model prog w) h (typeLookup (.ref C) "__init__") (some (.ref fI))) (hb : ∀ self, W.Looks (model prog w) h (bindSpecial (.ref fI) self) (.ref fI, [self])) (hrest : rest.length ≤ sizeLine)
    (hq : codeAny (model prog w) (A.under (.builtin "type.__call__" ⟨.ref C :: rest, kw⟩)) (.call (.ref fI) ⟨.ref (h.objs.size + 1) :: rest, kw⟩) (W.InitBack (h.objs.size + 1) R)
      ⟨(h.push (W.kdv_tup rest)).push (excO C h.objs.size), g, d, t, os⟩) :
    codeAny (model prog w) A (.call (.ref C) ⟨rest, kw⟩) R ⟨h, g, d, t, os⟩ := by
  have f1 := tc_lookup
  have f2 := tc_bind (.ref C)
  have hTy : (⟨h, g, d, t, os⟩ : Shared).TypeIs (.ref C) "type" := ⟨_, hC, rfl⟩
  refine codeAny_of_tree ?_
  show wpAny _ _ (callAny (.ref C) _) _ _ _
  repeat (any_goals (first | assumption | with_reducible refine wpAny_loadPart_at hC ?_ | wp_step))
  refine ⟨rfl, ?_⟩
  refine codeAny_call_builtin_at (Code.quiet_builtin _ (by decide +kernel)) entry_typeCall (check_type_callK hC (type_call_ownK F hT hC hi hb hrest ?_))
  refine codeAny_mono hq fun r s' z => ?_
  rcases r with e | (v | _ | _ | _) <;> exact z
end
end PySem.HandSPX

/-! DL25: errors as values: the rules. -/
namespace DL
open PySem PySem.Spec PyProof.Rows L2

theorem exd_frz {dx : Addr} {fs : List (Str × V)} {o : Obj} {u : HO} : exd dx fs ≠ .frz o u := fun z => by
  have z' : HO.ext _ = HO.frz o u := z
  cases z'
theorem exd_tbl {dx : Addr} {fs : List (Str × V)} {ps : Array Value} : exd dx fs ≠ .tbl ps := fun z => by
  have z' : HO.ext _ = HO.tbl ps := z
  cases z'
section
variable {X : Cx} {W : WX} {pins : List (Addr × Obj)} {σ : L2.St} {H : Hp} {s : Shared} {a C d : Addr} {fs : List (Str × V)}
/-- an exception that was made is from now on told as one that is kept -/
theorem retell (I : Inv X pins σ H s) (ea : H a = some (exo a C (some d))) (ed : H d = some (exd d fs)) : Inv X pins σ (upd (upd H a (ExH (.ref C) (some d) a)) d (.xd fs)) s := by
  obtain ⟨t1, ho⟩ := exo_at I.hok ea
  obtain ⟨mA, hns, rel⟩ := exd_at I.hok ed
  have hda : d ≠ a := fun z => by
    obtain ⟨o, es, ep, e1, e2, _⟩ := hns
    rw [z, ho] at e1
    have z2 := Option.some.inj e1
    subst z2
    cases e2
  have una : ∀ {b : Addr}, H b = none → b ≠ a := fun {b} n z => by rw [z, ea] at n; cases n
  have und : ∀ {b : Addr}, H b = none → b ≠ d := fun {b} n z => by rw [z, ed] at n; cases n
  have U : Un X.fs [] H (upd (upd H a (ExH (.ref C) (some d) a)) d (.xd fs)) s.heap s.heap := {
    keep := fun b o q n _ _ => q
    slot := fun b o q n _ _ => ⟨o.slots, q⟩
    free := fun b o q n _ => by rw [upd_ne (und n), upd_ne (una n)]; exact n
    there := fun b o q _ => ⟨o, q⟩
    tups := fun b xs q => by rw [upd_ne (at_ne ed q exd_tup), upd_ne (at_ne ea q exo_tup)]; exact q
    frzs := fun b o v q => by rw [upd_ne (at_ne ed q exd_frz), upd_ne (at_ne ea q exo_frz)]; exact q
    tbls := fun b ps q => ⟨#[], by rw [upd_ne (at_ne ed q exd_tbl), upd_ne (at_ne ea q exo_tbl), q]; simp⟩ }
  have J := I.un (t' := s.toks) U fun b o q => ?_
  · exact J
  by_cases hd : b = d
  · subst hd
    rw [upd_same] at q
    cases q
    exact ⟨mA, hns, rel⟩
  · rw [upd_ne hd] at q
    by_cases hb : b = a
    · subst hb
      rw [upd_same] at q
      cases q
      exact exH_ok ho ⟨rfl, rfl⟩ rfl
    · rw [upd_ne hb] at q
      exact (I.hok b o q).stay (fun c v hc z => z) (fun c hc => by rw [upd_ne (at_ne ed hc exd_own), upd_ne (at_ne ea hc exo_own)]; exact hc) (fun c xs hc => by rw [upd_ne (at_ne ed hc exd_tup), upd_ne (at_ne ea hc exo_tup)]; exact hc)

/-! ### making one -/
theorem pe_exv {C : Addr} {bmB : List Value} {B newId initId : String} {x : Str} {e : Expr} {ta : TE} {p pos : Pos} (F : ExcBaseFacts B newId initId bmB) (q : PySem.W.excIn X.K C bmB newId = true) (gC : X.mg x = some (.ref C)) (kC : PySem.W.keepIn X.K (.ref C) = true) (hg : Gl X x)
    (he : PE X e ta) (hs : starEach [e] X.env = (false, eval e X.env) :: starEach [] X.env := by rfl) (hdb : (x == ("__debug__" : Str)) = false := by decide) :
    PE X (.Call (.Name x p) [e] [] pos) (fun σ H Q => ta σ H fun _ H1 => ∀ a, H1 a = none → Q (.ref a) (upd H1 a (ExH (.ref C) none a))) := by
  refine ⟨fun pins s σ H Q I h => ?_⟩
  refine wpAny_Call_Name_kw (ld_glob I hg gC ?_ hdb)
  refine PySem.W.callWith_K (h₀ := X.base) I.ok.mod.kin kC ?_ hs (by rfl)
  rw [hs]
  show wpAny _ _ (spliced ((false, eval e X.env) :: backTo pos (starEach [] X.env))) _ _ s
  refine Calls.spliced_cons (thn (he.run pins s σ H _ I h) fun u s1 ⟨v, H1, I1, r1, q1⟩ => ?_)
  refine Calls.spliced_nil ⟨I1.kIn, ?_⟩
  show wpAny _ _ (call (.ref C) [u]) _ _ _
  obtain ⟨bm, N, nm, qn, bs, hdct, sn, sub, ab, col, dd, k0, k1, k2, k3, k5, mN, hC, hN, hni, T⟩ := exc_obj I1.kIn q
  refine wpAny_call_exc_subT F T hC hN hni (fun h' a hm => ?_) (by show 1 ≤ sizeLine; rw [sizeLine_eq]; omega)
  have hn : H1 a = none := I1.hok.gone hm.new
  obtain ⟨t, ht, _, _⟩ := hm.there
  exact ⟨.ref a, upd H1 a (ExH (.ref C) none a), I1.laidN hm.keeps hm.new hn (exH_ok ht ⟨rfl, rfl⟩ rfl), rfl, q1 a hn⟩
def mExv (cls : Value) (me : DenE) : DenE := fun env mu => (me env mu).bind fun _ m => .ok (.exn cls) m
theorem de_exv {a : Addr} {x : Str} {e : Expr} {me : DenE} {p pos : Pos} (hg : Gl X x) (C : ClF X.K X.mg x) (ha : C.a = a) (he : DE X W e me) (hs : starEach [e] X.env = (false, eval e X.env) :: starEach [] X.env := by rfl) (hdb : (x == ("__debug__" : Str)) = false := by decide) :
    DE X W (.Call (.Name x p) [e] [] pos) (mExv (.ref a) me) := by
  subst ha
  exact (pe_exv PySem.F.excBase_ValueError C.q C.g C.k hg he hs hdb).imp fun σ H Q ⟨F, io, env, mu, M, R, h⟩ => ⟨F, io, env, mu, M, R, (Sat.bind h).imp fun x H1 ⟨F1, j1, m1, d, s1, M1, r1, h1⟩ a ha =>
    h1 _ j1 _ (.ref a) (M1.stepF (o := ExH (.ref C.a) none a) ha) (M1.newF ha) (.exn upd_same)⟩
end

/-! ### an own __init__ that keeps one field -/
/-- what it promises: the number that it was given is kept as f -/
def spI (C : Addr) (f : Str) : Sp := fun vs H Q _ => ∃ (a : Addr) (i : Int), vs = [.ref a, .int i] ∧ i.natAbs.log2 < 1920 ∧ H a = some (exo a C none) ∧ ∀ dx, H dx = none → dx ≠ a → Q .non (upd (upd H dx (exd dx [(f, .int i)])) a (exo a C (some dx)))
/-- an own error class with such an __init__, as the top has made it -/
structure InF (K : PySem.W.Frag) (mg : Str → Option Value) (x : Str) (st : Stmt) (qual f : Str) where
  C : Addr
  g : mg x = some (.ref C)
  T : OexC K C
  no : PySem.W.findIn K (.ref C) f = some none
  a : Addr
  fd : FuncData
  F : Fun K "__init__" qual st a fd
  b : Binds K fd ["self", f] []
  kb : ∀ (s : Shared) (u v : Value), BindsTo s fd ⟨[u], [(f, v)]⟩ [("self", u), (f, v)]
  iC : PySem.W.findIn K (.ref C) "__init__" = some (some (.ref a))
  tI : PySem.W.typeIn K (.ref a) = some (.type "function")
section
variable {X : Cx} {W : WX}
/-- B.__init__(self, ..), B an own base over ValueError -/
theorem pe_oinit {x : Str} {CB : Addr} {e : Expr} {es : List Expr} {ta : TA} {p1 p2 pos : Pos} {pl : Sem Bool} (hg : Gl X x) (hm : X.mg x = some (.ref CB)) (r : ClX.CRead X.K CB (.type "type")) (v : PySem.W.findCls X.K (.ref CB) (.type "type") "__init__" = some (.val (.builtin "ValueError.__init__"))) (ha : PA X (e :: es) ta)
    (hc : eval (.Call (.Attribute (.Name x p1) "__init__" p2) (e :: es) [] pos) X.env = (do
      let ov ← eval (.Name x p1) X.env
      standAt p2.atName
      let (f, first) ← holding [ov] (getMethod ov "__init__" pl)
      callWith pos f first (backTo pos (starEach (e :: es) X.env)) (backToKw pos (keywordEach [] X.env))) := by rfl) (hdb : (x == ("__debug__" : Str)) = false := by decide)
    (he : starEach (e :: es) X.env = (false, eval e X.env) :: starEach es X.env := by rfl) (hpl : (backTo pos (starEach es X.env)).any (·.1) = false := by rfl) :
    PE X (.Call (.Attribute (.Name x p1) "__init__" p2) (e :: es) [] pos) (tVeI X.K ta) := by
  refine ⟨fun pins s σ H Q I h => ?_⟩
  refine PySem.W.methodCall_KW (ld_glob I hg hm ?_ hdb) hc
  refine PySem.W.method_cls I.kIn r.ga (PySem.W.cls_value I.kIn r.rd v (by decide +kernel) ?_)
  show wpAny _ _ (callWith pos (Value.builtin "ValueError.__init__") [] (backTo pos (starEach (e :: es) X.env)) []) _ _ _
  refine PyProof.Rows.callWith_method1 (thn (ha.run pos pins _ σ H _ (I.tok _) h) fun us s1 ⟨vs, H1, I1, r1, a, C, ws, ev, hl, T, ea, q⟩ => ?_) he hpl
  subst ev
  cases r1 with
  | @cons _ u0 _ ur ra rw' =>
    obtain rfl : u0 = Value.ref a := ra
    have hlen : ur.length ≤ sizeLine := by
      rw [← Paired.length rw', sizeLine_eq]
      omega
    exact oinit_ok T I1 ea hlen fun s' J => ⟨.non, H1, J, rfl, q⟩
theorem passF {P : Program} {w : World} {X : Cx} : Passes (L2.CX P w) X (fun _ _ _ => False) := fun _ _ _ _ _ _ _ ⟨_, _, _, _, _, _, _, _, _, _, _, _, h⟩ => h.elim
theorem fn_init {P : Program} {w : World} {K : PySem.W.Frag} {mg : Str → Option Value} {base : Heap} {x qual fld msg : Str} {st : Stmt} {N : List Str} {CB : Addr} {j : Nat} {p0 p1 p2 p3 p4 p5 p6 p7 p8 p9 pa pb pc pd : Pos} (R : InF K mg x st qual fld)
    (S : FnScope N ["self", fld] (defScope st)) (h0 : N[0]? = some (Str.ofString "self")) (h1 : N[1]? = some fld) (hms : msg.length ≤ 1000)
    (bd : defBody st = [.Expr (.Call (.Attribute (.Name "ItemError" p0) "__init__" p1) [.Name "self" p2, .BinOp (.Constant (.str msg) j p3) .Add (.Call (.Name "str" p4) [.Name fld p5] [] p6) p7] [] p8) p9, .Assign [.Attribute (.Name "self" pa) fld pb] (.Name fld pc) pd])
    (hc : ∀ env : Env, eval (.Call (.Attribute (.Name "ItemError" p0) "__init__" p1) [.Name "self" p2, .BinOp (.Constant (.str msg) j p3) .Add (.Call (.Name "str" p4) [.Name fld p5] [] p6) p7] [] p8) env = (do
      let ov ← eval (.Name "ItemError" p0) env
      standAt p1.atName
      let (f, first) ← holding [ov] (getMethod ov "__init__" (do return (← importBound (.Name "ItemError" p0) env).getD true))
      callWith p8 f first (backTo p8 (starEach [.Name "self" p2, .BinOp (.Constant (.str msg) j p3) .Add (.Call (.Name "str" p4) [.Name fld p5] [] p6) p7] env)) (backToKw p8 (keywordEach [] env))))
    (ls : (defScope st).names.lookup (Str.ofString "self") = some NameKind.local) (lf : (defScope st).names.lookup fld = some NameKind.local) (gi : (defScope st).names.lookup (Str.ofString "ItemError") = some NameKind.globalImplicit) (gs : (defScope st).names.lookup (Str.ofString "str") = some NameKind.globalImplicit)
    (hB : mg "ItemError" = some (.ref CB)) (rB : ClX.CRead K CB (.type "type")) (vB : PySem.W.findCls K (.ref CB) (.type "type") "__init__" = some (.val (.builtin "ValueError.__init__"))) (hstr : mg "str" = none) (hdf : (fld == ("__debug__" : Str)) = false := by decide) (hcf : (fld == ("__classdict__" : Str)) = false := by decide) :
    FnOk P w K mg base (L2.CX P w) 1 R.a R.fd ["self", fld] (spI R.C fld) := by
  refine R.F.okX S (fun vs H Q E ⟨a, i, h, _⟩ => by rw [h]; rfl) fun cdv A outer s H vs Q E hr h => ?_
  rw [bd]
  refine ⟨_, pss_cons (ps_expr (pe_oinit (X := cxOf (L2.CX P w) P w K mg base N qual (defScope st) R.a cdv A outer s H E) ?gi hB rB vB (pa_cons (pe_var h0 (.inl ls)) (pa_cons (pe_op op_add_str pe_str (pe_callTy call_str_int ?gs hstr (by decide +kernel) (pa_cons (pe_var h1 (.inl lf) hdf hcf) pa_nil))) pa_nil)) (hc _))) (pss_one (ps_ost (pe_var h0 (.inl ls)) (pe_var h1 (.inl lf) hdf hcf))), ?rest⟩
  case gi => exact gi
  case gs => exact gs
  case rest =>
    obtain ⟨a, i, rfl, hl, ea, q⟩ := h
    have hs0 : (L2.start N [V.ref a, V.int i])[0]? = some (some (V.ref a)) := rfl
    have hs1 : (L2.start N [V.ref a, V.int i])[1]? = some (some (V.int i)) := rfl
    refine ⟨V.ref a, hs0, V.int i, hs1, i, rfl, hl, msg, _, rfl, rfl, ?_, a, R.C, _, rfl, (by simp), R.T, ea, ?_⟩
    · have z := int_sz (i := i)
      have e : (PyData.shown (.int i)).length = (Str.ofString (toString i)).length := by simp only [PyData.shown]
      rw [e] at z
      rw [sizeLine_eq]
      omega
    · exact ⟨V.int i, hs1, V.ref a, hs0, a, R.C, rfl, R.T, R.no, .inl ⟨ea, fun dx hn ne => q dx hn ne⟩⟩
/-! ### C(i), C(f=i) -/
def tMkV (C : Addr) (sp : Sp) (ta : TA) : TE := fun σ H Q => ta σ H fun vs H1 => vs.length ≤ 1000 ∧ ∀ a, H1 a = none → sp (.ref a :: vs) (upd H1 a (exo a C none))
  (fun v H2 => v = .non ∧ ∃ (d : Addr) (fs : List (Str × V)), H2 a = some (exo a C (some d)) ∧ H2 d = some (exd d fs) ∧ Q (.ref a) (upd (upd H2 a (ExH (.ref C) (some d) a)) d (.xd fs))) (fun _ _ _ => False)
theorem run_mkV {pins : List (Addr × Obj)} {σ : L2.St} {H : Hp} {s : Shared} {k : Nat} {x qual fld : Str} {st : Stmt} {sp : Sp} {Q : VK} {us zs : List Value} {kw : List (Str × Value)} {vs : List V} (R : InF X.K X.mg x st qual fld)
    (F1 : FnOk X.prog X.w X.K X.mg X.base (L2.CX X.prog X.w) k R.a R.fd ["self", fld] sp) (hr : Room (k + 1) X.A) (I1 : Inv X pins σ H s) (hb : ∀ (s : Shared) (u : Value), X.K.In s.heap → BindsTo s R.fd ⟨u :: us, kw⟩ ((["self", fld] : List Str).zip (u :: zs))) (r2 : Vals vs zs) (hus : us.length ≤ sizeLine)
    (h : ∀ a, H a = none → sp (.ref a :: vs) (upd H a (exo a R.C none)) (fun v H2 => v = .non ∧ ∃ (d : Addr) (fs : List (Str × V)), H2 a = some (exo a R.C (some d)) ∧ H2 d = some (exd d fs) ∧ Q (.ref a) (upd (upd H2 a (ExH (.ref R.C) (some d) a)) d (.xd fs))) (fun _ _ _ => False)) :
    wpAny (model X.prog X.w) X.A (call (.ref R.C) us kw) (EP X pins σ Q) X.xe s := by
  obtain ⟨nm, q, N, bs, bm, sn, sub, ab, col, dd, k0, k1, k2, k3, k5, hC, hbm⟩ := R.T.cls
  obtain ⟨hp, g, dr, tk, os⟩ := s
  have hsz : hp.objs.size ≤ hp.objs.size + 1 := Nat.le_succ _
  have hn : H (hp.objs.size + 1) = none := I1.hok.fresh hsz
  have hq := h (hp.objs.size + 1) hn
  have kk : ∀ b o, hp.get? b = some o → ((hp.push (PySem.W.kdv_tup us)).push (PySem.HandSPX.excO R.C hp.objs.size)).get? b = some o := fun b o e => Heap.get?_push_of_some _ (Heap.get?_push_of_some _ e)
  have hget : ((hp.push (PySem.W.kdv_tup us)).push (PySem.HandSPX.excO R.C hp.objs.size)).get? (hp.objs.size + 1) = some (PySem.HandSPX.excO R.C hp.objs.size) := by heap_get
  have I2 : Inv X pins σ (upd H (hp.objs.size + 1) (exo (hp.objs.size + 1) R.C none)) ⟨(hp.push (PySem.W.kdv_tup us)).push (PySem.HandSPX.excO R.C hp.objs.size), g, dr, tk, os⟩ :=
    I1.laid (t' := tk) (a := hp.objs.size + 1) (o := exo (hp.objs.size + 1) R.C none) (h' := (hp.push (PySem.W.kdv_tup us)).push (PySem.HandSPX.excO R.C hp.objs.size)) kk hsz (exo_ok hget)
  have r3 : Vals (V.ref (hp.objs.size + 1) :: vs) (Value.ref (hp.objs.size + 1) :: zs) := .cons rfl r2
  refine wpAny_call (PySem.HandSPX.call_ownK PySem.F.excBase_ValueError (fun Y => PySem.HandSPX.refsVE_contains Y bm hbm) (I1.kIn _ _ hC) (PySem.W.looks_findIn I1.kIn R.iC) (fun self => PySem.W.bind_fn I1.kIn self R.tI) hus
    (codeAny_mono (F1.run _ X.stack _ _ ⟨Value.ref (hp.objs.size + 1) :: us, kw⟩ (Value.ref (hp.objs.size + 1) :: zs) _ _ (fun _ _ _ => False) (hr.make R.C us kw) (I2.env0.make R.C us kw) (hb _ _ I2.kIn) r3 hq) fun r s' hq' => ?_))
  cases r with
  | error er => exact (passF (X := X) pins σ _ _ er s' I2 hq')
  | ok fl =>
    cases fl with
    | ret u =>
      obtain ⟨v, H', I3, rv, ev, d, fs, ea, ed, q3⟩ := I2.after hq'
      subst ev
      exact ⟨rv, V.ref (hp.objs.size + 1), _, retell I3 ea ed, rfl, q3⟩
    | next => exact False.elim hq'
    | brk => exact False.elim hq'
    | cont => exact False.elim hq'
theorem pe_mkV {k : Nat} {x qual fld : Str} {st : Stmt} {sp : Sp} {e : Expr} {ta : TE} {p pos : Pos} (R : InF X.K X.mg x st qual fld) (F1 : FnOk X.prog X.w X.K X.mg X.base (L2.CX X.prog X.w) k R.a R.fd ["self", fld] sp) (hr : Room (k + 1) X.A) (kC : PySem.W.keepIn X.K (.ref R.C) = true) (hg : Gl X x) (he : PE X e ta)
    (hdb : (x == ("__debug__" : Str)) = false := by decide) (hs : starEach [e] X.env = (false, eval e X.env) :: starEach [] X.env := by rfl) : PE X (.Call (.Name x p) [e] [] pos) (tMkV R.C sp (tCons ta tNil)) := by
  refine ⟨fun pins s σ H Q I h => ?_⟩
  refine wpAny_Call_Name_kw (ld_glob I hg R.g ?_ hdb)
  refine PySem.W.callWith_K (h₀ := X.base) I.ok.mod.kin kC (thn ((pa_cons he pa_nil hs).run pos pins s σ H _ I h) fun us s1 ⟨vs, H1, I1, r1, hz, q1⟩ => ⟨I1.kIn, ?_⟩) hs (by rfl)
  show wpAny _ _ (call (.ref R.C) us) _ _ _
  refine run_mkV R F1 hr I1 (fun s u hk => ?_) r1 (by rw [← Paired.length r1, sizeLine_eq]; omega) q1
  have hl := F1.len _ _ _ _ (q1 (s1.heap.objs.size + 1) (I1.hok.fresh (Nat.le_succ _)))
  have := R.b s (u :: us) hk (by rw [List.append_nil, List.length_cons, ← Paired.length r1]; exact hl)
  rw [List.append_nil] at this
  exact this
theorem pe_mkK {k : Nat} {x qual fld : Str} {st : Stmt} {sp : Sp} {e : Expr} {ta : TE} {p kpos pos : Pos} (R : InF X.K X.mg x st qual fld) (F1 : FnOk X.prog X.w X.K X.mg X.base (L2.CX X.prog X.w) k R.a R.fd ["self", fld] sp) (hr : Room (k + 1) X.A) (kC : PySem.W.keepIn X.K (.ref R.C) = true) (hg : Gl X x) (he : PE X e ta)
    (hdb : (x == ("__debug__" : Str)) = false := by decide) (hall : (backToKw pos (keywordEach [⟨some fld, e, kpos⟩] X.env)).all (·.1.isSome) = true := by rfl) (hks : (backToKw pos (keywordEach [⟨some fld, e, kpos⟩] X.env)).filterMap (·.1) = [fld] := by rfl)
    (hpl : ((backTo pos (starEach [] X.env)).any (·.1) || (backToKw pos (keywordEach [⟨some fld, e, kpos⟩] X.env)).any (·.1.isNone)) = false := by rfl) : PE X (.Call (.Name x p) [] [⟨some fld, e, kpos⟩] pos) (tMkV R.C sp (tCons ta tNil)) := by
  refine ⟨fun pins s σ H Q I h => ?_⟩
  refine wpAny_Call_Name_kw (ld_glob I hg R.g ?_ hdb)
  refine PySem.W.callWith_KW0 (h₀ := X.base) I.ok.mod.kin kC hall (thn ((pk_cons he pk_nil).run pos pins s σ H _ I h) fun us s1 ⟨vs, H1, I1, r1, hz, q1⟩ => ⟨I1.kIn, ?_⟩) hpl
  rw [hks]
  show wpAny _ _ (call (.ref R.C) [] _) _ _ _
  have hl := F1.len _ _ _ _ (q1 (s1.heap.objs.size + 1) (I1.hok.fresh (Nat.le_succ _)))
  have hl2 : us.length = 1 := by rw [← Paired.length r1]; simpa using hl
  obtain ⟨v, rfl⟩ := List.length_eq_one_iff.mp hl2
  exact run_mkV (us := []) (zs := [v]) (kw := [(fld, v)]) R F1 hr I1 (fun s u _ => R.kb s u v) r1 (Nat.zero_le _) q1
def mExf (cls : Value) (fld : Str) (me : DenE) : DenE := fun env mu => (me env mu).bind fun d m => match d with
  | .int i => if i.natAbs.log2 < 1920 then .ok (.exf cls [fld] [.int i]) m else .stuck
  | _ => .stuck
theorem tE_exf {C : Addr} {fld : Str} {me : DenE} {σ : L2.St} {H : Hp} {Q : VK} (h : tE X.K W (mExf (.ref C) fld me) σ H Q) : tMkV C (spI C fld) (tCons (tE X.K W me) tNil) σ H Q := by
  obtain ⟨F, io, env, mu, M, R, h⟩ := h
  refine ⟨F, io, env, mu, M, R, (Sat.bind h).imp fun x H1 ⟨F1, j1, m1, d, s1, M1, r1, h1⟩ => ?_⟩
  cases d with
  | int i =>
    obtain rfl := r1.int_inv
    by_cases hi : i.natAbs.log2 < 1920
    · simp only [if_pos hi] at h1
      refine ⟨(by show 1 ≤ 1000; decide), fun a ha => ⟨a, i, rfl, hi, upd_same, fun dx hdx ne => ⟨rfl, dx, _, upd_same, by rw [upd_ne ne, upd_same], ?_⟩⟩⟩
      have hdx1 : H1 dx = none := by rw [upd_ne ne] at hdx; exact hdx
      have e : upd (upd (upd (upd (upd H1 a (exo a C none)) dx (exd dx [(fld, V.int i)])) a (exo a C (some dx))) a (ExH (.ref C) (some dx) a)) dx (.xd [(fld, V.int i)]) = upd (upd H1 a (ExH (.ref C) (some dx) a)) dx (.xd [(fld, V.int i)]) := by
        funext b
        by_cases hb : b = dx
        · rw [hb, upd_same, upd_same]
        · rw [upd_ne hb, upd_ne hb]
          by_cases hc : b = a
          · rw [hc, upd_same, upd_same]
          · rw [upd_ne hc, upd_ne hc, upd_ne hc, upd_ne hb, upd_ne hc]
      rw [e]
      have hd2 : upd H1 a (ExH (.ref C) (some dx) a) dx = none := by rw [upd_ne ne]; exact hdx1
      have M2 := M1.newF (o := ExH (.ref C) (some dx) a) ha
      have hf : upd F1 a (ExH (.ref C) (some dx) a) dx = none := M2.fresh hd2
      refine h1 _ j1 _ (.ref a) ((M1.stepF (o := ExH (.ref C) (some dx) a) ha).trans (M2.stepF (o := .xd [(fld, V.int i)]) hd2)) (M2.newF hd2) (.exf (d := dx) (xs := [V.int i]) ?_ upd_same rfl (.cons .int .nil))
      rw [upd_ne (Ne.symm ne), upd_same]
    · simp only [if_neg hi] at h1
      exact h1.elim
  | _ => exact h1.elim
theorem de_exf {k : Nat} {a : Addr} {x qual fld : Str} {st : Stmt} {e : Expr} {me : DenE} {p pos : Pos} (hg : Gl X x) (R : InF X.K X.mg x st qual fld) (ha : R.C = a) (F1 : FnOk X.prog X.w X.K X.mg X.base (L2.CX X.prog X.w) k R.a R.fd ["self", fld] (spI R.C fld)) (hr : Room (k + 1) X.A) (kC : PySem.W.keepIn X.K (.ref R.C) = true) (he : DE X W e me)
    (hdb : (x == ("__debug__" : Str)) = false := by decide) (hs : starEach [e] X.env = (false, eval e X.env) :: starEach [] X.env := by rfl) : DE X W (.Call (.Name x p) [e] [] pos) (mExf (.ref a) fld me) := by
  subst ha
  exact (pe_mkV R F1 hr kC hg he hdb hs).imp fun σ H Q h => tE_exf h
theorem de_exfK {k : Nat} {a : Addr} {x qual fld : Str} {st : Stmt} {e : Expr} {me : DenE} {p kpos pos : Pos} (hg : Gl X x) (R : InF X.K X.mg x st qual fld) (ha : R.C = a) (F1 : FnOk X.prog X.w X.K X.mg X.base (L2.CX X.prog X.w) k R.a R.fd ["self", fld] (spI R.C fld)) (hr : Room (k + 1) X.A) (kC : PySem.W.keepIn X.K (.ref R.C) = true) (he : DE X W e me)
    (hdb : (x == ("__debug__" : Str)) = false := by decide) (hall : (backToKw pos (keywordEach [⟨some fld, e, kpos⟩] X.env)).all (·.1.isSome) = true := by rfl) (hks : (backToKw pos (keywordEach [⟨some fld, e, kpos⟩] X.env)).filterMap (·.1) = [fld] := by rfl)
    (hpl : ((backTo pos (starEach [] X.env)).any (·.1) || (backToKw pos (keywordEach [⟨some fld, e, kpos⟩] X.env)).any (·.1.isNone)) = false := by rfl) : DE X W (.Call (.Name x p) [] [⟨some fld, e, kpos⟩] pos) (mExf (.ref a) fld me) := by
  subst ha
  exact (pe_mkK R F1 hr kC hg he hdb hall hks hpl).imp fun σ H Q h => tE_exf h

/-! ### the field of one -/
def mAttr (ok : Str → Addr → Bool) (n : Str) (me : DenE) : DenE := fun env mu => (me env mu).bind fun d m => match d with
  | .exf (.ref C) ns ds => if ok n C = true then match (ns.zip ds).lookup n with
    | some y => .ok y m
    | none => .stuck
    else .stuck
  | _ => .stuck
theorem lookup_zip {K : PySem.W.Frag} {F : Hp} {io : List Addr} {n : Str} {y : D} : ∀ {ns : List Str} {xs : List V} {ds : List D}, RepL K F io xs ds → (ns.zip ds).lookup n = some y → ∃ v, (ns.zip xs).lookup n = some v ∧ Rep K F io v y
  | [], _, _, _, h => by simp at h
  | _ :: _, _, _, .nil, h => by simp at h
  | m :: ns, x :: xs, d :: ds, .cons r t, h => by
    rw [List.zip_cons_cons, List.lookup_cons] at h ⊢
    by_cases e : (n == m) = true
    · simp only [e] at h ⊢
      cases h
      exact ⟨x, rfl, r⟩
    · have e' : (n == m) = false := by simpa using e
      simp only [e'] at h ⊢
      exact lookup_zip t h
theorem pe_attr {ok : Str → Addr → Bool} {n : Str} {e : Expr} {te : TE} {pos : Pos} (hok : ∀ C, ok n C = true → XfC X.K C ∧ PySem.W.findIn X.K (.ref C) n = some none) (he : PE X e te) (hb : attributeBase e n X.env (eval e X.env) = eval e X.env := by rfl) :
    PE X (.Attribute e n pos) (fun σ H Q => te σ H fun x H1 => ∃ (a C dd : Addr) (fs : List (Str × V)) (v : V), x = .ref a ∧ ok n C = true ∧ H1 a = some (ExH (.ref C) (some dd) a) ∧ H1 dd = some (.xd fs) ∧ fs.lookup n = some v ∧ Q v H1) := by
  refine ⟨fun pins s σ H Q I h => ?_⟩
  refine attr_of hb (thn (he.run pins s σ H _ I h) fun u s1 ⟨x, H1, I1, rx, a, C, dd, fs, v, ex, hC, ea, ed, l, q⟩ => ?_)
  subst ex
  obtain rfl : u = Value.ref a := rx
  obtain ⟨T, hno⟩ := hok C hC
  obtain ⟨⟨oe, vs, ha, hz, hd⟩, _, _⟩ := I1.hok a _ ea
  have hx : ObjOk X.prog X.w H1 s1.heap dd (.xd fs) := I1.hok dd _ ed
  obtain ⟨mA, hns, hr⟩ := hx
  obtain ⟨od, ho, hl⟩ := lookIn_ns hns
  obtain ⟨u, hu, ru⟩ := RelO.some_of (v := v) (o := mA n) (by rw [← l]; exact hr n)
  have J : PySem.W.InstAt s1.heap a oe C (some od) := ⟨ha, hz.1, by unfold PySem.W.notCls; rw [hd] <;> rfl, by rw [hz.2]; exact ho⟩
  exact HandSPX.exc_get I1.kIn J T.ga T.gg T.exC (PySem.W.findObj_own T.hdC hno rfl (by rw [hl, hu])) (handed_of ru) ⟨v, H1, I1.tok _, ru, q⟩
theorem de_attr {ok : Str → Addr → Bool} {n : Str} {e : Expr} {me : DenE} {pos : Pos} (hok : ∀ C, ok n C = true → XfC X.K C ∧ PySem.W.findIn X.K (.ref C) n = some none) (he : DE X W e me) (hb : attributeBase e n X.env (eval e X.env) = eval e X.env := by rfl) :
    DE X W (.Attribute e n pos) (mAttr ok n me) :=
  (pe_attr hok he hb).imp fun σ H Q ⟨F, io, env, mu, M, R, h⟩ => ⟨F, io, env, mu, M, R, (Sat.bind h).imp fun x H1 ⟨F1, j1, m1, d, s1, M1, r1, h1⟩ => by
    cases r1 with
    | @exf a dd cls ns xs ds hF hd hl rl =>
      cases cls with
      | ref C =>
        by_cases hC : ok n C = true
        · simp only [if_pos hC] at h1
          cases el : (ns.zip ds).lookup n with
          | none => simp only [el] at h1; exact h1.elim
          | some y =>
            simp only [el] at h1
            obtain ⟨v, ev, rv⟩ := lookup_zip rl el
            exact ⟨a, C, dd, _, v, rfl, hC, M1.le _ _ hF, M1.le _ _ hd, ev, h1 F1 j1 H1 v Step.rfl M1 rv⟩
        · simp only [if_neg hC] at h1; exact h1.elim
      | _ => exact h1.elim
    | _ => exact h1.elim⟩
end
/-! ### isinstance of one with fields -/
end DL
namespace PySem.W
open PySem PySem.Spec PySem.Calls PyProof.Rows
section
variable {prog : Program} {w : World} {A : Around} {E : Value → Shared → Prop} {s : Shared} {K : Frag} {x D : Addr} {ox : Obj} {od : Option Obj}
theorem findObj_dataD {C : Addr} {name : Str} {a g : Value} (hc : (clsIn K C).isSome = true) (ha : findIn K (.ref C) name = some (some a)) (hg : specialIn K a "__get__" = some (some g)) (ht : takesIn K a = some true) (ho : ∀ cd, clsIn K C = some cd → ∃ r, ownOf cd od name = some r) : findObj K C od name = some (.bind g a) := by
  obtain ⟨cd, hc⟩ := Option.isSome_iff_exists.mp hc
  obtain ⟨r, hr⟩ := ho cd hc
  unfold findObj
  rw [hc, Option.bind_some, ha, Option.bind_some]
  simp [hg, ht, hr]
theorem kin_classD {Q : Option Value → Shared → Prop} (hga : findIn K (.ref D) "__getattribute__" = some (some (.builtin "BaseException.__getattribute__"))) (hgt : findIn K (.ref D) "__getattr__" = some none) (hsub : subIn K (.ref D) (.type "BaseException") = some true)
    (hdct : hasDictIn K D = true) (ha : findIn K (.ref D) "__class__" = some (some (.builtin "object.__class__")))
    (hn : specialIn K (.builtin "object.__class__") "__get__" = some (some (.builtin "getset_descriptor.__get__"))) (htk : takesIn K (.builtin "object.__class__") = some true) (hm : mroIn K D (.type "object") = some true) (hown : ∀ cd, clsIn K D = some cd → ∃ r, ownOf cd od "__class__" = some r)
    (X : K.In s.heap) (I : InstAt s.heap x ox D od) (h : Q (some (.ref D)) { s with toks := s.toks + 1 }) : wpAny (model prog w) A (getAttr? (.ref x) "__class__") Q E s := by
  have hf : findObj K D od "__class__" = some (.bind (.builtin "getset_descriptor.__get__") (.builtin "object.__class__")) := findObj_dataD (by obtain ⟨cd, hc, _⟩ := any_some hdct; rw [hc]; rfl) ha hn htk hown
  obtain ⟨hp, g, d, t, os⟩ := s
  have L0 := I.type (M := model prog w)
  have L1 := looks_findIn (M := model prog w) X hga
  have L2 := looks_findIn (M := model prog w) X hgt
  have L3 := looks_find (M := model prog w) X I hf
  have sub : Looks (model prog w) hp (isInstance (.ref x) (.type "BaseException")) true := L0.andThen (looks_subIn X hsub)
  have hx0 : (false && onTheHeap (Value.builtin "BaseException.__getattribute__")) = false := rfl
  have hx2 : (Value.builtin "BaseException.__getattribute__" == Value.builtin "object.__getattribute__") = false := by decide +kernel
  have hx1 : (onTheHeap (Value.ref D) && Value.builtin "BaseException.__getattribute__" == Value.builtin "object.__getattribute__") = false := by rw [hx2]; rfl
  unfold getAttr? getAttrBy? getAttrBy
  refine wpAny_bind (wpAny_mkText (wpAny_bind (wpAny_attempt (wpAny_holding (wpAny_bind (L0.at (wpAny_bind (L1.at ?_))))))))
  show wpAny _ _ (if (onTheHeap (Value.ref D) && Value.builtin "BaseException.__getattribute__" == Value.builtin "object.__getattribute__") = true then _ else _) _ _ _
  rw [hx1, if_neg Bool.false_ne_true]
  unfold getAttrByItsOwn hookBefore
  refine wpAny_bind ?_
  rw [if_pos (show onTheHeap (Value.ref D) = true from rfl)]
  refine L2.at ?_
  refine wpAny_bind (wpAny_attempt (wpAny_holding ?_))
  unfold callGetattribute
  rw [hx0, if_neg Bool.false_ne_true]
  unfold boundAndCalled
  rw [PySem.F.excAttr_ValueError.ga.bind (.ref x)]
  refine wpAny_bind (wpAny_pure ?_)
  show wpAny _ _ (call (.builtin "BaseException.__getattribute__") [.ref x, .str "__class__" t]) _ _ _
  refine wpAny_call (codeAny_call_builtin PySem.F.excAttr_ValueError.ga.plain PySem.F.entry_bexc_ga ?_)
  refine @check_slot (model prog w) _ _ ⟨hp, g, d, t + 1, os⟩ "BaseException.__getattribute__" "BaseException" "__getattribute__" (.ref x) [.str "__class__" t] [] _ (by decide +kernel) (by decide +kernel) sub (PySem.F.args_bexc_ga (.ref x) (.str "__class__" t)) ?_
  unfold Builtin.«object.__getattribute__»
  refine wpAny_bind (wpAny_of_eq (a := ((Value.ref x : Value), [Value.str "__class__" t])) (by first | rfl | (simp only [slotArgs]; rfl)) ?_)
  refine wpAny_bind (wpAny_pure (wpAny_bind (L0.at (wpAny_bind (L3.at ?_)))))
  show wpAny _ _ (holding [Value.builtin "object.__class__"] (call (.builtin "getset_descriptor.__get__") [.builtin "object.__class__", .ref x, .ref D]) >>= ret) _ _ _
  refine wpAny_bind (wpAny_holding (wpAny_call (class_get (s := ⟨hp, g, d, t + 1, os⟩) (ox := ox) (od := od) X I hm ?_)))
  refine wpAny_pure ?_
  show wpAny _ _ (handedOut (.ref D)) _ _ _
  rw [handedOut_of (v := .ref D) rfl]
  first
    | exact wpAny_pure (wpAny_pure h)
    | exact wpAny_pure h
    | exact wpAny_pure (wpAny_bind (wpAny_pure (wpAny_pure h)))
theorem kitx_excD (hga : findIn K (.ref D) "__getattribute__" = some (some (.builtin "BaseException.__getattribute__"))) (hgt : findIn K (.ref D) "__getattr__" = some none) (hsub : subIn K (.ref D) (.type "BaseException") = some true) (hdct : hasDictIn K D = true) (ha : findIn K (.ref D) "__class__" = some (some (.builtin "object.__class__")))
    (hn : specialIn K (.builtin "object.__class__") "__get__" = some (some (.builtin "getset_descriptor.__get__"))) (htk : takesIn K (.builtin "object.__class__") = some true) (hm : mroIn K D (.type "object") = some true) (hown : ∀ cd, clsIn K D = some cd → ∃ r, ownOf cd od "__class__" = some r) :
    KitX K (.ref x) (.ref D) (fun h => InstAt h x ox D od) where
  ty := fun _ _ _ I => I.type
  it := fun _ _ X _ => by
    obtain ⟨cdD, hcD, _⟩ := any_some hdct
    unfold clsIn at hcD
    split at hcD
    · rename_i c' d' cd' sl' ho
      intro A' Q' E' s' k q
      unfold isType loadHead
      exact wpAny_bind (wpAny_loadPart (k _ _ (X _ _ ho)) (wpAny_pure q))
    · cases hcD
  ne := fun h tp dd its n sl X htp => by
    obtain ⟨cdD, hcD, _⟩ := any_some hdct
    refine Bool.eq_false_iff.mpr fun q => ?_
    have e : D = tp := Value.ref.inj (beq_iff_eq.mp q)
    subst e
    unfold clsIn at hcD
    split at hcD
    · rename_i c' d' cd' sl' ho
      have z := (X _ _ ho).symm.trans htp
      cases z
    · cases hcD
  ca := fun X I k => kin_classD hga hgt hsub hdct ha hn htk hm hown X I k
end
end PySem.W
namespace DL
open PySem PySem.Spec PyProof.Rows L2
theorem call_isXd {X : Cx} {D : Addr} (C : ExcC X.K D) : CallR X (.builtin "isinstance") (fun xs H Q => ∃ (a dd : Addr) (fs : List (Str × V)) (c : V) (cv : Value) (b : Bool), xs = [.ref a, c] ∧ H a = some (ExH (.ref D) (some dd) a) ∧ H dd = some (.xd fs) ∧ (∀ u, RelV c u → u = cv) ∧ PySem.W.kitOne X.K (.ref D) cv = some b ∧ Q (.bl b) H) := by
  intro pins s σ H xs us Q I r h
  obtain ⟨a, dd, fs, c, cv, b, rfl, ha, hdd, hcv, e, q⟩ := h
  obtain ⟨u1, u2, rfl, r1, r2⟩ := vals2 r
  obtain rfl : u1 = Value.ref a := r1
  have ec := hcv _ r2
  subst ec
  obtain ⟨⟨oe, vs, g1, g2, g3⟩, _⟩ := I.hok a _ ha
  have hx : ObjOk X.prog X.w H s.heap dd (.xd fs) := I.hok dd _ hdd
  obtain ⟨mA, hns, hr⟩ := hx
  obtain ⟨od, ho, hl⟩ := lookIn_ns hns
  have J : PySem.W.InstAt s.heap a oe D (some od) := ⟨g1, g2.1, by unfold PySem.W.notCls; rw [g3] <;> rfl, by rw [g2.2]; exact ho⟩
  exact PySem.W.kia_one (PySem.W.kitx_excD C.hg C.hk C.hs C.hd C.ha C.hn C.ht C.hm (fun cd _ => by
    unfold PySem.W.ownOf
    split
    · exact ⟨_, hl _⟩
    · exact ⟨_, rfl⟩)) I.kIn J e (fun z => nomatch z) fun tk => ⟨.bl b, H, I.kept (t' := tk) fun _ _ z => z, rfl, q⟩
def gIsy (ex : Addr → Bool) (isx : Value → Value → Option Bool) (mu : Mu) (ds : List D) : ORes D := match ds with
  | [.exf (.ref a) _ _, c] => match clsV c with
    | some u => if ex a = true then (isx (.ref a) u).map fun b => (.bl b, mu) else none
    | none => none
  | ds => gIsx ex isx mu ds
def rIsy (K : PySem.W.Frag) (ex : Addr → Bool) : List V → Hp → VK → Prop := fun xs H Q => (∃ (D a dd : Addr) (fs : List (Str × V)) (c : V) (cv : Value) (b : Bool), ex D = true ∧ xs = [.ref a, c] ∧ H a = some (ExH (.ref D) (some dd) a) ∧ H dd = some (.xd fs) ∧ (∀ u, RelV c u → u = cv) ∧ PySem.W.kitOne K (.ref D) cv = some b ∧ Q (.bl b) H) ∨ rIsx K ex xs H Q
theorem call_isy {X : Cx} {ex : Addr → Bool} (hex : ∀ a, ex a = true → ExcC X.K a) : CallR X (.builtin "isinstance") (rIsy X.K ex) := by
  intro pins s σ H xs us Q I r h
  rcases h with ⟨D, a, dd, fs, c, cv, b, h1, h2⟩ | h
  · exact call_isXd (hex D h1) pins s σ H xs us Q I r ⟨a, dd, fs, c, cv, b, h2⟩
  · exact call_isx hex pins s σ H xs us Q I r h
theorem cg_isy {K : PySem.W.Frag} {ex : Addr → Bool} {isx : Value → Value → Option Bool} (hi : ∀ v u b, isx v u = some b → PySem.W.kitOne K v u = some b) : CallD K (rIsy K ex) (gIsy ex isx) := fun F io H mu vs ds Q M r h => by
  unfold gIsy at h
  split at h
  · rename_i a ns fs c
    obtain ⟨v, w, rfl, rx, ry⟩ := r.two_inv
    split at h
    · rename_i u eu
      split at h
      · rename_i hex
        cases e2 : isx (.ref a) u with
        | none => rw [e2] at h; exact h.elim
        | some b =>
          rw [e2] at h
          cases rx with
          | exf hF hd hl rl =>
            refine .inl ⟨a, _, _, _, w, u, b, hex, rfl, M.le _ _ hF, M.le _ _ hd, fun z hz => ?_, hi _ _ _ e2, satO_some h M .bl⟩
            unfold clsV at eu
            split at eu
            · cases eu
              have := ry.ref_inv
              subst this
              exact hz
            · cases eu
              have := ry.ty_inv
              subst this
              exact hz
            · cases eu
      · exact h.elim
    · exact h.elim
  · exact .inr (cg_isx hi F io H mu vs _ Q M r h)
end DL

/-! DL26: errors as values: what gen2.py's text takes from the head's facts. -/
namespace DL
open PySem PySem.Spec PyProof.Rows L2
/-- the j-th statement of a class's body -/
def clsAt (s : Stmt) (j : Nat) : Stmt := match s with
  | .ClassDef (body := b) .. => b.getD j (.Pass ⟨0, 0, 0, 0⟩)
  | _ => .Pass ⟨0, 0, 0, 0⟩
section
variable {K K' : PySem.W.Frag}
theorem th_findCls (T : Thin K K') {CB : Addr} (hf : PySem.W.findIn K (.ref CB) "__init__" = some (some (.builtin "ValueError.__init__"))) (h : PySem.W.findCls K (.ref CB) (.type "type") "__init__" = some (.val (.builtin "ValueError.__init__"))) :
    PySem.W.findCls K' (.ref CB) (.type "type") "__init__" = some (.val (.builtin "ValueError.__init__")) := by
  unfold PySem.W.findCls at h ⊢
  rw [hf] at h
  simp only [th_find T, th_special T, th_takes T, hf]
  exact h
theorem th_cread (T : Thin K K') {CB : Addr} (h : PySem.W.readsIn K CB (.type "type") = true) (hs : PySem.W.specialIn K (.ref CB) "__getattribute__" = some (some (.builtin "type.__getattribute__"))) : ClX.CRead K' CB (.type "type") := by
  refine ⟨?_, (th_special T _ _).trans hs⟩
  simp only [PySem.W.readsIn, Bool.and_eq_true, beq_iff_eq] at h ⊢
  obtain ⟨⟨⟨⟨a, b⟩, c⟩, d⟩, f⟩ := h
  exact ⟨⟨⟨⟨(th_nsIn T _ _).trans a, th_type T b nofun⟩, (th_find T _ _).trans c⟩, d⟩, (th_sub T _ _).trans f⟩
theorem th_xfC (T : Thin K K') {C : Addr} (h : xfB K C = true) : XfC K' C := by
  have x := xfB_ok h
  exact ⟨(th_find T _ _).trans x.ga, (th_find T _ _).trans x.gg, (th_sub T _ _).trans x.exC, (th_hasDict T _).trans x.hdC⟩
def InF.ofT {h : Heap} {mg : Str → Option Value} {x : Str} {st : Stmt} {qual fld : Str} {C f N : Addr} {oc : Value} {od an dd : Option Addr} {osl : Array (Option Value)} {kV doc pm cdv ct : Value} {nm q : Str} {bs bm : List Value} {sn : List Str} {sub : List Value} {ab : Bool} {col : Option Bool} {k0 k1 k2 k3 k5 : Option Value} (Th : Thin K K') (KX : K'.In h) (G : h.Ns mainGlobals mg)
    (hb : ∀ (kV doc pm : Value) (an : Option Addr) (cdv ct : Value) (us : List Value), us.length = 2 → bindArgs (PySem.W.fnOf "__init__" qual (defArgs st) (defBody st) (defScope st) .none kV doc pm an cdv ct) ⟨us, []⟩ = pure ((["self", fld] : List Str).zip us))
    (hk : ∀ (kV doc pm : Value) (an : Option Addr) (cdv ct u v : Value), bindArgs (PySem.W.fnOf "__init__" qual (defArgs st) (defBody st) (defScope st) .none kV doc pm an cdv ct) ⟨[u], [(fld, v)]⟩ = pure ([(Str.ofString "self", u), (fld, v)] : List (Str × Value)))
    (e : PySem.W.nsIn K mainGlobals x = some (some (.ref C))) (hC : K.lookup C = some (excClassObj nm q C N bs bm true sn sub ab col dd k0 k1 k2 k3 k5 "ValueError.__new__")) (hbm : PySem.HandSPX.refsVE bm = true)
    (sa : PySem.W.findIn K (.ref C) "__setattr__" = some (some (.builtin "object.__setattr__"))) (b : PySem.W.subIn K (.ref C) (.type "BaseException") = some true) (t : PySem.W.typeIn K (.ref C) = some (.type "type")) (k : PySem.W.keepIn K (.ref C) = true) (no : PySem.W.findIn K (.ref C) fld = some none)
    (iC : PySem.W.findIn K (.ref C) "__init__" = some (some (.ref f))) (l : K.lookup f = some ⟨oc, od, .func (PySem.W.fnOf "__init__" qual (defArgs st) (defBody st) (defScope st) .none kV doc pm an cdv ct), osl⟩) (c : PySem.W.codeIn K cdv qual = true) (kf : PySem.W.keepIn K (.ref f) = true) (tI : PySem.W.typeIn K (.ref f) = some (.type "function")) : InF K' mg x st qual fld where
  C := C
  g := PySem.W.mg_of KX G ((th_nsIn Th _ _).trans e)
  T := ⟨⟨nm, q, N, bs, bm, sn, sub, ab, col, dd, k0, k1, k2, k3, k5, th_look Th hC rfl, hbm⟩, (th_find Th _ _).trans sa, (th_sub Th _ _).trans b, th_type Th t nofun, (th_keep Th _).trans k⟩
  no := (th_find Th _ _).trans no
  a := f
  fd := _
  F := fun_mk (th_look Th l (by cases oc <;> rfl)) ((th_code Th _ _).trans c) ((th_keep Th _).trans kf)
  b := (fun_mk (th_look Th l (by cases oc <;> rfl)) ((th_code Th _ _).trans c) ((th_keep Th _).trans kf)).binds hb
  kb := fun s u v => .of_eq (hk _ _ _ _ _ _ _ _)
  iC := (th_find Th _ _).trans iC
  tI := th_type Th tI nofun
end
end DL

/-! DL27: a dict whose keys are nested tuples of numbers, all its values True: {}, d[k] = True, k in d, list(d). -/
namespace DL
open PySem PySem.Spec PyProof.Rows L2

mutual
theorem hash_num (w w' : World) : ∀ k, numK k = true → k.hash w = k.hash w'
  | .num _, _ => rfl
  | .tup ks, h => by
    rw [NestedKey.hash, NestedKey.hash, hashes_num w w' ks (by simpa only [numK] using h)]
  | .none, h => by simp [numK] at h
  | .text _, h => by simp [numK] at h
theorem hashes_num (w w' : World) : ∀ ks, numL ks = true → NestedKey.hashes w ks = NestedKey.hashes w' ks
  | [], _ => rfl
  | k :: ks, h => by
    simp only [numL, Bool.and_eq_true] at h
    rw [NestedKey.hashes, NestedKey.hashes, hash_num w w' k h.1, hashes_num w w' ks h.2]
end
mutual
/-- a key, as the abstract heap has it -/
def KRep (K : PySem.W.Frag) (H : Hp) : NestedKey → V → Prop
  | .num i, v => v = .int i
  | .tup ks, v => ∃ a xs, v = .ref a ∧ SqT K H a xs ∧ KRepL K H ks xs
  | _, _ => False
def KRepL (K : PySem.W.Frag) (H : Hp) : List NestedKey → List V → Prop
  | [], xs => xs = []
  | k :: ks, xs => ∃ y ys, xs = y :: ys ∧ KRep K H k y ∧ KRepL K H ks ys
end
section
variable {K : PySem.W.Frag} {F H : Hp} {io : List Addr} {mu : Mu}
mutual
theorem krep_of (l : Le F H) : ∀ (k : NestedKey) {v : V}, numK k = true → Rep K F io v (dOf k) → KRep K H k v
  | .num i, v, _, r => by
    simp only [dOf] at r
    simp only [KRep]
    exact r.int_inv
  | .tup ks, v, h, r => by
    simp only [dOf] at r
    simp only [KRep]
    cases r with
    | tup hs rl => exact ⟨_, _, rfl, l.sqt hs, krepL_of l ks (by simpa only [numK] using h) rl⟩
  | .none, _, h, _ => by simp [numK] at h
  | .text _, _, h, _ => by simp [numK] at h
theorem krepL_of (l : Le F H) : ∀ (ks : List NestedKey) {xs : List V}, numL ks = true → RepL K F io xs (dOfL ks) → KRepL K H ks xs
  | [], xs, _, r => by
    simp only [dOfL] at r
    simp only [KRepL]
    cases r
    rfl
  | k :: ks, xs, h, r => by
    simp only [dOfL] at r
    simp only [numL, Bool.and_eq_true] at h
    simp only [KRepL]
    cases r with
    | cons a b => exact ⟨_, _, rfl, krep_of l k h.1 a, krepL_of l ks h.2 b⟩
end
end
section
variable {X : Cx} {pins : List (Addr × Obj)} {σ : L2.St} {H : Hp} {s : Shared}
mutual
theorem nested_of (I : Inv X pins σ H s) : ∀ (k : NestedKey) {v : V} {u : Value}, KRep X.K H k v → RelV v u → NestedIs s.heap k u
  | .num i, v, u, h, r => by
    simp only [KRep] at h
    subst h
    obtain ⟨t, rfl⟩ := r
    exact .int _ _
  | .tup ks, v, u, h, r => by
    simp only [KRep] at h
    obtain ⟨a, xs, rfl, hs, hk⟩ := h
    obtain rfl : u = Value.ref a := r
    obtain ⟨its, hv, ht, _⟩ := I.tuple hs
    obtain ⟨o, ho, hc, n, hd⟩ := ht
    exact .tup ho hc hd (nestedL_of I ks hk hv)
  | .none, _, _, h, _ => by simp [KRep] at h
  | .text _, _, _, h, _ => by simp [KRep] at h
theorem nestedL_of (I : Inv X pins σ H s) : ∀ (ks : List NestedKey) {xs : List V} {us : List Value}, KRepL X.K H ks xs → Vals xs us → NestedAll s.heap ks us
  | [], xs, us, h, r => by
    simp only [KRepL] at h
    subst h
    cases r
    exact .nil
  | k :: ks, xs, us, h, r => by
    simp only [KRepL] at h
    obtain ⟨y, ys, rfl, h1, h2⟩ := h
    cases r with
    | cons a b => exact .cons (nested_of I k h1 a) (nestedL_of I ks h2 b)
end
abbrev NXs := List (NestedKey × Addr × Value)
def NKs (K : PySem.W.Frag) (H : Hp) (xs : NXs) : Prop := ∀ x ∈ xs, numK x.1 = true ∧ x.1.depth ≤ 8 ∧ x.2.2 = .bool true ∧ KRep K H x.1 (.ref x.2.1)
theorem nd_dict (I : Inv X pins σ H s) {a : Addr} {w0 : World} {xs : NXs} (e : H a = some (ndO w0 a xs)) (hn : NKs X.K H xs) : (a == sysModules) = false ∧ s.heap.DictOfH (nestedKind X.prog X.w) a xs := by
  obtain ⟨⟨hs, o, es, ep, h1, h2, h3, h4, h5⟩, _, _⟩ := I.hok a _ e
  refine ⟨hs, o, es, ep, h1, h2, h3, ?_, fun x hx => ⟨nested_of I x.1 (hn x hx).2.2.2 rfl, (hn x hx).2.1⟩, h5⟩
  rw [h4]
  refine List.map_congr_left fun x hx => ?_
  show _ = (⟨x.1.hash X.w, .ref x.2.1, x.2.2⟩ : DictEntry)
  rw [hash_num w0 X.w x.1 (hn x hx).1]
theorem ndO_ok {P : Program} {w : World} {H : Hp} {h : Heap} {a : Addr} {xs : NXs} (hs : (a == sysModules) = false) (hd : h.DictOfH (nestedKind P w) a xs) : ObjOk P w H h a (ndO w a xs) := by
  obtain ⟨o, es, ep, h1, h2, h3, h4, _, h5⟩ := hd
  exact ⟨⟨hs, o, es, ep, h1, h2, h3, h4, h5⟩, ⟨o, h1⟩, fun _ _ ⟨z0, z1, z2, z3, z4, z5⟩ k => ⟨z0, z1, z2, z3, k _ z4, z5⟩⟩
/-- {} that is to be such a dict -/
theorem retellN (I : Inv X pins σ H s) {a : Addr} (e : H a = some (.dK [])) : Inv X pins σ (upd H a (ndO X.w a [])) s := by
  obtain ⟨_, hs, vs, hv, o, es, ep, h1, h2, h3, h4, h5, h6⟩ := I.hok a _ e
  cases hv
  have he : es.toList = [] := by
    cases q : es.toList with
    | nil => rfl
    | cons x l => rw [q] at h5; cases h5
  have ho := h1
  have J := I.write (t' := s.toks) (h' := s.heap) (x := a) (e := a) (o := ndO X.w a []) (by rw [e]; exact True.intro) (.inl rfl) (fun b u _ q => q) ⟨o, h1⟩ (ndO_ok hs ⟨o, es, ep, h1, h2, h3, he, (fun _ hx => nomatch hx), List.nodup_nil⟩)
  exact J
/-! ### d[k] = True -/
def rSetN (K : PySem.W.Frag) (w : World) : TSet := fun o i v H Q => ∃ (a b : Addr) (w0 : World) (xs : NXs) (k : NestedKey), o = .ref a ∧ i = .ref b ∧ v = .bl true ∧ H a = some (ndO w0 a xs) ∧ NKs K H xs ∧ numK k = true ∧ k.depth ≤ 8 ∧ KRep K H k (.ref b) ∧ xs.length ≤ 1000000 ∧ Q (upd H a (ndO w a (storedH xs k b (.bool true))))
theorem set_nd (hu : X.A.units + 65 < cLine) : PSet X (rSetN X.K X.w) := by
  intro pins s σ H o i v ov iv u Q I ro ri rv h
  obtain ⟨a, b, w0, xs, k, rfl, rfl, rfl, e, hn, hk, hdp, kr, hl, q⟩ := h
  obtain rfl : ov = Value.ref a := ro
  obtain rfl : iv = Value.ref b := ri
  obtain rfl : u = Value.bool true := rv
  obtain ⟨hs, hd⟩ := nd_dict I e hn
  refine wpAny_setItem_heap (knd := nestedKind X.prog X.w) (k := k) (hsz := by rw [sizeLine_eq]; omega) (by show X.A.in1.units + 8 < cLine; exact Nat.lt_of_le_of_lt (by show X.A.units + 1 + 8 ≤ X.A.units + 65; omega) hu) ⟨nested_of I k kr rfl, hdp⟩ hd fun h' hd' hb => ?_
  have hd2 := hd'
  obtain ⟨o', _, _, ho', _⟩ := hd2
  exact ⟨_, I.write (x := a) (e := a) (o := ndO X.w a (storedH xs k b (.bool true))) (by rw [e]; exact True.intro) (.inl rfl) (fun c u hc z => (hb.2 c hc).trans z) ⟨o', ho'⟩ (ndO_ok hs hd'), q⟩
/-! ### k in d, list(d) -/
def rInN (K : PySem.W.Frag) (neg : Bool) : R2 := fun x y H Q => ∃ (a b : Addr) (w0 : World) (xs : NXs) (k : NestedKey), y = .ref a ∧ x = .ref b ∧ H a = some (ndO w0 a xs) ∧ NKs K H xs ∧ k.depth ≤ 8 ∧ KRep K H k (.ref b) ∧ Q (.bl (neg != decide (k ∈ xs.map (·.1)))) H
theorem atKey_mem {xs : NXs} {k : NestedKey} : (atKey xs k).isSome = decide (k ∈ xs.map (·.1)) := by
  unfold atKey
  rw [Option.isSome_map, Bool.eq_iff_iff, List.find?_isSome, decide_eq_true_iff]
  constructor
  · rintro ⟨x, hx, e⟩
    exact List.mem_map.mpr ⟨x, hx, of_decide_eq_true e⟩
  · intro h
    obtain ⟨x, hx, e⟩ := List.mem_map.mp h
    exact ⟨x, hx, decide_eq_true e⟩
theorem op_inN (hu : X.A.units + 65 < cLine) : OpR X (compareOp .In) (rInN X.K false) := by
  intro pins s σ H x y v u Q I rx ry h
  obtain ⟨a, b, w0, xs, k, rfl, rfl, e, hn, hd, kr, q⟩ := h
  obtain rfl : v = Value.ref b := rx
  obtain rfl : u = Value.ref a := ry
  obtain ⟨hs, hm⟩ := nd_dict I e hn
  refine wpAny_in_heap (knd := nestedKind X.prog X.w) (k := k) (by show X.A.in1.units + 8 < cLine; exact Nat.lt_of_le_of_lt (by show X.A.units + 1 + 8 ≤ X.A.units + 65; omega) hu) ⟨nested_of I k kr rfl, hd⟩ hs hm ?_
  rw [atKey_mem]
  refine ⟨.bl _, H, I.kept (t' := _) fun _ _ z => z, rfl, ?_⟩
  simpa using q
theorem call_list_nd (hc : X.calm = true) : CallR X (.type "list") (fun xs H Q => ∃ (d : Addr) (w0 : World) (ks : NXs), xs = [V.ref d] ∧ H d = some (ndO w0 d ks) ∧ ks.length ≤ 1000000 ∧ ∀ p, H p = none → Q (.ref p) (upd H p (.lst (ks.map fun x => V.ref x.2.1)))) := by
  intro pins s σ H xs us Q I r h
  obtain ⟨d, w0, ks, rfl, hd, hlen, q⟩ := h
  obtain ⟨u, rfl, rx⟩ := r.one
  cases rx
  obtain ⟨⟨hs, o, es, ep, ho, hx, hdt, he, hn⟩, _, _⟩ := I.hok d _ hd
  have l1 : es.size = ks.length := by rw [← Array.length_toList, he, List.length_map]
  refine PySem.W.kdl_call (kdl_raw hs hx hdt) (I.ok.hd hc) ho (by rw [sizeLine_eq]; omega) fun h' tk acc' c' kp e it => ?_
  have ea : acc'.toList = (ks.map fun x => x.2.1).map Value.ref := by
    have hl : acc'.toList.length = ks.length := by rw [Array.length_toList, it.1]; exact l1
    apply List.ext_getElem?
    intro j
    rw [List.getElem?_map, List.getElem?_map]
    cases hj : acc'.toList[j]? with
    | none =>
      have h1 := List.getElem?_eq_none_iff.mp hj
      rw [List.getElem?_eq_none (by omega)]
      rfl
    | some v =>
      obtain ⟨en, hen, hv⟩ := it.2 j v (by rw [← Array.getElem?_toList]; exact hj)
      have qe : es[j]? = (ks[j]?).map (fun x => (⟨x.1.hash w0, .ref x.2.1, x.2.2⟩ : DictEntry)) := by rw [← Array.getElem?_toList, he, List.getElem?_map]
      rw [hen] at qe
      cases hb : ks[j]? with
      | none => rw [hb] at qe; exact nomatch qe
      | some b =>
        rw [hb] at qe
        have e2 := Option.some.inj qe
        rw [hv, e2]
        rfl
  have rv : Vals (ks.map fun x => V.ref x.2.1) acc'.toList := by
    have := vals_refs (ks.map fun x => x.2.1)
    rw [ea]
    rw [List.map_map] at this
    exact this
  refine ⟨.ref s.heap.objs.size, _, I.laid (t' := tk) (o := .lst (ks.map fun x => V.ref x.2.1)) kp (Nat.le_refl _) ?_, rfl, q _ (I.hok.fresh (Nat.le_refl _))⟩
  exact ⟨by rw [List.length_map, sizeLine_eq]; omega, acc'.toList, c', rv, by rw [Array.toArray_toList]; exact e⟩
end
end DL

/-! DL28: a dict whose keys are nested tuples of numbers: meanings and rules; >= of numbers and pairs. -/
namespace DL
open PySem PySem.Spec PyProof.Rows L2
mutual
def toK : D → Option NestedKey
  | .int i => some (.num i)
  | .tup l => match toKL l with
    | some ks => some (.tup ks)
    | none => none
  | _ => none
def toKL : List D → Option (List NestedKey)
  | [] => some []
  | d :: ds => match toK d, toKL ds with
    | some k, some ks => some (k :: ks)
    | _, _ => none
end
mutual
theorem toK_eq : ∀ (d : D) {k : NestedKey}, toK d = some k → d = dOf k ∧ numK k = true
  | .int i, k, h => by simp only [toK, Option.some.injEq] at h; subst h; exact ⟨by simp only [dOf], by simp only [numK]⟩
  | .tup l, k, h => by
    simp only [toK] at h
    cases e : toKL l with
    | none => rw [e] at h; cases h
    | some ks =>
      rw [e] at h
      obtain ⟨a, b⟩ := toKL_eq l e
      simp only [Option.some.injEq] at h
      subst h
      exact ⟨by simp only [dOf]; rw [a], by simp only [numK]; exact b⟩
  | .non, k, h => by simp [toK] at h
  | .bl _, k, h => by simp [toK] at h
  | .str _, k, h => by simp [toK] at h
  | .ty _, k, h => by simp [toK] at h
  | .ref _, k, h => by simp [toK] at h
  | .lst _, k, h => by simp [toK] at h
  | .rl _, k, h => by simp [toK] at h
  | .dk _, k, h => by simp [toK] at h
  | .cell _, k, h => by simp [toK] at h
  | .exn _, k, h => by simp [toK] at h
  | .exf _ _ _, k, h => by simp [toK] at h
theorem toKL_eq : ∀ (l : List D) {ks : List NestedKey}, toKL l = some ks → l = dOfL ks ∧ numL ks = true
  | [], ks, h => by simp only [toKL, Option.some.injEq] at h; subst h; exact ⟨by simp only [dOfL], by simp only [numL]⟩
  | d :: ds, ks, h => by
    simp only [toKL] at h
    cases e1 : toK d with
    | none => rw [e1] at h; cases h
    | some k =>
      cases e2 : toKL ds with
      | none => rw [e1, e2] at h; cases h
      | some ks' =>
        rw [e1, e2] at h
        simp only [Option.some.injEq] at h
        subst h
        obtain ⟨a, b⟩ := toK_eq d e1
        obtain ⟨a', b'⟩ := toKL_eq ds e2
        exact ⟨by simp only [dOfL]; rw [← a, ← a'], by simp only [numL]; rw [b, b']; rfl⟩
end
/-- a key that is a tuple, not too deep -/
def keyN (d : D) : Option NestedKey := match d with
  | .tup _ => match toK d with
    | some k => if k.depth ≤ 8 then some k else none
    | none => none
  | _ => none
theorem keyN_eq {d : D} {k : NestedKey} (h : keyN d = some k) : d = dOf k ∧ numK k = true ∧ k.depth ≤ 8 := by
  unfold keyN at h
  split at h
  · split at h
    · rename_i e
      split at h
      · cases h
        obtain ⟨a, b⟩ := toK_eq _ e
        exact ⟨a, b, by assumption⟩
      · cases h
    · cases h
  · cases h
def storeK (ks : List NestedKey) (k : NestedKey) : List NestedKey := if k ∈ ks then ks else ks ++ [k]
theorem stored_keys {xs : NXs} {k : NestedKey} {b : Addr} {v : Value} : (storedH xs k b v).map (·.1) = storeK (xs.map (·.1)) k := by
  unfold storedH storeK
  rw [atKey_mem]
  by_cases h : k ∈ xs.map (·.1)
  · rw [if_pos (decide_eq_true h), if_pos h, List.map_map]
    refine List.map_congr_left fun x _ => ?_
    show (putAt k v x).1 = x.1
    unfold putAt
    split <;> rfl
  · rw [if_neg (by rw [decide_eq_false h]; exact Bool.false_ne_true), if_neg h, List.map_append]
    rfl
theorem stored_mem {xs : NXs} {k : NestedKey} {b : Addr} {v : Value} (hv : ∀ x ∈ xs, x.2.2 = v) {y : NestedKey × Addr × Value} (h : y ∈ storedH xs k b v) : y ∈ xs ∨ y = (k, b, v) := by
  unfold storedH at h
  split at h
  · obtain ⟨x, hx, e⟩ := List.mem_map.mp h
    unfold putAt at e
    split at e
    · subst e
      left
      have := hv x hx
      rw [← this]
      exact hx
    · subst e; exact .inl hx
  · rcases List.mem_append.mp h with h | h
    · exact .inl h
    · exact .inr (List.mem_singleton.mp h)
section
variable {K : PySem.W.Frag} {F H : Hp} {io : List Addr} {mu : Mu}
/-- such a cell, read -/
theorem Mem.ndR {n m : Nat} {ks : List NestedKey} {v : V} (M : Mem K F io H mu) (r : Rep K F io v (.cell n)) (e : mu[n]? = some (.nd m ks)) (hm : m = n) : ∃ (a : Addr) (w : World) (xs : NXs), v = .ref a ∧ io[n]? = some a ∧ H a = some (ndO w a xs) ∧ xs.map (·.1) = ks ∧
    (∀ x ∈ xs, numK x.1 = true ∧ x.1.depth ≤ 8 ∧ x.2.2 = .bool true ∧ Rep K F io (.ref x.2.1) (dOf x.1)) ∧ NKs K H xs := by
  subst hm
  cases r with
  | cell h =>
    rcases M.cel m _ _ h e with z | ⟨_, o, ho, a, w, xs, h1, h2, h3, h4⟩
    · cases z
    · rw [h] at h1
      cases h1
      subst h2
      exact ⟨_, w, xs, rfl, h, ho, h3, h4, fun x hx => ⟨(h4 x hx).1, (h4 x hx).2.1, (h4 x hx).2.2.1, krep_of M.le x.1 (h4 x hx).1 (h4 x hx).2.2.2⟩⟩
end
section
variable {X : Cx} {W : WX}
def mNewN : DenE := fun _ mu => .ok (.cell mu.length) (mu ++ [.nd mu.length []])
theorem pe_newN {pos : Pos} : PE X (.Dict [] [] pos) (fun σ H Q => ∀ a, H a = none → Q (.ref a) (upd H a (ndO X.w a []))) := ⟨fun pins s σ H Q I h =>
  thn ((pe_dnewK (X := X) (pos := pos)).run pins s σ H (fun v H1 => ∃ a, v = .ref a ∧ H a = none ∧ H1 = upd H a (.dK [])) I (fun a ha => ⟨a, rfl, ha, rfl⟩)) fun u s1 ⟨v, H1, I1, r1, a, ev, ha, eH⟩ => by
    subst ev
    subst eH
    have J := retellN I1 (a := a) upd_same
    rw [upd_upd] at J
    exact ⟨.ref a, _, J, r1, h a ha⟩⟩
theorem de_newN {pos : Pos} : DE X W (.Dict [] [] pos) mNewN := pe_newN.imp fun σ H Q ⟨F, io, env, mu, M, R, h⟩ p hp => by
  have M1 : Mem X.K F (io ++ [p]) (upd H p (.dK [])) (mu ++ [.dk []]) := M.newC hp ⟨[], rfl, .nil⟩
  have hn : (io ++ [p])[mu.length]? = some p := M.lenR
  have M2 := M1.setC (o := ndO X.w p []) (n := mu.length) (c := .nd mu.length []) (c0 := .dk []) hn (by rw [List.getElem?_append_right (Nat.le_refl _), Nat.sub_self]; rfl) nofun ⟨p, X.w, [], hn, rfl, rfl, fun _ hx => nomatch hx⟩
  rw [upd_upd, List.set_append_right _ _ (Nat.le_refl _), Nat.sub_self] at M2
  exact h F (io ++ [p]) _ _ (M.stepC hp) M2 (.cell hn)
/-! ### d[k] = True -/
def gSetN (mu : Mu) (o i v : D) : Option Mu := match o, v with
  | .cell n, .bl true => match mu[n]? with
    | some (.nd m ks) => match keyN i with
      | some k => if m = n ∧ lim ks.length = true then some (mu.set n (.nd n (storeK ks k))) else none
      | none => none
    | _ => none
  | _, _ => none
def mSetN (mv mo mi : DenE) : DenS := fun env mu => (mv env mu).andS env fun v m1 => (mo env m1).andS env fun o m2 => (mi env m2).andS env fun i m3 => match gSetN m3 o i v with
  | some m4 => .nx env m4
  | none => .stuck
theorem lim_le {n : Nat} (h : lim n = true) : n ≤ 1000000 := of_decide_eq_true h
theorem ref_of_tup {K : PySem.W.Frag} {F : Hp} {io : List Addr} {v : V} {i : D} {k : NestedKey} (r : Rep K F io v i) (h : keyN i = some k) : ∃ b, v = .ref b := by
  unfold keyN at h
  split at h
  · cases r with
    | tup _ _ => exact ⟨_, rfl⟩
  · cases h
theorem ds_subN {o i value : Expr} {mo mi mv : DenE} {pos p : Pos} (hu : X.A.units + 65 < cLine) (ho : DE X W o mo) (hi : DE X W i mi) (hv : DE X W value mv)
    (hs : swapsWithSole [.Subscript o i p] value pos.line X.env = pure false := by rfl) (hw : swappedStores [.Subscript o i p] value X.env = pure none := by rfl)
    (h1 : (assignEach [.Subscript o i p] X.env).map (·.2) = [assign (.Subscript o i p) X.env] := by rfl)
    (ha : ∀ v, assign (.Subscript o i p) X.env v = (do
      let ov ← holding [v] (eval o X.env)
      let iv ← holding [v, ov] (eval i X.env)
      standAt p
      holding [v, ov, iv] (setItem ov iv v)
      release [v, ov, iv] []) := by intro _; rfl) : DS X W (.Assign [.Subscript o i p] value pos) (mSetN mv mo mi) :=
  (ps_asg hv (pg_sub ho hi (set_nd hu) ha) hs hw h1).imp fun D σ H ⟨F, io, env, mu, M, R, h⟩ =>
    ⟨F, io, env, mu, M, R, (SatS.andS R h).imp fun v H1 ⟨F1, j1, m1, dv, s1, M1, r1, h1⟩ =>
      ⟨F1, j1, env, m1, M1, R.step s1, (SatS.andS (R.step s1) h1).imp fun o H2 ⟨F2, j2, m2, dO, s2, M2, r2, h2⟩ =>
        ⟨F2, j2, env, m2, M2, (R.step s1).step s2, (SatS.andS ((R.step s1).step s2) h2).imp fun i H3 ⟨F3, j3, m3, di, s3, M3, r3, h3⟩ => by
          have rv := r1.mono (s2.trans s3).le (s2.trans s3).pre
          have ro := r2.mono s3.le s3.pre
          have R3 := ((R.step s1).step s2).step s3
          have h3 : SatS X.K F3 j3 H3 W (match gSetN m3 dO di dv with
            | some m4 => .nx env m4
            | none => .stuck) D := h3
          cases e : gSetN m3 dO di dv with
          | none => rw [e] at h3; exact h3.elim
          | some m4 =>
            rw [e] at h3
            unfold gSetN at e
            split at e
            · rename_i n
              split at e
              · rename_i m ks el
                split at e
                · rename_i k ek
                  split at e
                  · rename_i hl
                    cases e
                    obtain ⟨a, w0, xs, rfl, hn, ha, hk, hx, hN⟩ := M3.ndR ro el hl.1
                    obtain ⟨ed, nk, dk⟩ := keyN_eq ek
                    obtain ⟨b, rfl⟩ := ref_of_tup r3 ek
                    obtain rfl := rv.bl_inv
                    have rk : Rep X.K F3 j3 (.ref b) (dOf k) := by rw [← ed]; exact r3
                    have hlen : xs.length ≤ 1000000 := by
                      have := lim_le hl.2
                      rw [← hk, List.length_map] at this
                      exact this
                    refine ⟨a, b, w0, xs, k, rfl, rfl, rfl, ha, hN, nk, dk, krep_of M3.le k nk rk, hlen, ?_⟩
                    refine h3 F3 j3 _ σ (Mem.stepW hn) (M3.setC hn el nofun ⟨a, X.w, _, hn, rfl, by rw [stored_keys, hk], fun y hy => ?_⟩) R3
                    rcases stored_mem (fun x hx' => (hx x hx').2.2.1) hy with hy | rfl
                    · exact hx y hy
                    · exact ⟨nk, dk, rfl, rk⟩
                  · cases e
                · cases e
              · cases e
            · cases e⟩⟩⟩
/-! ### k in d -/
def gInN (neg : Bool) (mu : Mu) (x y : D) : ORes D := match y with
  | .cell n => match mu[n]? with
    | some (.nd m ks) => match keyN x with
      | some k => if m = n then some (.bl (neg != decide (k ∈ ks)), mu) else none
      | none => none
    | _ => none
  | _ => none
theorem og_inN {K : PySem.W.Frag} (neg : Bool) : OpD K (rInN K neg) (gInN neg) := fun F io H mu x y dx dy Q M rx ry h => by
  unfold gInN at h
  split at h
  · rename_i n
    split at h
    · rename_i m ks el
      split at h
      · rename_i k ek
        split at h
        · rename_i hm
          obtain ⟨a, w0, xs, rfl, hn, ha, hk, hx, hN⟩ := M.ndR ry el hm
          obtain ⟨ed, nk, dk⟩ := keyN_eq ek
          obtain ⟨b, rfl⟩ := ref_of_tup rx ek
          refine ⟨a, b, w0, xs, k, rfl, rfl, ha, hN, dk, krep_of M.le k nk (by rw [← ed]; exact rx), ?_⟩
          rw [hk]
          exact satO_some h M .bl
        · exact h.elim
      · exact h.elim
    · exact h.elim
  · exact h.elim
/-! ### list(d) -/
def gListN (mu : Mu) (ds : List D) : ORes D := match ds with
  | [.cell n] => match mu[n]? with
    | some (.nd m ks) => if m = n ∧ lim ks.length = true then some (.lst (ks.map dOf), mu) else none
    | _ => none
  | _ => none
theorem cg_listN {K : PySem.W.Frag} : CallD K (fun xs H Q => ∃ (d : Addr) (w0 : World) (ks : NXs), xs = [V.ref d] ∧ H d = some (ndO w0 d ks) ∧ ks.length ≤ 1000000 ∧ ∀ p, H p = none → Q (.ref p) (upd H p (.lst (ks.map fun x => V.ref x.2.1)))) gListN := fun F io H mu vs ds Q M r h => by
  unfold gListN at h
  split at h
  · rename_i n
    obtain ⟨v, rfl, rx⟩ := r.one_inv
    split at h
    · rename_i m ks el
      split at h
      · rename_i hm
        obtain ⟨a, w0, xs, rfl, hn, ha, hk, hx, hN⟩ := M.ndR rx el hm.1
        have hlen : xs.length ≤ 1000000 := by
          have := lim_le hm.2
          rw [← hk, List.length_map] at this
          exact this
        have rl : RepL K F io (xs.map fun x => V.ref x.2.1) (ks.map dOf) := by
          rw [← hk]
          clear h el hN ha hn hk hlen
          induction xs with
          | nil => exact .nil
          | cons x xs ih => exact .cons (hx x List.mem_cons_self).2.2.2 (ih fun y hy => hx y (List.mem_cons_of_mem _ hy))
        refine ⟨a, w0, xs, rfl, ha, hlen, fun p hp => ?_⟩
        exact h _ io _ _ (M.stepF hp) (M.newF hp) (.lst upd_same (rl.mono (Le.put (M.fresh hp)) Pre.rfl))
      · exact h.elim
    · exact h.elim
  · exact h.elim
end
end DL

/-! DL29: >= of two numbers or two pairs of numbers. -/
namespace DL
open PySem PySem.Spec PyProof.Rows L2
def rGeT (K : PySem.W.Frag) : R2 := fun x y H Q => ∃ (a b : Addr) (ns ms : List Int), x = .ref a ∧ y = .ref b ∧ SqT K H a (ns.map V.int) ∧ SqT K H b (ms.map V.int) ∧
  Q (.bl (Ob.lexAt (fun j => decide (ns.getD j 0 = ms.getD j 0)) (fun j => decide (ms.getD j 0 ≤ ns.getD j 0)) (decide (ns.length ≥ ms.length)) 0 (min ns.length ms.length))) H
theorem op_geT {X : Cx} (hu : X.A.units < cLine) : OpR X (compareOp .GtE) (rGeT X.K) := by
  intro pins s σ H x y v u Q I rx ry h
  obtain ⟨a, b, ns, ms, rfl, rfl, ha, hb, q⟩ := h
  cases rx
  cases ry
  obtain ⟨its, r1, p1, _⟩ := I.tuple ha
  obtain ⟨its2, r2, p2, _⟩ := I.tuple hb
  have i1 : IntsAre its ns := Vals.ints r1
  have i2 : IntsAre its2 ms := Vals.ints r2
  have e1 : its.toArray.size = ns.length := by rw [List.size_toArray]; exact i1.length
  have e2 : its2.toArray.size = ms.length := by rw [List.size_toArray]; exact i2.length
  have at1 : ∀ j (h1 : j < its.toArray.size), ∃ t, its.toArray[j] = .int (ns.getD j 0) t := fun j h1 => PyProof.Rows.IntsAre.int_at i1 _ _ (by simp at h1; simp [h1])
  have at2 : ∀ j (h1 : j < its2.toArray.size), ∃ t, its2.toArray[j] = .int (ms.getD j 0) t := fun j h1 => PyProof.Rows.IntsAre.int_at i2 _ _ (by simp at h1; simp [h1])
  have R := Ob.RcOp.tuples_ge (A := X.A) (s := s) (e := fun j => decide (ns.getD j 0 = ms.getD j 0)) (r := fun j => decide (ms.getD j 0 ≤ ns.getD j 0)) p1 p2 hu (fun j h1 h2 => by
    obtain ⟨t, et⟩ := at1 j h1
    obtain ⟨t', et'⟩ := at2 j h2
    rw [et, et']
    have z : (ns.getD j 0 == ms.getD j 0) = decide (ns.getD j 0 = ms.getD j 0) := by
      by_cases q : ns.getD j 0 = ms.getD j 0
      · rw [decide_eq_true q]; exact beq_iff_eq.mpr q
      · rw [decide_eq_false q]; exact beq_eq_false_iff_ne.mpr q
    rw [← z]
    exact SeqAt.EqAt.int_int _ _ _ _) (fun j h1 h2 _ => by
    obtain ⟨t, et⟩ := at1 j h1
    obtain ⟨t', et'⟩ := at2 j h2
    rw [et, et']
    exact Ob.RcOp.ge_int _ _ _ _)
  rw [e1, e2] at R
  have z : wpAny (model X.prog X.w) X.A (compareOp .GtE (.ref a) (.ref b)) (EP X pins σ Q) X.xe s := R X.prog X.w X.xe (EP X pins σ Q) ⟨.bl _, H, I, rfl, q⟩
  exact z
def rGeP (K : PySem.W.Frag) : R2 := fun x y H Q => rI0 (fun i j => .bl (decide (j ≤ i))) x y H Q ∨ rGeT K x y H Q
theorem op_geP {X : Cx} (hu : X.A.units < cLine) : OpR X (compareOp .GtE) (rGeP X.K) := op_ge.or (op_geT hu)
def gGeP (mu : Mu) (x y : D) : ORes D := match x, y with
  | .int i, .int j => some (.bl (decide (j ≤ i)), mu)
  | .tup [.int a, .int b], .tup [.int c, .int d] => some (.bl (if a = c then decide (d ≤ b) else decide (c ≤ a)), mu)
  | _, _ => none
theorem ints2 {K : PySem.W.Frag} {F : Hp} {io : List Addr} {v : V} {a b : Int} (r : Rep K F io v (.tup [.int a, .int b])) : ∃ p, v = .ref p ∧ SqT K F p ([a, b].map V.int) := by
  cases r with
  | tup h rl =>
    obtain ⟨x, y, rfl, r1, r2⟩ := rl.two_inv
    obtain rfl := r1.int_inv
    obtain rfl := r2.int_inv
    exact ⟨_, rfl, h⟩
theorem og_geP {K : PySem.W.Frag} : OpD K (rGeP K) gGeP := fun F io H mu x y dx dy Q M rx ry h => by
  unfold gGeP at h
  split at h
  · exact .inl ⟨_, _, rx.int_inv, ry.int_inv, satO_some h M .bl⟩
  · rename_i a b c d
    obtain ⟨p, rfl, h1⟩ := ints2 rx
    obtain ⟨q, rfl, h2⟩ := ints2 ry
    refine .inr ⟨p, q, [a, b], [c, d], rfl, rfl, M.le.sqt h1, M.le.sqt h2, ?_⟩
    have e : Ob.lexAt (fun j => decide (([a, b] : List Int).getD j 0 = ([c, d] : List Int).getD j 0)) (fun j => decide (([c, d] : List Int).getD j 0 ≤ ([a, b] : List Int).getD j 0)) (decide (([a, b] : List Int).length ≥ ([c, d] : List Int).length)) 0 (min ([a, b] : List Int).length ([c, d] : List Int).length) = (if a = c then decide (d ≤ b) else decide (c ≤ a)) := by
      show Ob.lexAt _ _ _ 0 2 = _
      rw [Ob.lexAt_succ, Ob.lexAt_succ, Ob.lexAt_zero]
      show (if decide (a = c) = true then (if decide (b = d) = true then decide (2 ≥ 2) else decide (d ≤ b)) else decide (c ≤ a)) = _
      by_cases h1 : a = c
      · rw [if_pos (decide_eq_true h1), if_pos h1]
        by_cases h2 : b = d
        · rw [if_pos (decide_eq_true h2)]
          subst h2
          rw [decide_eq_true (Int.le_refl b)]
          rfl
        · rw [if_neg (by rw [decide_eq_false h2]; exact Bool.false_ne_true)]
      · rw [if_neg (by rw [decide_eq_false h1]; exact Bool.false_ne_true), if_neg h1]
    rw [e]
    exact satO_some h M .bl
  · exact h.elim
/-! ### list(range(n)) -/
def mLstRg (ma : DenE) : DenE := fun env mu => (ma env mu).bind fun d m => match d with
  | .int n => if 0 ≤ n ∧ n ≤ 1000000 then .ok (.lst (rangeD n)) m else .stuck
  | _ => .stuck
theorem rgV_rep {K : PySem.W.Frag} {F : Hp} {io : List Addr} {n : Int} : RepL K F io (rgV 0 n) (rangeD n) := by
  have e1 : rgV 0 n = (((List.range n.toNat).map fun i => ((i : Nat) : Int))).map V.int := by
    unfold rgV
    rw [List.map_map, Int.sub_zero]
    refine List.map_congr_left fun i _ => ?_
    show V.int (0 + (i : Int)) = V.int (i : Int)
    rw [Int.zero_add]
  have e2 : rangeD n = (((List.range n.toNat).map fun i => ((i : Nat) : Int))).map D.int := by
    unfold rangeD
    rw [List.map_map]
    rfl
  rw [e1, e2]
  exact repL_ints _
theorem de_lstRg {X : Cx} {W : WX} {e : Expr} {me : DenE} {p p2 pos pos2 : Pos} (hc : X.calm = true) (hg : Gl X "list") (hm : X.mg "list" = none) (hg2 : Gl X "range") (hm2 : X.mg "range" = none) (he : DE X W e me)
    (na : starEach [.Call (.Name "range" p2) [e] [] pos2] X.env = (false, eval (.Call (.Name "range" p2) [e] [] pos2) X.env) :: starEach [] X.env := by rfl) (nb : starEach [e] X.env = (false, eval e X.env) :: starEach [] X.env := by rfl) :
    DE X W (.Call (.Name "list" p) [.Call (.Name "range" p2) [e] [] pos2] [] pos) (mLstRg me) :=
  (pe_listRg hc hg hm (prg_1 hg2 hm2 he nb) na).imp fun σ H Q ⟨F, io, env, mu, M, R, h⟩ => ⟨F, io, env, mu, M, R, (Sat.bind h).imp fun x H1 ⟨F1, j1, m1, d, s1, M1, r1, h1⟩ => by
    cases d with
    | int n =>
      by_cases hn : 0 ≤ n ∧ n ≤ 1000000
      · simp only [if_pos hn] at h1
        refine ⟨n, r1.int_inv, RgOk.of_le (by decide) (by omega) (by decide) hn.1, fun q hq => ?_⟩
        exact h1 _ j1 _ (.ref q) (M1.stepF hq) (M1.newF hq) (.lst upd_same (rgV_rep.mono (Le.put (M1.fresh hq)) Pre.rfl))
      · simp only [if_neg hn] at h1; exact h1.elim
    | _ => exact h1.elim⟩
end DL

/-! law_k24_whole_five_amounts_of_small_items: what its defs mean, and the derivations. Printed by gen2.py. -/
namespace K24
open PySem L2 DL
noncomputable section
def top (i : Nat) : Stmt := PySem.Challenge.pw_anyitems_k24_whole_five_amounts_of_small.main.body.getD i (.Pass ⟨0, 0, 0, 0⟩)
structure Ad where
  BadAmounts : Addr
  exc : Addr → Bool
  isx : Value → Value → Option Bool
  ex_BadAmounts : exc BadAmounts = true
def tb (A : Ad) : List (Addr × Str) := []
def exT (A : Ad) : List (Addr × Bool) := [(A.BadAmounts, true)]
def c_WORDS : D := (.tup [(.str "every"), (.str "rows"), (.str "item"), (.str "most"), (.str "table")])
def c_ONE_BOX : D := (.tup [(.tup [(.tup [(.tup [(.str "rows"), (.int 1)])]), (.tup [(.tup [(.str "every"), (.int 1)])])]), (.tup [(.tup [(.tup [(.str "every"), (.int 1)])]), (.tup [(.tup [(.str "rows"), (.int 1)])])]), (.tup [(.tup [(.tup [(.str "item"), (.int 1)])]), (.tup [(.tup [(.str "most"), (.int 1)])])]), (.tup [(.tup [(.tup [(.str "most"), (.int 1)])]), (.tup [(.tup [(.str "item"), (.int 1)])])]), (.tup [(.tup [(.tup [(.str "table"), (.int 1)])]), (.tup [(.tup [(.str "most"), (.int 1)])])]), (.tup [(.tup [(.tup [(.str "most"), (.int 1)])]), (.tup [(.tup [(.str "table"), (.int 1)])])]), (.tup [(.tup [(.tup [(.str "most"), (.int 1)])]), (.tup [(.tup [(.str "every"), (.int 1)])])])])
def c_KIND_ONE : D := (.tup [(.tup [(.tup [(.tup [(.str "item"), (.int 1)])]), (.tup [(.tup [(.str "table"), (.int 1)])])]), (.tup [(.tup [(.tup [(.str "table"), (.int 1)])]), (.tup [(.tup [(.str "item"), (.int 1)])])]), (.tup [(.tup [(.tup [(.str "most"), (.int 1)])]), (.tup [(.tup [(.str "table"), (.int 1)])])]), (.tup [(.tup [(.tup [(.str "table"), (.int 1)])]), (.tup [(.tup [(.str "most"), (.int 2)])])]), (.tup [(.tup [(.tup [(.str "most"), (.int 1)])]), (.tup [(.tup [(.str "rows"), (.int 1)])])]), (.tup [(.tup [(.tup [(.str "rows"), (.int 1)]), (.tup [(.str "table"), (.int 1)])]), (.tup [(.tup [(.str "every"), (.int 1)]), (.tup [(.str "most"), (.int 1)])])]), (.tup [(.tup [(.tup [(.str "every"), (.int 1)]), (.tup [(.str "most"), (.int 2)])]), (.tup [(.tup [(.str "rows"), (.int 2)]), (.tup [(.str "table"), (.int 1)])])])])
def c_KIND_TWO : D := (.tup [(.tup [(.tup [(.tup [(.str "most"), (.int 1)])]), (.tup [(.tup [(.str "item"), (.int 1)])])]), (.tup [(.tup [(.tup [(.str "item"), (.int 1)])]), (.tup [(.tup [(.str "table"), (.int 1)])])]), (.tup [(.tup [(.tup [(.str "table"), (.int 1)])]), (.tup [(.tup [(.str "most"), (.int 2)])])]), (.tup [(.tup [(.tup [(.str "table"), (.int 1)])]), (.tup [(.tup [(.str "rows"), (.int 1)])])]), (.tup [(.tup [(.tup [(.str "item"), (.int 1)]), (.tup [(.str "rows"), (.int 1)])]), (.tup [(.tup [(.str "every"), (.int 1)]), (.tup [(.str "most"), (.int 1)])])]), (.tup [(.tup [(.tup [(.str "every"), (.int 1)]), (.tup [(.str "most"), (.int 2)])]), (.tup [(.tup [(.str "item"), (.int 1)]), (.tup [(.str "rows"), (.int 2)])])]), (.tup [(.tup [(.tup [(.str "every"), (.int 1)]), (.tup [(.str "table"), (.int 2)])]), (.tup [(.tup [(.str "item"), (.int 2)]), (.tup [(.str "rows"), (.int 2)])])])])
abbrev s__law_begin : Stmt := top 22
abbrev N__law_begin : List Str := ["_law_script", "_law_great", "_law_cell"]
def q__law_begin_1 (A : Ad) : DenE := mLc true (mSeqI (mVar 0)) (mGName 2) (mTest (mOp gGe (mCall (g1I fun i => if i < 0 then -i else i) (mCons (mVar 2) mNil)) (mOp gPow (mC (.int 10)) (mC (.int 18))))) (mOp gSub (mCall (g1I fun i => if i < 0 then -i else i) (mCons (mVar 2) mNil)) (mOp gPow (mC (.int 10)) (mC (.int 18)))) [2]
def q__law_begin_2 (A : Ad) : DenE := mLc false (mSeqI (mVar 0)) (mGName 2) mYes (mCall (g1I fun i => if i < 0 then -i else i) (mCons (mVar 2) mNil)) [2]
def m__law_begin (A : Ad) : DenS :=
  (mSeq (mAsg (q__law_begin_1 A) (mGName 1))
  (mRet (mDisp [((mC (.str "great")), (mVar 1)), ((mC (.str "rest")), (mC (.int 0))), ((mC (.str "cells")), (q__law_begin_2 A)), ((mC (.str "turn")), (mC (.int 0)))])))
def d__law_begin (A : Ad) : List D → Mu → Res D := denF N__law_begin (m__law_begin A)
abbrev s__law_small_lists : Stmt := top 29
abbrev N__law_small_lists : List Str := ["_law_top", "_law_size", "_law_is_wide", "_law_parts", "_law_found", "_law_layer", "_law_k", "_law_j", "_law_later", "_law_some", "_law_part"]
def q__law_small_lists_1 (A : Ad) : DenE := mLc false (mRange1 (mCons (mOp (gAdd false) (mVar 0) (mC (.int 1))) mNil)) (mGName 7) mYes (mTup (mCons (mVar 6) (mCons (mVar 7) mNil))) [7]
def b__law_small_lists_2 (A : Ad) : DenS :=
  (mAsg (mOp (gAdd false) (mVar 3) (q__law_small_lists_1 A)) (mGName 3))
def q__law_small_lists_3 (A : Ad) : DenE := mLc false (mSeqI (mVar 3)) (mGName 10) (mTOr (mTest (mOp (gEq false) (mVar 9) (mLst false mNil))) (mTest (mOp gGeP (mVar 10) (mOp gIx (mOp gIx (mVar 9) (mUn gNeg (mC (.int 1)))) (mC (.int 1)))))) (mOp (gAdd false) (mVar 9) (mLst false (mCons (mTup (mCons (mC (.int 1)) (mCons (mVar 10) mNil))) mNil))) [10]
def b__law_small_lists_4 (A : Ad) : DenS :=
  (mAsg (mOp (gAdd false) (mVar 8) (q__law_small_lists_3 A)) (mGName 8))
def b__law_small_lists_5 (A : Ad) : DenS :=
  (mSeq (mAsg (mLst false mNil) (mGName 8))
  (mSeq (mFor (mSeqI (mVar 5)) (mGName 9)
  (b__law_small_lists_4 A))
  (mPar 4 5 (mCons (mOp (gAdd false) (mVar 4) (mVar 8)) (mCons (mVar 8) mNil)))))
def m__law_small_lists (A : Ad) : DenS :=
  (mSeq (mPar3 3 4 5 (mCons (mLstRg (mOp (gAdd false) (mVar 0) (mC (.int 1)))) (mCons (mLst false (mCons (mLst false mNil) mNil)) (mCons (mLst false (mCons (mLst false mNil) mNil)) mNil))))
  (mSeq (mIfS (mTest (mVar 2))
  (mSeq (mAsg (mLst false mNil) (mGName 3))
  (mFor (mRange1 (mCons (mOp (gAdd false) (mVar 0) (mC (.int 1))) mNil)) (mGName 6)
  (b__law_small_lists_2 A)))
  mSkip)
  (mSeq (mFor (mRange1 (mCons (mVar 1) mNil)) (mGName 6)
  (b__law_small_lists_5 A))
  (mRet (mVar 4)))))
def d__law_small_lists (A : Ad) : List D → Mu → Res D := denF N__law_small_lists (m__law_small_lists A)
abbrev s__law_blend : Stmt := top 23
abbrev N__law_blend : List Str := ["_law_draw", "_law_turn", "_law_found", "_law_prime", "_law_blend_here", "_law_cell"]
def b__law_blend_1 (A : Ad) : DenS :=
  (mAsg (mOp gMod (mCall gInt (mCons (mOp (gAdd false) (mOp (gMul false) (mVar 4) (mC (.int 48271))) (mVar 5)) mNil)) (mVar 3)) (mGName 4))
def b__law_blend_2 (A : Ad) : DenS :=
  (mSeq (mAsg (mOp gMod (mCall gInt (mCons (mOp (gAdd false) (mOp (gMul false) (mVar 1) (mC (.int 69621))) (mOp gFdiv (mVar 3) (mC (.int 7)))) mNil)) (mVar 3)) (mGName 4))
  (mSeq (mFor (mSeqI (mOp gIx (mVar 0) (mC (.str "cells")))) (mGName 5)
  (b__law_blend_1 A))
  (mAsg (mOp (gAdd false) (mOp (gMul false) (mVar 2) (mC (.int 2147483647))) (mOp gMod (mCall gInt (mCons (mOp gPow (mVar 4) (mC (.int 5))) mNil)) (mVar 3))) (mGName 2))))
def m__law_blend (A : Ad) : DenS :=
  (mSeq (mAsg (mOp (gAdd false) (mOp gIx (mVar 0) (mC (.str "turn"))) (mC (.int 1))) (mGName 1))
  (mSeq (mSet (mVar 1) (mVar 0) (mC (.str "turn")))
  (mSeq (mAsg (mC (.int 0)) (mGName 2))
  (mSeq (mFor (mSeqI (mLst false (mCons (mC (.int 2147483629)) (mCons (mC (.int 2147483587)) (mCons (mC (.int 2147483579)) (mCons (mC (.int 2147483563)) mNil)))))) (mGName 3)
  (b__law_blend_2 A))
  (mRet (mVar 2))))))
def d__law_blend (A : Ad) : List D → Mu → Res D := denF N__law_blend (m__law_blend A)
abbrev s__law_take : Stmt := top 24
abbrev N__law_take : List Str := ["_law_draw", "_law_many", "_law_found"]
def m__law_take (A : Ad) : DenS :=
  (mSeq (mIfS (mTAnd (mTest (mOp (gEq false) (mOp gIx (mVar 0) (mC (.str "rest"))) (mC (.int 0)))) (mTest (mOp (gEq true) (mOp gIx (mVar 0) (mC (.str "great"))) (mLst false mNil))))
  (mSet (mMet isLst gPopAt (mOp gIx (mVar 0) (mC (.str "great"))) (mCons (mC (.int 0)) mNil)) (mVar 0) (mC (.str "rest")))
  mSkip)
  (mSeq (mIfS (mTest (mOp (gEq false) (mOp gIx (mVar 0) (mC (.str "rest"))) (mC (.int 0))))
  (mSet (mCallF 1 (d__law_blend A) (mCons (mVar 0) mNil)) (mVar 0) (mC (.str "rest")))
  mSkip)
  (mSeq (mAsg (mOp gMod (mCall gInt (mCons (mOp gIx (mVar 0) (mC (.str "rest"))) mNil)) (mVar 1)) (mGName 2))
  (mSeq (mSet (mOp gFdiv (mOp gIx (mVar 0) (mC (.str "rest"))) (mVar 1)) (mVar 0) (mC (.str "rest")))
  (mRet (mVar 2))))))
def d__law_take (A : Ad) : List D → Mu → Res D := denF N__law_take (m__law_take A)
abbrev s__law_mixed : Stmt := top 26
abbrev N__law_mixed : List Str := ["_law_draw", "_law_some", "_law_left", "_law_found"]
def m__law_mixed (A : Ad) : DenS :=
  (mSeq (mPar 2 3 (mCons (mCall (gList true) (mCons (mVar 1) mNil)) (mCons (mLst true mNil) mNil)))
  (mSeq (mWhile 1000000 (mTest (mOp (gEq true) (mVar 2) (mLst false mNil)))
  (mExpr (mMet isLst gAppend (mVar 3) (mCons (mMet isLst gPopAt (mVar 2) (mCons (mCallF 2 (d__law_take A) (mCons (mVar 0) (mCons (mCall gLen (mCons (mVar 2) mNil)) mNil))) mNil)) mNil))))
  (mFrz 3 (mRet (mVar 3)))))
def d__law_mixed (A : Ad) : List D → Mu → Res D := denF N__law_mixed (m__law_mixed A)
abbrev s_is_number : Stmt := top 4
abbrev N_is_number : List Str := ["thing"]
def m_is_number (A : Ad) : DenS :=
  (mRet (mAnd (mCall gIsi (mCons (mVar 0) (mCons (mC (.ty "int")) mNil))) (mNot (mCall gIsi (mCons (mVar 0) (mCons (mC (.ty "bool")) mNil))))))
def d_is_number (A : Ad) : List D → Mu → Res D := denF N_is_number (m_is_number A)
abbrev s_is_from_zero : Stmt := top 12
abbrev N_is_from_zero : List Str := ["thing"]
def m_is_from_zero (A : Ad) : DenS :=
  (mRet (mAnd (mCallF 1 (d_is_number A) (mCons (mVar 0) mNil)) (mOp gGe (mVar 0) (mC (.int 0)))))
def d_is_from_zero (A : Ad) : List D → Mu → Res D := denF N_is_from_zero (m_is_from_zero A)
abbrev s_need_told : Stmt := top 15
abbrev N_need_told : List Str := ["many", "told", "one"]
def q_need_told_1 (A : Ad) : DenE := mLc false (mSeqI (mVar 1)) (mGName 2) mYes (mCallF 1 (d_is_from_zero A) (mCons (mVar 2) mNil)) [2]
def m_need_told (A : Ad) : DenS :=
  (mSeq (mIfS (mTOr (mTNot (mTest (mCallF 1 (d_is_number A) (mCons (mVar 0) mNil)))) (mTNot (mTest (mChain gLe gLe (mC (.int 1)) (mVar 0) (mC (.int 2))))))
  (mRaise (.ref A.BadAmounts))
  mSkip)
  (mIfS (mTOr (mTNot (mTest (mCall gIsi (mCons (mVar 1) (mCons (mC (.ty "tuple")) mNil))))) (mTOr (mTest (mOp (gEq true) (mCall gLen (mCons (mVar 1) mNil)) (mC (.int 5)))) (mTNot (mTest (mCall (gBL fun l => l.all id) (mCons (q_need_told_1 A) mNil))))))
  (mRaise (.ref A.BadAmounts))
  mSkip))
def d_need_told (A : Ad) : List D → Mu → Res D := denF N_need_told (m_need_told A)
abbrev s_kind_words : Stmt := top 10
abbrev N_kind_words : List Str := ["many"]
def m_kind_words (A : Ad) : DenS :=
  (mRet (mIf (mTest (mOp (gEq false) (mVar 0) (mC (.int 1)))) (mTup (mCons (mC (.str "one")) mNil)) (mTup (mCons (mC (.str "one")) (mCons (mC (.str "two")) mNil)))))
def d_kind_words (A : Ad) : List D → Mu → Res D := denF N_kind_words (m_kind_words A)
abbrev s_worth_of : Stmt := top 13
abbrev N_worth_of : List Str := ["terms", "told", "word", "number"]
def q_worth_of_1 (A : Ad) : DenE := mLc false (mSeqI (mVar 0)) (mGTup 2 (mGCons (mGName 2) (mGCons (mGName 3) mGNil))) mYes (mOp (gMul false) (mVar 3) (mOp gIx (mVar 1) (mMetC c_WORDS gIndex (mCons (mVar 2) mNil)))) [2, 3]
def m_worth_of (A : Ad) : DenS :=
  (mRet (mCall (gIL fun ns => some (.int ns.sum)) (mCons (q_worth_of_1 A) mNil)))
def d_worth_of (A : Ad) : List D → Mu → Res D := denF N_worth_of (m_worth_of A)
abbrev s_list_facts : Stmt := top 11
abbrev N_list_facts : List Str := ["many", "kind"]
def m_list_facts (A : Ad) : DenS :=
  (mSeq (mIfS (mTest (mOp (gEq false) (mVar 0) (mC (.int 1))))
  (mRet (mC c_ONE_BOX))
  mSkip)
  (mRet (mIf (mTest (mOp (gEq false) (mVar 1) (mC (.str "one")))) (mC c_KIND_ONE) (mC c_KIND_TWO))))
def d_list_facts (A : Ad) : List D → Mu → Res D := denF N_list_facts (m_list_facts A)
abbrev s_keeps : Stmt := top 14
abbrev N_keeps : List Str := ["many", "kind", "told", "less", "more"]
def q_keeps_1 (A : Ad) : DenE := mLc false (mSeqI (mCallF 2 (d_list_facts A) (mCons (mVar 0) (mCons (mVar 1) mNil)))) (mGTup 2 (mGCons (mGName 3) (mGCons (mGName 4) mGNil))) mYes (mOp gLe (mCallF 2 (d_worth_of A) (mCons (mVar 3) (mCons (mVar 2) mNil))) (mCallF 2 (d_worth_of A) (mCons (mVar 4) (mCons (mVar 2) mNil)))) [3, 4]
def m_keeps (A : Ad) : DenS :=
  (mRet (mCall (gBL fun l => l.all id) (mCons (q_keeps_1 A) mNil)))
def d_keeps (A : Ad) : List D → Mu → Res D := denF N_keeps (m_keeps A)
abbrev s_kinds : Stmt := top 16
abbrev N_kinds : List Str := ["many", "told", "kind"]
def q_kinds_1 (A : Ad) : DenE := mLc false (mSeqI (mCallF 1 (d_kind_words A) (mCons (mVar 0) mNil))) (mGName 2) (mTest (mCallF 3 (d_keeps A) (mCons (mVar 0) (mCons (mVar 2) (mCons (mVar 1) mNil))))) (mVar 2) [2]
def m_kinds (A : Ad) : DenS :=
  (mSeq (mExpr (mCallF 2 (d_need_told A) (mCons (mVar 0) (mCons (mVar 1) mNil))))
  (mRet (q_kinds_1 A)))
def d_kinds (A : Ad) : List D → Mu → Res D := denF N_kinds (m_kinds A)
abbrev s_pairs_for_one : Stmt := top 18
abbrev N_pairs_for_one : List Str := ["told", "every", "rows", "item", "most", "table", "left", "lines"]
def m_pairs_for_one (A : Ad) : DenS :=
  (mSeq (mAsg (mVar 0) (mGTup 5 (mGCons (mGName 1) (mGCons (mGName 2) (mGCons (mGName 3) (mGCons (mGName 4) (mGCons (mGName 5) mGNil)))))))
  (mSeq (mPar 6 7 (mCons (mOp gSub (mVar 1) (mVar 5)) (mCons (mOp gSub (mVar 2) (mVar 4)) mNil)))
  (mRet (mLst false (mCons (mTup (mCons (mC (.int 1)) (mCons (mTup (mCons (mVar 4) (mCons (mOp gSub (mVar 5) (mVar 4)) mNil))) mNil))) (mCons (mTup (mCons (mOp gSub (mOp (gMul false) (mC (.int 2)) (mVar 7)) (mVar 6)) (mCons (mTup (mCons (mC (.int 1)) (mCons (mC (.int 0)) mNil))) mNil))) (mCons (mTup (mCons (mOp gSub (mVar 6) (mVar 7)) (mCons (mTup (mCons (mC (.int 1)) (mCons (mC (.int 1)) mNil))) mNil))) mNil)))))))
def d_pairs_for_one (A : Ad) : List D → Mu → Res D := denF N_pairs_for_one (m_pairs_for_one A)
abbrev s_pairs_for_two : Stmt := top 19
abbrev N_pairs_for_two : List Str := ["told", "every", "rows", "item", "most", "table", "second", "first", "left", "lines"]
def m_pairs_for_two (A : Ad) : DenS :=
  (mSeq (mAsg (mVar 0) (mGTup 5 (mGCons (mGName 1) (mGCons (mGName 2) (mGCons (mGName 3) (mGCons (mGName 4) (mGCons (mGName 5) mGNil)))))))
  (mSeq (mAsg (mOp gSub (mVar 5) (mVar 4)) (mGName 6))
  (mSeq (mAsg (mCall gMax (mCons (mLst false (mCons (mC (.int 0)) (mCons (mOp (gAdd false) (mOp gSub (mOp gSub (mOp gSub (mVar 1) (mVar 3)) (mVar 6)) (mOp (gMul false) (mC (.int 2)) (mVar 2))) (mOp (gMul false) (mC (.int 2)) (mVar 5))) mNil))) mNil)) (mGName 7))
  (mSeq (mPar 8 9 (mCons (mOp gSub (mOp gSub (mOp gSub (mVar 1) (mVar 3)) (mVar 6)) (mVar 7)) (mCons (mOp gSub (mVar 2) (mVar 5)) mNil)))
  (mRet (mLst false (mCons (mTup (mCons (mC (.int 1)) (mCons (mTup (mCons (mVar 4) (mCons (mOp gSub (mVar 3) (mVar 4)) mNil))) mNil))) (mCons (mTup (mCons (mC (.int 1)) (mCons (mTup (mCons (mVar 7) (mCons (mVar 6) mNil))) mNil))) (mCons (mTup (mCons (mOp gSub (mOp (gMul false) (mC (.int 2)) (mVar 9)) (mVar 8)) (mCons (mTup (mCons (mC (.int 1)) (mCons (mC (.int 0)) mNil))) mNil))) (mCons (mTup (mCons (mOp gSub (mVar 8) (mVar 9)) (mCons (mTup (mCons (mC (.int 1)) (mCons (mC (.int 1)) mNil))) mNil))) mNil))))))))))
def d_pairs_for_two (A : Ad) : List D → Mu → Res D := denF N_pairs_for_two (m_pairs_for_two A)
abbrev s_numbers_for : Stmt := top 17
abbrev N_numbers_for : List Str := ["told", "every", "most"]
def m_numbers_for (A : Ad) : DenS :=
  (mSeq (mPar 1 2 (mCons (mOp gIx (mVar 0) (mC (.int 0))) (mCons (mOp gIx (mVar 0) (mC (.int 3))) mNil)))
  (mRet (mLst false (mCons (mTup (mCons (mC (.int 1)) (mCons (mVar 2) mNil))) (mCons (mTup (mCons (mOp gSub (mVar 1) (mVar 2)) (mCons (mC (.int 1)) mNil))) mNil)))))
def d_numbers_for (A : Ad) : List D → Mu → Res D := denF N_numbers_for (m_numbers_for A)
abbrev s_items_for : Stmt := top 20
abbrev N_items_for : List Str := ["many", "told", "found", "every", "rows", "item", "most", "table", "run", "times", "great", "one", "runs"]
def q_items_for_1 (A : Ad) : DenE := mLc true (mSeqI (mCallF 1 (d_numbers_for A) (mCons (mVar 1) mNil))) (mGName 8) (mTest (mOp gGt (mOp gIx (mVar 8) (mC (.int 0))) (mC (.int 0)))) (mVar 8) [8]
def q_items_for_2 (A : Ad) : DenE := mLc false (mSeqI (mVar 1)) (mGName 11) mYes (mOp (gMul false) (mVar 9) (mVar 11)) [11]
def q_items_for_3 (A : Ad) : DenE := mLc true (mSeqI (mVar 12)) (mGName 8) (mTest (mOp gGt (mOp gIx (mVar 8) (mC (.int 0))) (mC (.int 0)))) (mVar 8) [8]
def m_items_for (A : Ad) : DenS :=
  (mSeq (mAsg (mCallF 2 (d_kinds A) (mCons (mVar 0) (mCons (mVar 1) mNil))) (mGName 2))
  (mSeq (mAsg (mVar 1) (mGTup 5 (mGCons (mGName 3) (mGCons (mGName 4) (mGCons (mGName 5) (mGCons (mGName 6) (mGCons (mGName 7) mGNil)))))))
  (mSeq (mIfS (mTOr (mTest (mOp (gEq false) (mVar 2) (mLst false mNil))) (mTOr (mTAnd (mTest (mOp (gEq false) (mVar 6) (mC (.int 0)))) (mTest (mOp gGt (mVar 3) (mC (.int 0))))) (mTAnd (mTest (mOp (gEq false) (mVar 0) (mC (.int 2)))) (mTAnd (mTest (mOp (gEq false) (mVar 7) (mVar 6))) (mTest (mOp (gEq true) (mVar 4) (mVar 3)))))))
  (mRet (mC .non))
  mSkip)
  (mSeq (mIfS (mTest (mOp (gEq false) (mVar 6) (mC (.int 0))))
  (mRet (mTup (mCons (mC (.int 1)) (mCons (mLst true mNil) mNil))))
  mSkip)
  (mSeq (mIfS (mTest (mOp (gEq false) (mVar 0) (mC (.int 1))))
  (mRet (mTup (mCons (mC (.int 1)) (mCons (q_items_for_1 A) mNil))))
  mSkip)
  (mSeq (mAsg (mIf (mTest (mOp (gEq false) (mVar 5) (mC (.int 1)))) (mC (.int 2)) (mC (.int 1))) (mGName 9))
  (mSeq (mAsg (mCall gTuple (mCons (q_items_for_2 A) mNil)) (mGName 10))
  (mSeq (mAsg (mIf (mTest (mOp (gEq false) (mOp gIx (mVar 2) (mC (.int 0))) (mC (.str "one")))) (mCallF 1 (d_pairs_for_one A) (mCons (mVar 10) mNil)) (mCallF 1 (d_pairs_for_two A) (mCons (mVar 10) mNil))) (mGName 12))
  (mRet (mTup (mCons (mVar 9) (mCons (q_items_for_3 A) mNil))))))))))))
def d_items_for (A : Ad) : List D → Mu → Res D := denF N_items_for (m_items_for A)
abbrev s__law_five : Stmt := top 27
abbrev N__law_five : List Str := ["_law_runs", "_law_every", "_law_rows", "_law_item", "_law_first", "_law_second", "_law_count", "_law_part", "_law_one", "_law_other"]
def b__law_five_1 (A : Ad) : DenS :=
  (mSeq (mAsg (mIf (mTest (mCall gIsi (mCons (mVar 7) (mCons (mC (.ty "tuple")) mNil)))) (mVar 7) (mTup (mCons (mVar 7) (mCons (mC (.int 0)) mNil)))) (mGTup 2 (mGCons (mGName 8) (mGCons (mGName 9) mGNil))))
  (mSeq (mAsg (mOp (gAdd false) (mVar 1) (mOp (gMul false) (mVar 6) (mOp (gAdd false) (mVar 8) (mVar 9)))) (mGName 1))
  (mSeq (mAsg (mOp (gAdd false) (mVar 2) (mOp (gMul false) (mVar 6) (mCall gMax (mCons (mVar 8) (mCons (mVar 9) mNil))))) (mGName 2))
  (mPar3 3 4 5 (mCons (mCall gMax (mCons (mVar 3) (mCons (mOp (gAdd false) (mVar 8) (mVar 9)) mNil))) (mCons (mCall gMax (mCons (mVar 4) (mCons (mVar 8) mNil))) (mCons (mCall gMax (mCons (mVar 5) (mCons (mVar 9) mNil))) mNil)))))))
def m__law_five (A : Ad) : DenS :=
  (mSeq (mAsg (mTup (mCons (mC (.int 0)) (mCons (mC (.int 0)) (mCons (mC (.int 0)) (mCons (mC (.int 0)) (mCons (mC (.int 0)) mNil)))))) (mGTup 5 (mGCons (mGName 1) (mGCons (mGName 2) (mGCons (mGName 3) (mGCons (mGName 4) (mGCons (mGName 5) mGNil)))))))
  (mSeq (mForA (mVar 0) (mGTup 2 (mGCons (mGName 6) (mGCons (mGName 7) mGNil)))
  (b__law_five_1 A))
  (mRet (mTup (mCons (mVar 1) (mCons (mVar 2) (mCons (mVar 3) (mCons (mCall gMax (mCons (mVar 4) (mCons (mVar 5) mNil))) (mCons (mOp (gAdd false) (mVar 4) (mVar 5)) mNil)))))))))
def d__law_five (A : Ad) : List D → Mu → Res D := denF N__law_five (m__law_five A)
abbrev s__law_kinds : Stmt := top 28
abbrev N__law_kinds : List Str := ["_law_many", "_law_told", "_law_every", "_law_rows", "_law_item", "_law_most", "_law_table", "_law_first", "_law_second"]
def m__law_kinds (A : Ad) : DenS :=
  (mSeq (mAsg (mVar 1) (mGTup 5 (mGCons (mGName 2) (mGCons (mGName 3) (mGCons (mGName 4) (mGCons (mGName 5) (mGCons (mGName 6) mGNil)))))))
  (mSeq (mIfS (mTest (mOp (gEq false) (mVar 0) (mC (.int 1))))
  (mRet (mOp (gMul false) (mLst false (mCons (mC (.str "one")) mNil)) (mCall gInt (mCons (mAnd (mOp (gEq false) (mVar 3) (mVar 2)) (mAnd (mOp (gEq false) (mVar 4) (mVar 5)) (mAnd (mOp (gEq false) (mVar 6) (mVar 5)) (mOp gLe (mVar 5) (mVar 2))))) mNil))))
  mSkip)
  (mSeq (mAsg (mAnd (mOp (gEq false) (mVar 4) (mVar 6)) (mAnd (mOp gLe (mVar 5) (mVar 6)) (mAnd (mOp gLe (mVar 6) (mOp (gMul false) (mC (.int 2)) (mVar 5))) (mOp gLe (mVar 5) (mVar 3))))) (mGName 7))
  (mSeq (mAsg (mAnd (mVar 7) (mAnd (mOp gLe (mOp (gAdd false) (mVar 3) (mVar 6)) (mOp (gAdd false) (mVar 2) (mVar 5))) (mOp gLe (mOp (gAdd false) (mVar 2) (mOp (gMul false) (mC (.int 2)) (mVar 5))) (mOp (gAdd false) (mOp (gMul false) (mC (.int 2)) (mVar 3)) (mVar 6))))) (mGName 7))
  (mSeq (mAsg (mAnd (mOp gLe (mVar 5) (mVar 4)) (mAnd (mOp gLe (mVar 4) (mVar 6)) (mAnd (mOp gLe (mVar 6) (mOp (gMul false) (mC (.int 2)) (mVar 5))) (mOp gLe (mVar 6) (mVar 3))))) (mGName 8))
  (mSeq (mAsg (mAnd (mVar 8) (mAnd (mOp gLe (mOp (gAdd false) (mVar 4) (mVar 3)) (mOp (gAdd false) (mVar 2) (mVar 5))) (mOp gLe (mOp (gAdd false) (mVar 2) (mOp (gMul false) (mC (.int 2)) (mVar 5))) (mOp (gAdd false) (mVar 4) (mOp (gMul false) (mC (.int 2)) (mVar 3)))))) (mGName 8))
  (mSeq (mAsg (mAnd (mVar 8) (mOp gLe (mOp (gAdd false) (mVar 2) (mOp (gMul false) (mC (.int 2)) (mVar 6))) (mOp (gAdd false) (mOp (gMul false) (mC (.int 2)) (mVar 4)) (mOp (gMul false) (mC (.int 2)) (mVar 3))))) (mGName 8))
  (mRet (mOp (gAdd false) (mOp (gMul false) (mLst false (mCons (mC (.str "one")) mNil)) (mCall gInt (mCons (mVar 7) mNil))) (mOp (gMul false) (mLst false (mCons (mC (.str "two")) mNil)) (mCall gInt (mCons (mVar 8) mNil))))))))))))
def d__law_kinds (A : Ad) : List D → Mu → Res D := denF N__law_kinds (m__law_kinds A)
abbrev s__law_pick : Stmt := top 25
abbrev N__law_pick : List Str := ["_law_draw", "_law_some"]
def m__law_pick (A : Ad) : DenS :=
  (mRet (mOp gIx (mVar 1) (mCallF 2 (d__law_take A) (mCons (mVar 0) (mCons (mCall gLen (mCons (mVar 1) mNil)) mNil)))))
def d__law_pick (A : Ad) : List D → Mu → Res D := denF N__law_pick (m__law_pick A)
abbrev s_law : Stmt := top 30
abbrev N_law : List Str := ["_law_script", "_law_draw", "_law_known", "_law_is_wide", "_law_many", "_law_runs", "_law_some", "_law_told", "_law_found", "_law_one", "_law_turn", "_law_at", "_law_twice"]
def b_law_1 (A : Ad) : DenS :=
  (mSetN (mC (.bl true)) (mVar 2) (mTup (mCons (mVar 4) (mCons (mCallF 1 (d__law_five A) (mCons (mVar 5) mNil)) mNil))))
def b_law_2 (A : Ad) : DenS :=
  (mSeq (mAsg (mOp (gAdd false) (mC (.int 1)) (mCall gInt (mCons (mVar 3) mNil))) (mGName 4))
  (mFor (mSeqI (mCallF 3 (d__law_small_lists A) (mCons (mIf (mTest (mVar 3)) (mC (.int 2)) (mC (.int 3))) (mCons (mIf (mTest (mVar 3)) (mC (.int 3)) (mC (.int 4))) (mCons (mVar 3) mNil))))) (mGName 5)
  (b_law_1 A)))
def q_law_3 (A : Ad) : DenE := mLc false (mSeqI (mVar 7)) (mGName 9) mYes (mOp (gMul false) (mOp gIx (mVar 8) (mC (.int 0))) (mVar 9)) [9]
def b_law_4 (A : Ad) : DenS :=
  (mSeq (mAsg (mCallF 2 (d_items_for A) (mCons (mVar 4) (mCons (mVar 7) mNil))) (mGName 8))
  (mSeq (mIfS (mTOr (mTest (mOp (gEq true) (mCallF 2 (d_kinds A) (mCons (mVar 4) (mCons (mVar 7) mNil))) (mCallF 2 (d__law_kinds A) (mCons (mVar 4) (mCons (mVar 7) mNil))))) (mTest (mOp (gIsN false) (mVar 8) (mC .non))))
  (mRet (mC (.bl false)))
  mSkip)
  (mIfS (mTest (mOp (gEq true) (mCallF 1 (d__law_five A) (mCons (mOp gIx (mVar 8) (mC (.int 1))) mNil)) (mCall gTuple (mCons (q_law_3 A) mNil))))
  (mRet (mC (.bl false)))
  mSkip)))
def q_law_5 (A : Ad) : DenE := mLc false (mSeqI (mVar 7)) (mGName 9) mYes (mOp (gMul false) (mC (.int 2)) (mVar 9)) [9]
def b_law_6 (A : Ad) : DenS :=
  (mSeq (mAsg (mOp (gAdd false) (mC (.int 1)) (mCallF 2 (d__law_take A) (mCons (mVar 1) (mCons (mC (.int 2)) mNil)))) (mGName 4))
  (mSeq (mAsg (mCall (gList true) (mCons (mOp gIx (mCallF 2 (d__law_pick A) (mCons (mVar 1) (mCons (mCall gListN (mCons (mVar 2) mNil)) mNil))) (mC (.int 1))) mNil)) (mGName 7))
  (mSeq (mAsg (mCallF 2 (d__law_take A) (mCons (mVar 1) (mCons (mC (.int 5)) mNil))) (mGName 11))
  (mSeq (mSet (mCall gMax (mCons (mC (.int 0)) (mCons (mOp (gAdd false) (mOp gIx (mVar 7) (mVar 11)) (mCallF 2 (d__law_pick A) (mCons (mVar 1) (mCons (mLst false (mCons (mC (.int 1)) (mCons (mUn gNeg (mC (.int 1))) (mCons (mC (.int 2)) (mCons (mUn gNeg (mC (.int 2))) mNil))))) mNil)))) mNil))) (mVar 7) (mVar 11))
  (mFrz 7 (mSeq (mAsg (mCall gTuple (mCons (q_law_5 A) mNil)) (mGName 12))
  (mSeq (mIfS (mTAnd (mTest (mOp (gEq false) (mCallF 2 (d_kinds A) (mCons (mVar 4) (mCons (mCall gTuple (mCons (mVar 7) mNil)) mNil))) (mLst false mNil))) (mTOr (mTest (mOp (gInN false) (mTup (mCons (mVar 4) (mCons (mCall gTuple (mCons (mVar 7) mNil)) mNil))) (mVar 2))) (mTest (mOp (gInN false) (mTup (mCons (mVar 4) (mCons (mVar 12) mNil))) (mVar 2)))))
  (mRet (mC (.bl false)))
  mSkip)
  (mIfS (mTAnd (mTest (mOp (gIsN false) (mCallF 2 (d_items_for A) (mCons (mVar 4) (mCons (mCall gTuple (mCons (mVar 7) mNil)) mNil))) (mC .non))) (mTOr (mTest (mOp (gInN false) (mTup (mCons (mVar 4) (mCons (mCall gTuple (mCons (mVar 7) mNil)) mNil))) (mVar 2))) (mTest (mOp (gInN false) (mTup (mCons (mVar 4) (mCons (mVar 12) mNil))) (mVar 2)))))
  (mRet (mC (.bl false)))
  mSkip))))))))
def m_law (A : Ad) : DenS :=
  (mSeq (mAsg (mCallF 1 (d__law_begin A) (mCons (mVar 0) mNil)) (mGName 1))
  (mSeq (mAsg mNewN (mGName 2))
  (mSeq (mFor (mSeqI (mTup (mCons (mC (.bl false)) (mCons (mC (.bl true)) mNil)))) (mGName 3)
  (b_law_2 A))
  (mSeq (mAsg (mSl false (mCallF 2 (d__law_mixed A) (mCons (mVar 1) (mCons (mCall gListN (mCons (mVar 2) mNil)) mNil))) mON (mOS (mC (.int 40)))) (mGName 6))
  (mFrz 7 (mSeq (mFor (mSeqI (mVar 6)) (mGTup 2 (mGCons (mGName 4) (mGCons (mGName 7) mGNil)))
  (b_law_4 A))
  (mFrz 7 (mSeq (mFor (mRange1 (mCons (mC (.int 40)) mNil)) (mGName 10)
  (b_law_6 A))
  (mRet (mC (.bl true)))))))))))
def d_law (A : Ad) : List D → Mu → Res D := denF N_law (m_law A)
structure Tx (K : PySem.W.Frag) (mg : Str → Option Value) where
  f__law_begin : FnF K mg "_law_begin" s__law_begin ["_law_script"]
  f__law_small_lists : FnF K mg "_law_small_lists" s__law_small_lists ["_law_top", "_law_size", "_law_is_wide"]
  f__law_blend : FnF K mg "_law_blend" s__law_blend ["_law_draw"]
  f__law_take : FnF K mg "_law_take" s__law_take ["_law_draw", "_law_many"]
  f__law_mixed : FnF K mg "_law_mixed" s__law_mixed ["_law_draw", "_law_some"]
  f_is_number : FnF K mg "is_number" s_is_number ["thing"]
  f_is_from_zero : FnF K mg "is_from_zero" s_is_from_zero ["thing"]
  f_need_told : FnF K mg "need_told" s_need_told ["many", "told"]
  f_kind_words : FnF K mg "kind_words" s_kind_words ["many"]
  f_worth_of : FnF K mg "worth_of" s_worth_of ["terms", "told"]
  f_list_facts : FnF K mg "list_facts" s_list_facts ["many", "kind"]
  f_keeps : FnF K mg "keeps" s_keeps ["many", "kind", "told"]
  f_kinds : FnF K mg "kinds" s_kinds ["many", "told"]
  f_pairs_for_one : FnF K mg "pairs_for_one" s_pairs_for_one ["told"]
  f_pairs_for_two : FnF K mg "pairs_for_two" s_pairs_for_two ["told"]
  f_numbers_for : FnF K mg "numbers_for" s_numbers_for ["told"]
  f_items_for : FnF K mg "items_for" s_items_for ["many", "told"]
  f__law_five : FnF K mg "_law_five" s__law_five ["_law_runs"]
  f__law_kinds : FnF K mg "_law_kinds" s__law_kinds ["_law_many", "_law_told"]
  f__law_pick : FnF K mg "_law_pick" s__law_pick ["_law_draw", "_law_some"]
  f_law : FnF K mg "law" s_law ["_law_script"]
  g_abs : mg "abs" = none
  g_list : mg "list" = none
  g_range : mg "range" = none
  g_int : mg "int" = none
  g_len : mg "len" = none
  g_isinstance : mg "isinstance" = none
  g_bool : mg "bool" = none
  g_tuple : mg "tuple" = none
  g_all : mg "all" = none
  g_sum : mg "sum" = none
  g_max : mg "max" = none
  c_WORDS : CnF K mg "WORDS" c_WORDS
  c_ONE_BOX : CnF K mg "ONE_BOX" c_ONE_BOX
  c_KIND_ONE : CnF K mg "KIND_ONE" c_KIND_ONE
  c_KIND_TWO : CnF K mg "KIND_TWO" c_KIND_TWO
  x_BadAmounts : ClF K mg "BadAmounts"
  y_BadAmounts : ExcC K x_BadAmounts.a
  ndT : ([] : List Addr).Nodup
  t_WORDS : ∀ H, tyV K "tuple" c_WORDS.v H
def Tx.ad {K : PySem.W.Frag} {mg : Str → Option Value} (T : Tx K mg) : Ad := { BadAmounts := T.x_BadAmounts.a, exc := fun a => decide (a ∈ ([T.x_BadAmounts.a] : List Addr)), isx := fun v u => PySem.W.kitOne K v u, ex_BadAmounts := by simp }
section
variable {P : Program} {w : World} {K : PySem.W.Frag} {mg : Str → Option Value} {base : Heap}
theorem Tx.v_BadAmounts (T : Tx K mg) : mg "BadAmounts" = some (.ref T.x_BadAmounts.a) := T.x_BadAmounts.g
theorem Tx.hisx (T : Tx K mg) : ∀ v u b, T.ad.isx v u = some b → PySem.W.kitOne K v u = some b := fun _ _ _ h => h
theorem Tx.hex (T : Tx K mg) : ∀ a, T.ad.exc a = true → ExcC K a := by
  intro a h
  have h : decide (a ∈ ([T.x_BadAmounts.a] : List Addr)) = true := h
  simp only [decide_eq_true_eq, List.mem_cons, List.not_mem_nil, or_false] at h
  rcases h with rfl
  · exact T.y_BadAmounts
structure Bx (base : Heap) (T : Tx K mg) : Prop where
  nil : True
theorem sc__law_begin : FnScope N__law_begin ["_law_script"] (defScope s__law_begin) := ⟨rfl, rfl, rfl, by decide +kernel, rfl, by decide +kernel, by decide +kernel⟩
theorem ok__law_begin (T : Tx K mg) (B : Bx base T) : FnOk P w K mg base (L2.CX P w) 1 T.f__law_begin.a T.f__law_begin.fd ["_law_script"] (spD K 1 (d__law_begin T.ad)) := fn_DC T.f__law_begin.F sc__law_begin fun X E cdv A outer s H hcd hr e => by
  have tk : Takes X (fun c d _ H' => E c d H') := by subst e; exact takes_of rfl rfl rfl rfl
  have hu := hu_of hr
  subst e
  exact (dss_cons (ds_setLc (i := 1) (ts := [2]) (own := [("_law_cell", 2)]) true (by decide) rfl sc__law_begin.nd rfl rfl (sw_true rfl rfl rfl (by decide +kernel)) (di_seq (de_var (pv 0))) (blkOk_by (N := N__law_begin) (sc := (defScope s__law_begin)) (by decide +kernel)) (fun _ _ _ _ _ => (dg_name (i := 2) sc__law_begin.nd rfl (Or.inl rfl))) (fun _ _ _ _ _ => (dts_one (dt_cmp op_ge og_ge (de_callB call_abs cg_abs rfl T.g_abs bt_abs (da_cons (de_var (pv 2)) da_nil)) (de_op op_powW og_pow de_int de_int) (nomark _)))) (fun _ _ _ _ _ => (de_op op_sub og_sub (de_callB call_abs cg_abs rfl T.g_abs bt_abs (da_cons (de_var (pv 2)) da_nil)) (de_op op_powW og_pow de_int de_int))))
    (dss_one (ds_ret (de_disp (prs := [((mC (.str "great")), (mVar 1)), ((mC (.str "rest")), (mC (.int 0))), ((mC (.str "cells")), (q__law_begin_2 T.ad)), ((mC (.str "turn")), (mC (.int 0)))]) (pps_cons de_str (de_var (pv 1)) (pps_cons de_str de_int (pps_cons de_str (de_lc (ts := [2]) (own := [("_law_cell", 2)]) false (by decide) rfl sc__law_begin.nd (di_seq (de_var (pv 0))) (blkOk_by (N := N__law_begin) (sc := (defScope s__law_begin)) (by decide +kernel)) (fun _ _ _ _ _ => (dg_name (i := 2) sc__law_begin.nd rfl (Or.inl rfl))) (fun _ _ _ _ _ => dts_nil) (fun _ _ _ _ _ => (de_callB call_abs cg_abs rfl T.g_abs bt_abs (da_cons (de_var (pv 2)) da_nil)))) (pps_cons de_str de_int pps_nil)))) rfl rfl (by decide) (by decide)))))
theorem sc__law_small_lists : FnScope N__law_small_lists ["_law_top", "_law_size", "_law_is_wide"] (defScope s__law_small_lists) := ⟨rfl, rfl, rfl, by decide +kernel, rfl, by decide +kernel, by decide +kernel⟩
theorem ok__law_small_lists (T : Tx K mg) (B : Bx base T) : FnOk P w K mg base (L2.CX P w) 1 T.f__law_small_lists.a T.f__law_small_lists.fd ["_law_top", "_law_size", "_law_is_wide"] (spD K 3 (d__law_small_lists T.ad)) := fn_DC T.f__law_small_lists.F sc__law_small_lists fun X E cdv A outer s H hcd hr e => by
  have tk : Takes X (fun c d _ H' => E c d H') := by subst e; exact takes_of rfl rfl rfl rfl
  have hu := hu_of hr
  subst e
  exact (dss_cons (ds_par3 (i := 3) (j := 4) (l := 5) rfl sc__law_small_lists.nd rfl rfl rfl (by decide) (by decide) (by decide) rfl rfl rfl (da_cons (de_lstRg rfl rfl T.g_list rfl T.g_range (de_op op_addA (og_add false) (de_var (pv 0)) de_int)) (da_cons (de_lst false (da_cons (de_lst false da_nil) da_nil)) (da_cons (de_lst false (da_cons (de_lst false da_nil) da_nil)) da_nil))) rfl)
    (dss_cons (ds_if (dt_val (de_var (pv 2)))
    (dss_cons (ds_set (i := 3) sc__law_small_lists.nd rfl (Or.inl rfl) (de_lst false da_nil))
    (dss_one (ds_for GOk.name (passes_of rfl) rfl (di_range1 rfl T.g_range (da_cons (de_op op_addA (og_add false) (de_var (pv 0)) de_int) da_nil)) (dg_name (i := 6) sc__law_small_lists.nd rfl (Or.inr rfl))
    (dss_one (ds_set (i := 3) sc__law_small_lists.nd rfl (Or.inl rfl) (de_op op_addA (og_add false) (de_var (pv 3)) (de_lc (ts := [7]) (own := [("_law_j", 7)]) false (by decide) rfl sc__law_small_lists.nd (di_range1 rfl T.g_range (da_cons (de_op op_addA (og_add false) (de_var (pv 0)) de_int) da_nil)) (blkOk_by (N := N__law_small_lists) (sc := (defScope s__law_small_lists)) (by decide +kernel)) (fun _ _ _ _ _ => (dg_name (i := 7) sc__law_small_lists.nd rfl (Or.inl rfl))) (fun _ _ _ _ _ => dts_nil) (fun _ _ _ _ _ => (de_tup (da_cons (de_var (pv 6)) (da_cons (de_var (pv 7)) da_nil)))))))))))
    dss_nil)
    (dss_cons (ds_for GOk.name (passes_of rfl) rfl (di_range1 rfl T.g_range (da_cons (de_var (pv 1)) da_nil)) (dg_name (i := 6) sc__law_small_lists.nd rfl (Or.inr rfl))
    (dss_cons (ds_set (i := 8) sc__law_small_lists.nd rfl (Or.inl rfl) (de_lst false da_nil))
    (dss_cons (ds_for GOk.name (passes_of rfl) rfl (di_seq (de_var (pv 5))) (dg_name (i := 9) sc__law_small_lists.nd rfl (Or.inr rfl))
    (dss_one (ds_set (i := 8) sc__law_small_lists.nd rfl (Or.inl rfl) (de_op op_addA (og_add false) (de_var (pv 8)) (de_lc (ts := [10]) (own := [("_law_part", 10)]) false (by decide) rfl sc__law_small_lists.nd (di_seq (de_var (pv 3))) (blkOk_by (N := N__law_small_lists) (sc := (defScope s__law_small_lists)) (by decide +kernel)) (fun _ _ _ _ _ => (dg_name (i := 10) sc__law_small_lists.nd rfl (Or.inl rfl))) (fun _ _ _ _ _ => (dts_one (dt_w (dw_or (dt_cmp (op_eqD hr.units) og_eq (de_var (pv 9)) (de_lst false da_nil) (nomark _)) (dw_or1 (dt_cmp (op_geP (Nat.lt_of_le_of_lt (Nat.le_add_right _ 65) (hu65_of hr))) og_geP (de_var (pv 10)) (de_ix (ix_all hu) og_ix (de_ix (ix_all hu) og_ix (de_var (pv 9)) (de_un un_neg ug_neg de_int) fun _ _ => rfl) de_int fun _ _ => rfl) (nomark _))))))) (fun _ _ _ _ _ => (de_op op_addA (og_add false) (de_var (pv 9)) (de_lst false (da_cons (de_tup (da_cons de_int (da_cons (de_var (pv 10)) da_nil))) da_nil)))))))))
    (dss_one (ds_par (i := 4) (j := 5) rfl sc__law_small_lists.nd rfl rfl (by decide) rfl rfl (da_cons (de_op op_addA (og_add false) (de_var (pv 4)) (de_var (pv 8))) (da_cons (de_var (pv 8)) da_nil)) rfl)))))
    (dss_one (ds_ret (de_var (pv 4)))))))
theorem sc__law_blend : FnScope N__law_blend ["_law_draw"] (defScope s__law_blend) := ⟨rfl, rfl, rfl, by decide +kernel, rfl, by decide +kernel, by decide +kernel⟩
theorem ok__law_blend (T : Tx K mg) (B : Bx base T) : FnOk P w K mg base (L2.CX P w) 1 T.f__law_blend.a T.f__law_blend.fd ["_law_draw"] (spD K 1 (d__law_blend T.ad)) := fn_DC T.f__law_blend.F sc__law_blend fun X E cdv A outer s H hcd hr e => by
  have tk : Takes X (fun c d _ H' => E c d H') := by subst e; exact takes_of rfl rfl rfl rfl
  have hu := hu_of hr
  subst e
  exact (dss_cons (ds_set (i := 1) sc__law_blend.nd rfl (Or.inl rfl) (de_op op_addA (og_add false) (de_ix (ix_all hu) og_ix (de_var (pv 0)) de_str fun _ _ => rfl) de_int))
    (dss_cons (ds_sub hu (de_var (pv 0)) de_str (de_var (pv 1)))
    (dss_cons (ds_set (i := 2) sc__law_blend.nd rfl (Or.inl rfl) de_int)
    (dss_cons (ds_for GOk.name (passes_of rfl) rfl (di_seq (de_lst false (da_cons de_int (da_cons de_int (da_cons de_int (da_cons de_int da_nil)))))) (dg_name (i := 3) sc__law_blend.nd rfl (Or.inl rfl))
    (dss_cons (ds_set (i := 4) sc__law_blend.nd rfl (Or.inl rfl) (de_op op_mod og_mod (de_callTy call_int1 cg_int rfl T.g_int bt_int (da_cons (de_op op_addA (og_add false) (de_op op_mulA (og_mul false) (de_var (pv 1)) de_int) (de_op op_fdivW og_fdiv (de_var (pv 3)) de_int)) da_nil)) (de_var (pv 3))))
    (dss_cons (ds_for GOk.name (passes_of rfl) rfl (di_seq (de_ix (ix_all hu) og_ix (de_var (pv 0)) de_str fun _ _ => rfl)) (dg_name (i := 5) sc__law_blend.nd rfl (Or.inl rfl))
    (dss_one (ds_set (i := 4) sc__law_blend.nd rfl (Or.inl rfl) (de_op op_mod og_mod (de_callTy call_int1 cg_int rfl T.g_int bt_int (da_cons (de_op op_addA (og_add false) (de_op op_mulA (og_mul false) (de_var (pv 4)) de_int) (de_var (pv 5))) da_nil)) (de_var (pv 3))))))
    (dss_one (ds_set (i := 2) sc__law_blend.nd rfl (Or.inl rfl) (de_op op_addA (og_add false) (de_op op_mulA (og_mul false) (de_var (pv 2)) de_int) (de_op op_mod og_mod (de_callTy call_int1 cg_int rfl T.g_int bt_int (da_cons (de_op op_powW og_pow (de_var (pv 4)) de_int) da_nil)) (de_var (pv 3)))))))))
    (dss_one (ds_ret (de_var (pv 2))))))))
theorem sc__law_take : FnScope N__law_take ["_law_draw", "_law_many"] (defScope s__law_take) := ⟨rfl, rfl, rfl, by decide +kernel, rfl, by decide +kernel, by decide +kernel⟩
theorem ok__law_take (T : Tx K mg) (B : Bx base T) : FnOk P w K mg base (L2.CX P w) 2 T.f__law_take.a T.f__law_take.fd ["_law_draw", "_law_many"] (spD K 2 (d__law_take T.ad)) := fn_DC T.f__law_take.F sc__law_take fun X E cdv A outer s H hcd hr e => by
  have tk : Takes X (fun c d _ H' => E c d H') := by subst e; exact takes_of rfl rfl rfl rfl
  have hu := hu_of hr
  subst e
  exact (dss_cons (ds_if (dt_w (dw_and (dt_cmp (op_eqD hr.units) og_eq (de_ix (ix_all hu) og_ix (de_var (pv 0)) de_str fun _ _ => rfl) de_int (nomark _)) (dw_and1 (dt_cmp (op_neD hr.units) og_ne (de_ix (ix_all hu) og_ix (de_var (pv 0)) de_str fun _ _ => rfl) (de_lst false da_nil) (nomark _)))))
    (dss_one (ds_sub hu (de_var (pv 0)) de_str (de_bm PySem.F.plainAttrs_list PySem.F.slot_list_pop PySem.F.type_list_pop mt_popAt ty_lst mg_popAt (de_ix (ix_all hu) og_ix (de_var (pv 0)) de_str fun _ _ => rfl) (da_cons de_int da_nil))))
    dss_nil)
    (dss_cons (ds_if (dt_cmp (op_eqD hr.units) og_eq (de_ix (ix_all hu) og_ix (de_var (pv 0)) de_str fun _ _ => rfl) de_int (nomark _))
    (dss_one (ds_sub hu (de_var (pv 0)) de_str (de_callN rfl rfl (ok__law_blend T B) tk (hr.mono (by decide)) T.f__law_blend.g T.f__law_blend.F.kp T.f__law_blend.b (da_cons (de_var (pv 0)) da_nil))))
    dss_nil)
    (dss_cons (ds_set (i := 2) sc__law_take.nd rfl (Or.inl rfl) (de_op op_mod og_mod (de_callTy call_int1 cg_int rfl T.g_int bt_int (da_cons (de_ix (ix_all hu) og_ix (de_var (pv 0)) de_str fun _ _ => rfl) da_nil)) (de_var (pv 1))))
    (dss_cons (ds_sub hu (de_var (pv 0)) de_str (de_op op_fdivW og_fdiv (de_ix (ix_all hu) og_ix (de_var (pv 0)) de_str fun _ _ => rfl) (de_var (pv 1))))
    (dss_one (ds_ret (de_var (pv 2))))))))
theorem sc__law_mixed : FnScope N__law_mixed ["_law_draw", "_law_some"] (defScope s__law_mixed) := ⟨rfl, rfl, rfl, by decide +kernel, rfl, by decide +kernel, by decide +kernel⟩
theorem ok__law_mixed (T : Tx K mg) (B : Bx base T) : FnOk P w K mg base (L2.CX P w) 3 T.f__law_mixed.a T.f__law_mixed.fd ["_law_draw", "_law_some"] (spD K 2 (d__law_mixed T.ad)) := fn_DC T.f__law_mixed.F sc__law_mixed fun X E cdv A outer s H hcd hr e => by
  have tk : Takes X (fun c d _ H' => E c d H') := by subst e; exact takes_of rfl rfl rfl rfl
  have hu := hu_of hr
  subst e
  exact (dss_cons (ds_par (i := 2) (j := 3) rfl sc__law_mixed.nd rfl rfl (by decide) rfl rfl (da_cons (de_callTy call_list_of (cg_list true) rfl T.g_list bt_list (da_cons (de_var (pv 1)) da_nil)) (da_cons (de_lst true da_nil) da_nil)) rfl)
    (dss_cons (ds_while 1000000 (passes_of rfl) (dt_cmp (op_neD hr.units) og_ne (de_var (pv 2)) (de_lst false da_nil) (nomark _))
    (dss_one (ds_expr (de_bm PySem.F.plainAttrs_list PySem.F.slot_list_append PySem.F.type_list_append mt_append ty_lst mg_append (de_var (pv 3)) (da_cons (de_bm PySem.F.plainAttrs_list PySem.F.slot_list_pop PySem.F.type_list_pop mt_popAt ty_lst mg_popAt (de_var (pv 2)) (da_cons (de_callN rfl rfl (ok__law_take T B) tk (hr.mono (by decide)) T.f__law_take.g T.f__law_take.F.kp T.f__law_take.b (da_cons (de_var (pv 0)) (da_cons (de_callB call_lenA cg_len rfl T.g_len bt_len (da_cons (de_var (pv 2)) da_nil)) da_nil))) da_nil)) da_nil)))))
    (dss_frz 3 (dss_one (ds_ret (de_var (pv 3)))))))
theorem sc_is_number : FnScope N_is_number ["thing"] (defScope s_is_number) := ⟨rfl, rfl, rfl, by decide +kernel, rfl, by decide +kernel, by decide +kernel⟩
theorem ok_is_number (T : Tx K mg) (B : Bx base T) : FnOk P w K mg base (L2.CX P w) 1 T.f_is_number.a T.f_is_number.fd ["thing"] (spD K 1 (d_is_number T.ad)) := fn_DC T.f_is_number.F sc_is_number fun X E cdv A outer s H hcd hr e => by
  have tk : Takes X (fun c d _ H' => E c d H') := by subst e; exact takes_of rfl rfl rfl rfl
  have hu := hu_of hr
  subst e
  exact (dss_one (ds_ret (de_and (de_callB call_isiA cg_isi rfl T.g_isinstance bt_isinstance (da_cons (de_var (pv 0)) (da_cons (de_ty rfl T.g_int bt_int) da_nil))) (de_one (de_not (de_callB call_isiA cg_isi rfl T.g_isinstance bt_isinstance (da_cons (de_var (pv 0)) (da_cons (de_ty rfl T.g_bool bt_bool) da_nil))))))))
theorem sc_is_from_zero : FnScope N_is_from_zero ["thing"] (defScope s_is_from_zero) := ⟨rfl, rfl, rfl, by decide +kernel, rfl, by decide +kernel, by decide +kernel⟩
theorem ok_is_from_zero (T : Tx K mg) (B : Bx base T) : FnOk P w K mg base (L2.CX P w) 2 T.f_is_from_zero.a T.f_is_from_zero.fd ["thing"] (spD K 1 (d_is_from_zero T.ad)) := fn_DC T.f_is_from_zero.F sc_is_from_zero fun X E cdv A outer s H hcd hr e => by
  have tk : Takes X (fun c d _ H' => E c d H') := by subst e; exact takes_of rfl rfl rfl rfl
  have hu := hu_of hr
  subst e
  exact (dss_one (ds_ret (de_and (de_callN rfl rfl (ok_is_number T B) tk (hr.mono (by decide)) T.f_is_number.g T.f_is_number.F.kp T.f_is_number.b (da_cons (de_var (pv 0)) da_nil)) (de_one (de_cmp op_ge og_ge (de_var (pv 0)) de_int (nomark _))))))
theorem sc_need_told : FnScope N_need_told ["many", "told"] (defScope s_need_told) := ⟨rfl, rfl, rfl, by decide +kernel, rfl, by decide +kernel, by decide +kernel⟩
theorem ok_need_told (T : Tx K mg) (B : Bx base T) : FnOk P w K mg base (L2.CX P w) 3 T.f_need_told.a T.f_need_told.fd ["many", "told"] (spD K 2 (d_need_told T.ad)) := fn_DC T.f_need_told.F sc_need_told fun X E cdv A outer s H hcd hr e => by
  have tk : Takes X (fun c d _ H' => E c d H') := by subst e; exact takes_of rfl rfl rfl rfl
  have hu := hu_of hr
  subst e
  exact (dss_cons (ds_if (dt_w (dw_or (dt_not (dt_val (de_callN rfl rfl (ok_is_number T B) tk (hr.mono (by decide)) T.f_is_number.g T.f_is_number.F.kp T.f_is_number.b (da_cons (de_var (pv 0)) da_nil)))) (dw_or1 (dt_not (dt_chain op_le og_le op_le og_le de_int (de_var (pv 0)) de_int)))))
    (dss_one (ds_raiseT rfl T.x_BadAmounts rfl rfl tk))
    dss_nil)
    (dss_one (ds_if (dt_w (dw_or (dt_not (dt_val (de_callB call_isiA cg_isi rfl T.g_isinstance bt_isinstance (da_cons (de_var (pv 1)) (da_cons (de_ty rfl T.g_tuple bt_tuple) da_nil))))) (dw_or (dt_cmp (op_neD hr.units) og_ne (de_callB call_lenA cg_len rfl T.g_len bt_len (da_cons (de_var (pv 1)) da_nil)) de_int (nomark _)) (dw_or1 (dt_not (dt_val (de_callB (cr_all rfl) cg_all rfl T.g_all bt_all (da_cons (de_lc (ts := [2]) (own := [("one", 2)]) false (by decide) rfl sc_need_told.nd (di_seq (de_var (pv 1))) (blkOk_by (N := N_need_told) (sc := (defScope s_need_told)) (by decide +kernel)) (fun _ _ _ _ _ => (dg_name (i := 2) sc_need_told.nd rfl (Or.inl rfl))) (fun _ _ _ _ _ => dts_nil) (fun _ _ _ _ _ => (de_callN rfl rfl (ok_is_from_zero T B) takes0 (hr.mono (by decide)) T.f_is_from_zero.g T.f_is_from_zero.F.kp T.f_is_from_zero.b (da_cons (de_var (pv 2)) da_nil)))) da_nil))))))))
    (dss_one (ds_raiseT rfl T.x_BadAmounts rfl rfl tk))
    dss_nil)))
theorem sc_kind_words : FnScope N_kind_words ["many"] (defScope s_kind_words) := ⟨rfl, rfl, rfl, by decide +kernel, rfl, by decide +kernel, by decide +kernel⟩
theorem ok_kind_words (T : Tx K mg) (B : Bx base T) : FnOk P w K mg base (L2.CX P w) 1 T.f_kind_words.a T.f_kind_words.fd ["many"] (spD K 1 (d_kind_words T.ad)) := fn_DC T.f_kind_words.F sc_kind_words fun X E cdv A outer s H hcd hr e => by
  have tk : Takes X (fun c d _ H' => E c d H') := by subst e; exact takes_of rfl rfl rfl rfl
  have hu := hu_of hr
  subst e
  exact (dss_one (ds_ret (de_ifx (dt_cmp (op_eqD hr.units) og_eq (de_var (pv 0)) de_int (nomark _)) (de_tup (da_cons de_str da_nil)) (de_tup (da_cons de_str (da_cons de_str da_nil))))))
theorem sc_worth_of : FnScope N_worth_of ["terms", "told"] (defScope s_worth_of) := ⟨rfl, rfl, rfl, by decide +kernel, rfl, by decide +kernel, by decide +kernel⟩
theorem ok_worth_of (T : Tx K mg) (B : Bx base T) : FnOk P w K mg base (L2.CX P w) 1 T.f_worth_of.a T.f_worth_of.fd ["terms", "told"] (spD K 2 (d_worth_of T.ad)) := fn_DC T.f_worth_of.F sc_worth_of fun X E cdv A outer s H hcd hr e => by
  have tk : Takes X (fun c d _ H' => E c d H') := by subst e; exact takes_of rfl rfl rfl rfl
  have hu := hu_of hr
  subst e
  exact (dss_one (ds_ret (de_callB (cr_sum rfl) cg_sum rfl T.g_sum bt_sum (da_cons (de_lc (ts := [2, 3]) (own := [("word", 2), ("number", 3)]) false (by decide) rfl sc_worth_of.nd (di_seq (de_var (pv 0))) (blkOk_by (N := N_worth_of) (sc := (defScope s_worth_of)) (by decide +kernel)) (fun _ _ _ _ _ => (dg_tup rfl (dgs_cons (dg_name (i := 2) sc_worth_of.nd rfl (Or.inl rfl)) (dgs_cons (dg_name (i := 3) sc_worth_of.nd rfl (Or.inl rfl)) dgs_nil)))) (fun _ _ _ _ _ => dts_nil) (fun _ _ _ _ _ => (de_op op_mulA (og_mul false) (de_var (pv 3)) (de_ix (ix_all hu) og_ix (de_var (pv 1)) (de_bmC PySem.F.plainAttrs_tuple PySem.F.slot_tuple_index PySem.F.type_tuple_index mt_tup_index T.t_WORDS T.c_WORDS.rep mg_tup_index (pe_glob rfl T.c_WORDS.g T.c_WORDS.rv) (da_cons (de_var (pv 2)) da_nil)) fun _ _ => rfl)))) da_nil))))
theorem sc_list_facts : FnScope N_list_facts ["many", "kind"] (defScope s_list_facts) := ⟨rfl, rfl, rfl, by decide +kernel, rfl, by decide +kernel, by decide +kernel⟩
theorem ok_list_facts (T : Tx K mg) (B : Bx base T) : FnOk P w K mg base (L2.CX P w) 1 T.f_list_facts.a T.f_list_facts.fd ["many", "kind"] (spD K 2 (d_list_facts T.ad)) := fn_DC T.f_list_facts.F sc_list_facts fun X E cdv A outer s H hcd hr e => by
  have tk : Takes X (fun c d _ H' => E c d H') := by subst e; exact takes_of rfl rfl rfl rfl
  have hu := hu_of hr
  subst e
  exact (dss_cons (ds_if (dt_cmp (op_eqD hr.units) og_eq (de_var (pv 0)) de_int (nomark _))
    (dss_one (ds_ret (de_c (pe_glob rfl T.c_ONE_BOX.g T.c_ONE_BOX.rv) T.c_ONE_BOX.rep)))
    dss_nil)
    (dss_one (ds_ret (de_ifx (dt_cmp (op_eqD hr.units) og_eq (de_var (pv 1)) de_str (nomark _)) (de_c (pe_glob rfl T.c_KIND_ONE.g T.c_KIND_ONE.rv) T.c_KIND_ONE.rep) (de_c (pe_glob rfl T.c_KIND_TWO.g T.c_KIND_TWO.rv) T.c_KIND_TWO.rep)))))
theorem sc_keeps : FnScope N_keeps ["many", "kind", "told"] (defScope s_keeps) := ⟨rfl, rfl, rfl, by decide +kernel, rfl, by decide +kernel, by decide +kernel⟩
theorem ok_keeps (T : Tx K mg) (B : Bx base T) : FnOk P w K mg base (L2.CX P w) 2 T.f_keeps.a T.f_keeps.fd ["many", "kind", "told"] (spD K 3 (d_keeps T.ad)) := fn_DC T.f_keeps.F sc_keeps fun X E cdv A outer s H hcd hr e => by
  have tk : Takes X (fun c d _ H' => E c d H') := by subst e; exact takes_of rfl rfl rfl rfl
  have hu := hu_of hr
  subst e
  exact (dss_one (ds_ret (de_callB (cr_all rfl) cg_all rfl T.g_all bt_all (da_cons (de_lc (ts := [3, 4]) (own := [("less", 3), ("more", 4)]) false (by decide) rfl sc_keeps.nd (di_seq (de_callN rfl rfl (ok_list_facts T B) tk (hr.mono (by decide)) T.f_list_facts.g T.f_list_facts.F.kp T.f_list_facts.b (da_cons (de_var (pv 0)) (da_cons (de_var (pv 1)) da_nil)))) (blkOk_by (N := N_keeps) (sc := (defScope s_keeps)) (by decide +kernel)) (fun _ _ _ _ _ => (dg_tup rfl (dgs_cons (dg_name (i := 3) sc_keeps.nd rfl (Or.inl rfl)) (dgs_cons (dg_name (i := 4) sc_keeps.nd rfl (Or.inl rfl)) dgs_nil)))) (fun _ _ _ _ _ => dts_nil) (fun _ _ _ _ _ => (de_cmp op_le og_le (de_callN rfl rfl (ok_worth_of T B) takes0 (hr.mono (by decide)) T.f_worth_of.g T.f_worth_of.F.kp T.f_worth_of.b (da_cons (de_var (pv 3)) (da_cons (de_var (pv 2)) da_nil))) (de_callN rfl rfl (ok_worth_of T B) takes0 (hr.mono (by decide)) T.f_worth_of.g T.f_worth_of.F.kp T.f_worth_of.b (da_cons (de_var (pv 4)) (da_cons (de_var (pv 2)) da_nil))) (nomark _)))) da_nil))))
theorem sc_kinds : FnScope N_kinds ["many", "told"] (defScope s_kinds) := ⟨rfl, rfl, rfl, by decide +kernel, rfl, by decide +kernel, by decide +kernel⟩
theorem ok_kinds (T : Tx K mg) (B : Bx base T) : FnOk P w K mg base (L2.CX P w) 4 T.f_kinds.a T.f_kinds.fd ["many", "told"] (spD K 2 (d_kinds T.ad)) := fn_DC T.f_kinds.F sc_kinds fun X E cdv A outer s H hcd hr e => by
  have tk : Takes X (fun c d _ H' => E c d H') := by subst e; exact takes_of rfl rfl rfl rfl
  have hu := hu_of hr
  subst e
  exact (dss_cons (ds_expr (de_callN rfl rfl (ok_need_told T B) tk (hr.mono (by decide)) T.f_need_told.g T.f_need_told.F.kp T.f_need_told.b (da_cons (de_var (pv 0)) (da_cons (de_var (pv 1)) da_nil))))
    (dss_one (ds_ret (de_lc (ts := [2]) (own := [("kind", 2)]) false (by decide) rfl sc_kinds.nd (di_seq (de_callN rfl rfl (ok_kind_words T B) tk (hr.mono (by decide)) T.f_kind_words.g T.f_kind_words.F.kp T.f_kind_words.b (da_cons (de_var (pv 0)) da_nil))) (blkOk_by (N := N_kinds) (sc := (defScope s_kinds)) (by decide +kernel)) (fun _ _ _ _ _ => (dg_name (i := 2) sc_kinds.nd rfl (Or.inl rfl))) (fun _ _ _ _ _ => (dts_one (dt_val (de_callN rfl rfl (ok_keeps T B) takes0 (hr.mono (by decide)) T.f_keeps.g T.f_keeps.F.kp T.f_keeps.b (da_cons (de_var (pv 0)) (da_cons (de_var (pv 2)) (da_cons (de_var (pv 1)) da_nil))))))) (fun _ _ _ _ _ => (de_var (pv 2)))))))
theorem sc_pairs_for_one : FnScope N_pairs_for_one ["told"] (defScope s_pairs_for_one) := ⟨rfl, rfl, rfl, by decide +kernel, rfl, by decide +kernel, by decide +kernel⟩
theorem ok_pairs_for_one (T : Tx K mg) (B : Bx base T) : FnOk P w K mg base (L2.CX P w) 1 T.f_pairs_for_one.a T.f_pairs_for_one.fd ["told"] (spD K 1 (d_pairs_for_one T.ad)) := fn_DC T.f_pairs_for_one.F sc_pairs_for_one fun X E cdv A outer s H hcd hr e => by
  have tk : Takes X (fun c d _ H' => E c d H') := by subst e; exact takes_of rfl rfl rfl rfl
  have hu := hu_of hr
  subst e
  exact (dss_cons (ds_asg (GOk.tup (GsOk.cons GOk.name (GsOk.cons GOk.name (GsOk.cons GOk.name (GsOk.cons GOk.name (GsOk.cons GOk.name GsOk.nil)))))) (de_var (pv 0)) (dg_tup rfl (dgs_cons (dg_name (i := 1) sc_pairs_for_one.nd rfl (Or.inl rfl)) (dgs_cons (dg_name (i := 2) sc_pairs_for_one.nd rfl (Or.inl rfl)) (dgs_cons (dg_name (i := 3) sc_pairs_for_one.nd rfl (Or.inl rfl)) (dgs_cons (dg_name (i := 4) sc_pairs_for_one.nd rfl (Or.inl rfl)) (dgs_cons (dg_name (i := 5) sc_pairs_for_one.nd rfl (Or.inl rfl)) dgs_nil)))))))
    (dss_cons (ds_par (i := 6) (j := 7) rfl sc_pairs_for_one.nd rfl rfl (by decide) rfl rfl (da_cons (de_op op_sub og_sub (de_var (pv 1)) (de_var (pv 5))) (da_cons (de_op op_sub og_sub (de_var (pv 2)) (de_var (pv 4))) da_nil)) rfl)
    (dss_one (ds_ret (de_lst false (da_cons (de_tup (da_cons de_int (da_cons (de_tup (da_cons (de_var (pv 4)) (da_cons (de_op op_sub og_sub (de_var (pv 5)) (de_var (pv 4))) da_nil))) da_nil))) (da_cons (de_tup (da_cons (de_op op_sub og_sub (de_op op_mulA (og_mul false) de_int (de_var (pv 7))) (de_var (pv 6))) (da_cons (de_tup (da_cons de_int (da_cons de_int da_nil))) da_nil))) (da_cons (de_tup (da_cons (de_op op_sub og_sub (de_var (pv 6)) (de_var (pv 7))) (da_cons (de_tup (da_cons de_int (da_cons de_int da_nil))) da_nil))) da_nil))))))))
theorem sc_pairs_for_two : FnScope N_pairs_for_two ["told"] (defScope s_pairs_for_two) := ⟨rfl, rfl, rfl, by decide +kernel, rfl, by decide +kernel, by decide +kernel⟩
theorem ok_pairs_for_two (T : Tx K mg) (B : Bx base T) : FnOk P w K mg base (L2.CX P w) 1 T.f_pairs_for_two.a T.f_pairs_for_two.fd ["told"] (spD K 1 (d_pairs_for_two T.ad)) := fn_DC T.f_pairs_for_two.F sc_pairs_for_two fun X E cdv A outer s H hcd hr e => by
  have tk : Takes X (fun c d _ H' => E c d H') := by subst e; exact takes_of rfl rfl rfl rfl
  have hu := hu_of hr
  subst e
  exact (dss_cons (ds_asg (GOk.tup (GsOk.cons GOk.name (GsOk.cons GOk.name (GsOk.cons GOk.name (GsOk.cons GOk.name (GsOk.cons GOk.name GsOk.nil)))))) (de_var (pv 0)) (dg_tup rfl (dgs_cons (dg_name (i := 1) sc_pairs_for_two.nd rfl (Or.inl rfl)) (dgs_cons (dg_name (i := 2) sc_pairs_for_two.nd rfl (Or.inl rfl)) (dgs_cons (dg_name (i := 3) sc_pairs_for_two.nd rfl (Or.inl rfl)) (dgs_cons (dg_name (i := 4) sc_pairs_for_two.nd rfl (Or.inl rfl)) (dgs_cons (dg_name (i := 5) sc_pairs_for_two.nd rfl (Or.inl rfl)) dgs_nil)))))))
    (dss_cons (ds_set (i := 6) sc_pairs_for_two.nd rfl (Or.inl rfl) (de_op op_sub og_sub (de_var (pv 5)) (de_var (pv 4))))
    (dss_cons (ds_set (i := 7) sc_pairs_for_two.nd rfl (Or.inl rfl) (de_callB (call_maxA rfl) cg_max rfl T.g_max bt_max (da_cons (de_lst false (da_cons de_int (da_cons (de_op op_addA (og_add false) (de_op op_sub og_sub (de_op op_sub og_sub (de_op op_sub og_sub (de_var (pv 1)) (de_var (pv 3))) (de_var (pv 6))) (de_op op_mulA (og_mul false) de_int (de_var (pv 2)))) (de_op op_mulA (og_mul false) de_int (de_var (pv 5)))) da_nil))) da_nil)))
    (dss_cons (ds_par (i := 8) (j := 9) rfl sc_pairs_for_two.nd rfl rfl (by decide) rfl rfl (da_cons (de_op op_sub og_sub (de_op op_sub og_sub (de_op op_sub og_sub (de_var (pv 1)) (de_var (pv 3))) (de_var (pv 6))) (de_var (pv 7))) (da_cons (de_op op_sub og_sub (de_var (pv 2)) (de_var (pv 5))) da_nil)) rfl)
    (dss_one (ds_ret (de_lst false (da_cons (de_tup (da_cons de_int (da_cons (de_tup (da_cons (de_var (pv 4)) (da_cons (de_op op_sub og_sub (de_var (pv 3)) (de_var (pv 4))) da_nil))) da_nil))) (da_cons (de_tup (da_cons de_int (da_cons (de_tup (da_cons (de_var (pv 7)) (da_cons (de_var (pv 6)) da_nil))) da_nil))) (da_cons (de_tup (da_cons (de_op op_sub og_sub (de_op op_mulA (og_mul false) de_int (de_var (pv 9))) (de_var (pv 8))) (da_cons (de_tup (da_cons de_int (da_cons de_int da_nil))) da_nil))) (da_cons (de_tup (da_cons (de_op op_sub og_sub (de_var (pv 8)) (de_var (pv 9))) (da_cons (de_tup (da_cons de_int (da_cons de_int da_nil))) da_nil))) da_nil)))))))))))
theorem sc_numbers_for : FnScope N_numbers_for ["told"] (defScope s_numbers_for) := ⟨rfl, rfl, rfl, by decide +kernel, rfl, by decide +kernel, by decide +kernel⟩
theorem ok_numbers_for (T : Tx K mg) (B : Bx base T) : FnOk P w K mg base (L2.CX P w) 1 T.f_numbers_for.a T.f_numbers_for.fd ["told"] (spD K 1 (d_numbers_for T.ad)) := fn_DC T.f_numbers_for.F sc_numbers_for fun X E cdv A outer s H hcd hr e => by
  have tk : Takes X (fun c d _ H' => E c d H') := by subst e; exact takes_of rfl rfl rfl rfl
  have hu := hu_of hr
  subst e
  exact (dss_cons (ds_par (i := 1) (j := 2) rfl sc_numbers_for.nd rfl rfl (by decide) rfl rfl (da_cons (de_ix (ix_all hu) og_ix (de_var (pv 0)) de_int fun _ _ => rfl) (da_cons (de_ix (ix_all hu) og_ix (de_var (pv 0)) de_int fun _ _ => rfl) da_nil)) rfl)
    (dss_one (ds_ret (de_lst false (da_cons (de_tup (da_cons de_int (da_cons (de_var (pv 2)) da_nil))) (da_cons (de_tup (da_cons (de_op op_sub og_sub (de_var (pv 1)) (de_var (pv 2))) (da_cons de_int da_nil))) da_nil))))))
theorem sc_items_for : FnScope N_items_for ["many", "told"] (defScope s_items_for) := ⟨rfl, rfl, rfl, by decide +kernel, rfl, by decide +kernel, by decide +kernel⟩
theorem ok_items_for (T : Tx K mg) (B : Bx base T) : FnOk P w K mg base (L2.CX P w) 5 T.f_items_for.a T.f_items_for.fd ["many", "told"] (spD K 2 (d_items_for T.ad)) := fn_DC T.f_items_for.F sc_items_for fun X E cdv A outer s H hcd hr e => by
  have tk : Takes X (fun c d _ H' => E c d H') := by subst e; exact takes_of rfl rfl rfl rfl
  have hu := hu_of hr
  subst e
  exact (dss_cons (ds_set (i := 2) sc_items_for.nd rfl (Or.inl rfl) (de_callN rfl rfl (ok_kinds T B) tk (hr.mono (by decide)) T.f_kinds.g T.f_kinds.F.kp T.f_kinds.b (da_cons (de_var (pv 0)) (da_cons (de_var (pv 1)) da_nil))))
    (dss_cons (ds_asg (GOk.tup (GsOk.cons GOk.name (GsOk.cons GOk.name (GsOk.cons GOk.name (GsOk.cons GOk.name (GsOk.cons GOk.name GsOk.nil)))))) (de_var (pv 1)) (dg_tup rfl (dgs_cons (dg_name (i := 3) sc_items_for.nd rfl (Or.inl rfl)) (dgs_cons (dg_name (i := 4) sc_items_for.nd rfl (Or.inl rfl)) (dgs_cons (dg_name (i := 5) sc_items_for.nd rfl (Or.inl rfl)) (dgs_cons (dg_name (i := 6) sc_items_for.nd rfl (Or.inl rfl)) (dgs_cons (dg_name (i := 7) sc_items_for.nd rfl (Or.inl rfl)) dgs_nil)))))))
    (dss_cons (ds_if (dt_w (dw_or (dt_cmp (op_eqD hr.units) og_eq (de_var (pv 2)) (de_lst false da_nil) (nomark _)) (dw_or (dt_w (dw_and (dt_cmp (op_eqD hr.units) og_eq (de_var (pv 6)) de_int (nomark _)) (dw_and1 (dt_cmp op_gt og_gt (de_var (pv 3)) de_int (nomark _))))) (dw_or1 (dt_w (dw_and (dt_cmp (op_eqD hr.units) og_eq (de_var (pv 0)) de_int (nomark _)) (dw_and (dt_cmp (op_eqD hr.units) og_eq (de_var (pv 7)) (de_var (pv 6)) (nomark _)) (dw_and1 (dt_cmp (op_neD hr.units) og_ne (de_var (pv 4)) (de_var (pv 3)) (nomark _))))))))))
    (dss_one (ds_ret de_non))
    dss_nil)
    (dss_cons (ds_if (dt_cmp (op_eqD hr.units) og_eq (de_var (pv 6)) de_int (nomark _))
    (dss_one (ds_ret (de_tup (da_cons de_int (da_cons (de_lst true da_nil) da_nil)))))
    dss_nil)
    (dss_cons (ds_if (dt_cmp (op_eqD hr.units) og_eq (de_var (pv 0)) de_int (nomark _))
    (dss_one (ds_ret (de_tup (da_cons de_int (da_cons (de_lc (ts := [8]) (own := [("run", 8)]) true (by decide) rfl sc_items_for.nd (di_seq (de_callN rfl rfl (ok_numbers_for T B) tk (hr.mono (by decide)) T.f_numbers_for.g T.f_numbers_for.F.kp T.f_numbers_for.b (da_cons (de_var (pv 1)) da_nil))) (blkOk_by (N := N_items_for) (sc := (defScope s_items_for)) (by decide +kernel)) (fun _ _ _ _ _ => (dg_name (i := 8) sc_items_for.nd rfl (Or.inl rfl))) (fun _ _ _ _ _ => (dts_one (dt_cmp op_gt og_gt (de_ix (ix_all hu) og_ix (de_var (pv 8)) de_int fun _ _ => rfl) de_int (nomark _)))) (fun _ _ _ _ _ => (de_var (pv 8)))) da_nil)))))
    dss_nil)
    (dss_cons (ds_set (i := 9) sc_items_for.nd rfl (Or.inr rfl) (de_ifx (dt_cmp (op_eqD hr.units) og_eq (de_var (pv 5)) de_int (nomark _)) de_int de_int))
    (dss_cons (ds_set (i := 10) sc_items_for.nd rfl (Or.inl rfl) (de_callTy call_tuple_of cg_tuple rfl T.g_tuple bt_tuple (da_cons (de_lc (ts := [11]) (own := [("one", 11)]) false (by decide) rfl sc_items_for.nd (di_seq (de_var (pv 1))) (blkOk_by (N := N_items_for) (sc := (defScope s_items_for)) (by decide +kernel)) (fun _ _ _ _ _ => (dg_name (i := 11) sc_items_for.nd rfl (Or.inl rfl))) (fun _ _ _ _ _ => dts_nil) (fun _ _ _ _ _ => (de_op op_mulA (og_mul false) (de_var (pv 9)) (de_var (pv 11))))) da_nil)))
    (dss_cons (ds_set (i := 12) sc_items_for.nd rfl (Or.inl rfl) (de_ifx (dt_cmp (op_eqD hr.units) og_eq (de_ix (ix_all hu) og_ix (de_var (pv 2)) de_int fun _ _ => rfl) de_str (nomark _)) (de_callN rfl rfl (ok_pairs_for_one T B) tk (hr.mono (by decide)) T.f_pairs_for_one.g T.f_pairs_for_one.F.kp T.f_pairs_for_one.b (da_cons (de_var (pv 10)) da_nil)) (de_callN rfl rfl (ok_pairs_for_two T B) tk (hr.mono (by decide)) T.f_pairs_for_two.g T.f_pairs_for_two.F.kp T.f_pairs_for_two.b (da_cons (de_var (pv 10)) da_nil))))
    (dss_one (ds_ret (de_tup (da_cons (de_var (pv 9)) (da_cons (de_lc (ts := [8]) (own := [("run", 8)]) true (by decide) rfl sc_items_for.nd (di_seq (de_var (pv 12))) (blkOk_by (N := N_items_for) (sc := (defScope s_items_for)) (by decide +kernel)) (fun _ _ _ _ _ => (dg_name (i := 8) sc_items_for.nd rfl (Or.inl rfl))) (fun _ _ _ _ _ => (dts_one (dt_cmp op_gt og_gt (de_ix (ix_all hu) og_ix (de_var (pv 8)) de_int fun _ _ => rfl) de_int (nomark _)))) (fun _ _ _ _ _ => (de_var (pv 8)))) da_nil)))))))))))))
theorem sc__law_five : FnScope N__law_five ["_law_runs"] (defScope s__law_five) := ⟨rfl, rfl, rfl, by decide +kernel, rfl, by decide +kernel, by decide +kernel⟩
theorem ok__law_five (T : Tx K mg) (B : Bx base T) : FnOk P w K mg base (L2.CX P w) 1 T.f__law_five.a T.f__law_five.fd ["_law_runs"] (spD K 1 (d__law_five T.ad)) := fn_DC T.f__law_five.F sc__law_five fun X E cdv A outer s H hcd hr e => by
  have tk : Takes X (fun c d _ H' => E c d H') := by subst e; exact takes_of rfl rfl rfl rfl
  have hu := hu_of hr
  subst e
  exact (dss_cons (ds_asg (GOk.tup (GsOk.cons GOk.name (GsOk.cons GOk.name (GsOk.cons GOk.name (GsOk.cons GOk.name (GsOk.cons GOk.name GsOk.nil)))))) (de_tup (da_cons de_int (da_cons de_int (da_cons de_int (da_cons de_int (da_cons de_int da_nil)))))) (dg_tup rfl (dgs_cons (dg_name (i := 1) sc__law_five.nd rfl (Or.inl rfl)) (dgs_cons (dg_name (i := 2) sc__law_five.nd rfl (Or.inl rfl)) (dgs_cons (dg_name (i := 3) sc__law_five.nd rfl (Or.inl rfl)) (dgs_cons (dg_name (i := 4) sc__law_five.nd rfl (Or.inl rfl)) (dgs_cons (dg_name (i := 5) sc__law_five.nd rfl (Or.inl rfl)) dgs_nil)))))))
    (dss_cons (ds_forA (GOk.tup (GsOk.cons GOk.name (GsOk.cons GOk.name GsOk.nil))) (passes_of rfl) rfl (de_var (pv 0)) (dg_tup rfl (dgs_cons (dg_name (i := 6) sc__law_five.nd rfl (Or.inl rfl)) (dgs_cons (dg_name (i := 7) sc__law_five.nd rfl (Or.inl rfl)) dgs_nil)))
    (dss_cons (ds_asg (GOk.tup (GsOk.cons GOk.name (GsOk.cons GOk.name GsOk.nil))) (de_ifx (dt_val (de_callB call_isiA cg_isi rfl T.g_isinstance bt_isinstance (da_cons (de_var (pv 7)) (da_cons (de_ty rfl T.g_tuple bt_tuple) da_nil)))) (de_var (pv 7)) (de_tup (da_cons (de_var (pv 7)) (da_cons de_int da_nil)))) (dg_tup rfl (dgs_cons (dg_name (i := 8) sc__law_five.nd rfl (Or.inl rfl)) (dgs_cons (dg_name (i := 9) sc__law_five.nd rfl (Or.inl rfl)) dgs_nil))))
    (dss_cons (ds_set (i := 1) sc__law_five.nd rfl (Or.inl rfl) (de_op op_addA (og_add false) (de_var (pv 1)) (de_op op_mulA (og_mul false) (de_var (pv 6)) (de_op op_addA (og_add false) (de_var (pv 8)) (de_var (pv 9))))))
    (dss_cons (ds_set (i := 2) sc__law_five.nd rfl (Or.inl rfl) (de_op op_addA (og_add false) (de_var (pv 2)) (de_op op_mulA (og_mul false) (de_var (pv 6)) (de_callB (call_maxA rfl) cg_max rfl T.g_max bt_max (da_cons (de_var (pv 8)) (da_cons (de_var (pv 9)) da_nil))))))
    (dss_one (ds_par3 (i := 3) (j := 4) (l := 5) rfl sc__law_five.nd rfl rfl rfl (by decide) (by decide) (by decide) rfl rfl rfl (da_cons (de_callB (call_maxA rfl) cg_max rfl T.g_max bt_max (da_cons (de_var (pv 3)) (da_cons (de_op op_addA (og_add false) (de_var (pv 8)) (de_var (pv 9))) da_nil))) (da_cons (de_callB (call_maxA rfl) cg_max rfl T.g_max bt_max (da_cons (de_var (pv 4)) (da_cons (de_var (pv 8)) da_nil))) (da_cons (de_callB (call_maxA rfl) cg_max rfl T.g_max bt_max (da_cons (de_var (pv 5)) (da_cons (de_var (pv 9)) da_nil))) da_nil))) rfl))))))
    (dss_one (ds_ret (de_tup (da_cons (de_var (pv 1)) (da_cons (de_var (pv 2)) (da_cons (de_var (pv 3)) (da_cons (de_callB (call_maxA rfl) cg_max rfl T.g_max bt_max (da_cons (de_var (pv 4)) (da_cons (de_var (pv 5)) da_nil))) (da_cons (de_op op_addA (og_add false) (de_var (pv 4)) (de_var (pv 5))) da_nil))))))))))
theorem sc__law_kinds : FnScope N__law_kinds ["_law_many", "_law_told"] (defScope s__law_kinds) := ⟨rfl, rfl, rfl, by decide +kernel, rfl, by decide +kernel, by decide +kernel⟩
theorem ok__law_kinds (T : Tx K mg) (B : Bx base T) : FnOk P w K mg base (L2.CX P w) 1 T.f__law_kinds.a T.f__law_kinds.fd ["_law_many", "_law_told"] (spD K 2 (d__law_kinds T.ad)) := fn_DC T.f__law_kinds.F sc__law_kinds fun X E cdv A outer s H hcd hr e => by
  have tk : Takes X (fun c d _ H' => E c d H') := by subst e; exact takes_of rfl rfl rfl rfl
  have hu := hu_of hr
  subst e
  exact (dss_cons (ds_asg (GOk.tup (GsOk.cons GOk.name (GsOk.cons GOk.name (GsOk.cons GOk.name (GsOk.cons GOk.name (GsOk.cons GOk.name GsOk.nil)))))) (de_var (pv 1)) (dg_tup rfl (dgs_cons (dg_name (i := 2) sc__law_kinds.nd rfl (Or.inl rfl)) (dgs_cons (dg_name (i := 3) sc__law_kinds.nd rfl (Or.inl rfl)) (dgs_cons (dg_name (i := 4) sc__law_kinds.nd rfl (Or.inl rfl)) (dgs_cons (dg_name (i := 5) sc__law_kinds.nd rfl (Or.inl rfl)) (dgs_cons (dg_name (i := 6) sc__law_kinds.nd rfl (Or.inl rfl)) dgs_nil)))))))
    (dss_cons (ds_if (dt_cmp (op_eqD hr.units) og_eq (de_var (pv 0)) de_int (nomark _))
    (dss_one (ds_ret (de_op op_mulA (og_mul false) (de_lst false (da_cons de_str da_nil)) (de_callTy call_int1 cg_int rfl T.g_int bt_int (da_cons (de_and (de_cmp (op_eqD hr.units) og_eq (de_var (pv 3)) (de_var (pv 2)) (nomark _)) (de_and (de_cmp (op_eqD hr.units) og_eq (de_var (pv 4)) (de_var (pv 5)) (nomark _)) (de_and (de_cmp (op_eqD hr.units) og_eq (de_var (pv 6)) (de_var (pv 5)) (nomark _)) (de_one (de_cmp op_le og_le (de_var (pv 5)) (de_var (pv 2)) (nomark _)))))) da_nil)))))
    dss_nil)
    (dss_cons (ds_set (i := 7) sc__law_kinds.nd rfl (Or.inl rfl) (de_and (de_cmp (op_eqD hr.units) og_eq (de_var (pv 4)) (de_var (pv 6)) (nomark _)) (de_and (de_cmp op_le og_le (de_var (pv 5)) (de_var (pv 6)) (nomark _)) (de_and (de_cmp op_le og_le (de_var (pv 6)) (de_op op_mulA (og_mul false) de_int (de_var (pv 5))) (nomark _)) (de_one (de_cmp op_le og_le (de_var (pv 5)) (de_var (pv 3)) (nomark _)))))))
    (dss_cons (ds_set (i := 7) sc__law_kinds.nd rfl (Or.inl rfl) (de_and (de_var (pv 7)) (de_and (de_cmp op_le og_le (de_op op_addA (og_add false) (de_var (pv 3)) (de_var (pv 6))) (de_op op_addA (og_add false) (de_var (pv 2)) (de_var (pv 5))) (nomark _)) (de_one (de_cmp op_le og_le (de_op op_addA (og_add false) (de_var (pv 2)) (de_op op_mulA (og_mul false) de_int (de_var (pv 5)))) (de_op op_addA (og_add false) (de_op op_mulA (og_mul false) de_int (de_var (pv 3))) (de_var (pv 6))) (nomark _))))))
    (dss_cons (ds_set (i := 8) sc__law_kinds.nd rfl (Or.inl rfl) (de_and (de_cmp op_le og_le (de_var (pv 5)) (de_var (pv 4)) (nomark _)) (de_and (de_cmp op_le og_le (de_var (pv 4)) (de_var (pv 6)) (nomark _)) (de_and (de_cmp op_le og_le (de_var (pv 6)) (de_op op_mulA (og_mul false) de_int (de_var (pv 5))) (nomark _)) (de_one (de_cmp op_le og_le (de_var (pv 6)) (de_var (pv 3)) (nomark _)))))))
    (dss_cons (ds_set (i := 8) sc__law_kinds.nd rfl (Or.inl rfl) (de_and (de_var (pv 8)) (de_and (de_cmp op_le og_le (de_op op_addA (og_add false) (de_var (pv 4)) (de_var (pv 3))) (de_op op_addA (og_add false) (de_var (pv 2)) (de_var (pv 5))) (nomark _)) (de_one (de_cmp op_le og_le (de_op op_addA (og_add false) (de_var (pv 2)) (de_op op_mulA (og_mul false) de_int (de_var (pv 5)))) (de_op op_addA (og_add false) (de_var (pv 4)) (de_op op_mulA (og_mul false) de_int (de_var (pv 3)))) (nomark _))))))
    (dss_cons (ds_set (i := 8) sc__law_kinds.nd rfl (Or.inl rfl) (de_and (de_var (pv 8)) (de_one (de_cmp op_le og_le (de_op op_addA (og_add false) (de_var (pv 2)) (de_op op_mulA (og_mul false) de_int (de_var (pv 6)))) (de_op op_addA (og_add false) (de_op op_mulA (og_mul false) de_int (de_var (pv 4))) (de_op op_mulA (og_mul false) de_int (de_var (pv 3)))) (nomark _)))))
    (dss_one (ds_ret (de_op op_addA (og_add false) (de_op op_mulA (og_mul false) (de_lst false (da_cons de_str da_nil)) (de_callTy call_int1 cg_int rfl T.g_int bt_int (da_cons (de_var (pv 7)) da_nil))) (de_op op_mulA (og_mul false) (de_lst false (da_cons de_str da_nil)) (de_callTy call_int1 cg_int rfl T.g_int bt_int (da_cons (de_var (pv 8)) da_nil)))))))))))))
theorem sc__law_pick : FnScope N__law_pick ["_law_draw", "_law_some"] (defScope s__law_pick) := ⟨rfl, rfl, rfl, by decide +kernel, rfl, by decide +kernel, by decide +kernel⟩
theorem ok__law_pick (T : Tx K mg) (B : Bx base T) : FnOk P w K mg base (L2.CX P w) 3 T.f__law_pick.a T.f__law_pick.fd ["_law_draw", "_law_some"] (spD K 2 (d__law_pick T.ad)) := fn_DC T.f__law_pick.F sc__law_pick fun X E cdv A outer s H hcd hr e => by
  have tk : Takes X (fun c d _ H' => E c d H') := by subst e; exact takes_of rfl rfl rfl rfl
  have hu := hu_of hr
  subst e
  exact (dss_one (ds_ret (de_ix (ix_all hu) og_ix (de_var (pv 1)) (de_callN rfl rfl (ok__law_take T B) tk (hr.mono (by decide)) T.f__law_take.g T.f__law_take.F.kp T.f__law_take.b (da_cons (de_var (pv 0)) (da_cons (de_callB call_lenA cg_len rfl T.g_len bt_len (da_cons (de_var (pv 1)) da_nil)) da_nil))) fun _ _ => rfl)))
theorem sc_law : FnScope N_law ["_law_script"] (defScope s_law) := ⟨rfl, rfl, rfl, by decide +kernel, rfl, by decide +kernel, by decide +kernel⟩
theorem ok_law (T : Tx K mg) (B : Bx base T) : FnOk P w K mg base (L2.CX P w) 6 T.f_law.a T.f_law.fd ["_law_script"] (spD K 1 (d_law T.ad)) := fn_DC T.f_law.F sc_law fun X E cdv A outer s H hcd hr e => by
  have tk : Takes X (fun c d _ H' => E c d H') := by subst e; exact takes_of rfl rfl rfl rfl
  have hu := hu_of hr
  subst e
  exact (dss_cons (ds_set (i := 1) sc_law.nd rfl (Or.inl rfl) (de_callN rfl rfl (ok__law_begin T B) tk (hr.mono (by decide)) T.f__law_begin.g T.f__law_begin.F.kp T.f__law_begin.b (da_cons (de_var (pv 0)) da_nil)))
    (dss_cons (ds_set (i := 2) sc_law.nd rfl (Or.inl rfl) de_newN)
    (dss_cons (ds_for GOk.name (passes_of rfl) rfl (di_seq (de_tup (da_cons de_bl (da_cons de_bl da_nil)))) (dg_name (i := 3) sc_law.nd rfl (Or.inl rfl))
    (dss_cons (ds_set (i := 4) sc_law.nd rfl (Or.inl rfl) (de_op op_addA (og_add false) de_int (de_callTy call_int1 cg_int rfl T.g_int bt_int (da_cons (de_var (pv 3)) da_nil))))
    (dss_one (ds_for GOk.name (passes_of rfl) rfl (di_seq (de_callN rfl rfl (ok__law_small_lists T B) tk (hr.mono (by decide)) T.f__law_small_lists.g T.f__law_small_lists.F.kp T.f__law_small_lists.b (da_cons (de_ifx (dt_val (de_var (pv 3))) de_int de_int) (da_cons (de_ifx (dt_val (de_var (pv 3))) de_int de_int) (da_cons (de_var (pv 3)) da_nil))))) (dg_name (i := 5) sc_law.nd rfl (Or.inl rfl))
    (dss_one (ds_subN (hu65_of hr) (de_var (pv 2)) (de_tup (da_cons (de_var (pv 4)) (da_cons (de_callN rfl rfl (ok__law_five T B) tk (hr.mono (by decide)) T.f__law_five.g T.f__law_five.F.kp T.f__law_five.b (da_cons (de_var (pv 5)) da_nil)) da_nil))) de_bl))))))
    (dss_cons (ds_set (i := 6) sc_law.nd rfl (Or.inl rfl) (de_slice false (de_callN rfl rfl (ok__law_mixed T B) tk (hr.mono (by decide)) T.f__law_mixed.g T.f__law_mixed.F.kp T.f__law_mixed.b (da_cons (de_var (pv 1)) (da_cons (de_callTy (call_list_nd rfl) cg_listN rfl T.g_list bt_list (da_cons (de_var (pv 2)) da_nil)) da_nil))) do_none (do_some de_int)))
    (dss_frz 7 (dss_cons (ds_for (GOk.tup (GsOk.cons GOk.name (GsOk.cons GOk.name GsOk.nil))) (passes_of rfl) rfl (di_seq (de_var (pv 6))) (dg_tup rfl (dgs_cons (dg_name (i := 4) sc_law.nd rfl (Or.inl rfl)) (dgs_cons (dg_name (i := 7) sc_law.nd rfl (Or.inl rfl)) dgs_nil)))
    (dss_cons (ds_set (i := 8) sc_law.nd rfl (Or.inr rfl) (de_callN rfl rfl (ok_items_for T B) tk (hr.mono (by decide)) T.f_items_for.g T.f_items_for.F.kp T.f_items_for.b (da_cons (de_var (pv 4)) (da_cons (de_var (pv 7)) da_nil))))
    (dss_cons (ds_if (dt_w (dw_or (dt_cmp (op_neD hr.units) og_ne (de_callN rfl rfl (ok_kinds T B) tk (hr.mono (by decide)) T.f_kinds.g T.f_kinds.F.kp T.f_kinds.b (da_cons (de_var (pv 4)) (da_cons (de_var (pv 7)) da_nil))) (de_callN rfl rfl (ok__law_kinds T B) tk (hr.mono (by decide)) T.f__law_kinds.g T.f__law_kinds.F.kp T.f__law_kinds.b (da_cons (de_var (pv 4)) (da_cons (de_var (pv 7)) da_nil))) (nomark _)) (dw_or1 (dt_cmp op_isN og_isN (de_var (pv 8)) de_non (nomark _)))))
    (dss_one (ds_ret de_bl))
    dss_nil)
    (dss_one (ds_if (dt_cmp (op_neD hr.units) og_ne (de_callN rfl rfl (ok__law_five T B) tk (hr.mono (by decide)) T.f__law_five.g T.f__law_five.F.kp T.f__law_five.b (da_cons (de_ix (ix_all hu) og_ix (de_var (pv 8)) de_int fun _ _ => rfl) da_nil)) (de_callTy call_tuple_of cg_tuple rfl T.g_tuple bt_tuple (da_cons (de_lc (ts := [9]) (own := [("_law_one", 9)]) false (by decide) rfl sc_law.nd (di_seq (de_var (pv 7))) (blkOk_by (N := N_law) (sc := (defScope s_law)) (by decide +kernel)) (fun _ _ _ _ _ => (dg_name (i := 9) sc_law.nd rfl (Or.inl rfl))) (fun _ _ _ _ _ => dts_nil) (fun _ _ _ _ _ => (de_op op_mulA (og_mul false) (de_ix (ix_all hu) og_ix (de_var (pv 8)) de_int fun _ _ => rfl) (de_var (pv 9))))) da_nil)) (nomark _))
    (dss_one (ds_ret de_bl))
    dss_nil)))))
    (dss_frz 7 (dss_cons (ds_for GOk.name (passes_of rfl) rfl (di_range1 rfl T.g_range (da_cons de_int da_nil)) (dg_name (i := 10) sc_law.nd rfl (Or.inl rfl))
    (dss_cons (ds_set (i := 4) sc_law.nd rfl (Or.inl rfl) (de_op op_addA (og_add false) de_int (de_callN rfl rfl (ok__law_take T B) tk (hr.mono (by decide)) T.f__law_take.g T.f__law_take.F.kp T.f__law_take.b (da_cons (de_var (pv 1)) (da_cons de_int da_nil)))))
    (dss_cons (ds_set (i := 7) sc_law.nd rfl (Or.inl rfl) (de_callTy call_list_of (cg_list true) rfl T.g_list bt_list (da_cons (de_ix (ix_all hu) og_ix (de_callN rfl rfl (ok__law_pick T B) tk (hr.mono (by decide)) T.f__law_pick.g T.f__law_pick.F.kp T.f__law_pick.b (da_cons (de_var (pv 1)) (da_cons (de_callTy (call_list_nd rfl) cg_listN rfl T.g_list bt_list (da_cons (de_var (pv 2)) da_nil)) da_nil))) de_int fun _ _ => rfl) da_nil)))
    (dss_cons (ds_set (i := 11) sc_law.nd rfl (Or.inl rfl) (de_callN rfl rfl (ok__law_take T B) tk (hr.mono (by decide)) T.f__law_take.g T.f__law_take.F.kp T.f__law_take.b (da_cons (de_var (pv 1)) (da_cons de_int da_nil))))
    (dss_cons (ds_sub hu (de_var (pv 7)) (de_var (pv 11)) (de_callB (call_maxA rfl) cg_max rfl T.g_max bt_max (da_cons de_int (da_cons (de_op op_addA (og_add false) (de_ix (ix_all hu) og_ix (de_var (pv 7)) (de_var (pv 11)) fun _ _ => rfl) (de_callN rfl rfl (ok__law_pick T B) tk (hr.mono (by decide)) T.f__law_pick.g T.f__law_pick.F.kp T.f__law_pick.b (da_cons (de_var (pv 1)) (da_cons (de_lst false (da_cons de_int (da_cons (de_un un_neg ug_neg de_int) (da_cons de_int (da_cons (de_un un_neg ug_neg de_int) da_nil))))) da_nil)))) da_nil))))
    (dss_frz 7 (dss_cons (ds_set (i := 12) sc_law.nd rfl (Or.inl rfl) (de_callTy call_tuple_of cg_tuple rfl T.g_tuple bt_tuple (da_cons (de_lc (ts := [9]) (own := [("_law_one", 9)]) false (by decide) rfl sc_law.nd (di_seq (de_var (pv 7))) (blkOk_by (N := N_law) (sc := (defScope s_law)) (by decide +kernel)) (fun _ _ _ _ _ => (dg_name (i := 9) sc_law.nd rfl (Or.inl rfl))) (fun _ _ _ _ _ => dts_nil) (fun _ _ _ _ _ => (de_op op_mulA (og_mul false) de_int (de_var (pv 9))))) da_nil)))
    (dss_cons (ds_if (dt_w (dw_and (dt_cmp (op_eqD hr.units) og_eq (de_callN rfl rfl (ok_kinds T B) tk (hr.mono (by decide)) T.f_kinds.g T.f_kinds.F.kp T.f_kinds.b (da_cons (de_var (pv 4)) (da_cons (de_callTy call_tuple_of cg_tuple rfl T.g_tuple bt_tuple (da_cons (de_var (pv 7)) da_nil)) da_nil))) (de_lst false da_nil) (nomark _)) (dw_and1 (dt_w (dw_or (dt_cmp (op_inN (hu65_of hr)) (og_inN false) (de_tup (da_cons (de_var (pv 4)) (da_cons (de_callTy call_tuple_of cg_tuple rfl T.g_tuple bt_tuple (da_cons (de_var (pv 7)) da_nil)) da_nil))) (de_var (pv 2)) rfl) (dw_or1 (dt_cmp (op_inN (hu65_of hr)) (og_inN false) (de_tup (da_cons (de_var (pv 4)) (da_cons (de_var (pv 12)) da_nil))) (de_var (pv 2)) rfl)))))))
    (dss_one (ds_ret de_bl))
    dss_nil)
    (dss_one (ds_if (dt_w (dw_and (dt_cmp op_isN og_isN (de_callN rfl rfl (ok_items_for T B) tk (hr.mono (by decide)) T.f_items_for.g T.f_items_for.F.kp T.f_items_for.b (da_cons (de_var (pv 4)) (da_cons (de_callTy call_tuple_of cg_tuple rfl T.g_tuple bt_tuple (da_cons (de_var (pv 7)) da_nil)) da_nil))) de_non (nomark _)) (dw_and1 (dt_w (dw_or (dt_cmp (op_inN (hu65_of hr)) (og_inN false) (de_tup (da_cons (de_var (pv 4)) (da_cons (de_callTy call_tuple_of cg_tuple rfl T.g_tuple bt_tuple (da_cons (de_var (pv 7)) da_nil)) da_nil))) (de_var (pv 2)) rfl) (dw_or1 (dt_cmp (op_inN (hu65_of hr)) (og_inN false) (de_tup (da_cons (de_var (pv 4)) (da_cons (de_var (pv 12)) da_nil))) (de_var (pv 2)) rfl)))))))
    (dss_one (ds_ret de_bl))
    dss_nil))))))))))
    (dss_one (ds_ret de_bl))))))))))
end
def mk_T {K K2 : PySem.W.Frag} {mg : Str → Option Value} {h : Heap} (Th : Thin K K2) (KX : K2.In h) (G : h.Ns mainGlobals mg)
    {a__law_begin : Addr} {oc__law_begin kV__law_begin dc__law_begin pm__law_begin cd__law_begin ct__law_begin : Value} {od__law_begin an__law_begin : Option Addr} {sl__law_begin : Array (Option Value)} (e__law_begin : PySem.W.nsIn K mainGlobals "_law_begin" = some (some (.ref a__law_begin))) (l__law_begin : K.lookup a__law_begin = some ⟨oc__law_begin, od__law_begin, .func (PySem.W.fnOf "_law_begin" "_law_begin" (defArgs s__law_begin) (defBody s__law_begin) (defScope s__law_begin) .none kV__law_begin dc__law_begin pm__law_begin an__law_begin cd__law_begin ct__law_begin), sl__law_begin⟩) (i__law_begin : PySem.W.codeIn K cd__law_begin "_law_begin" = true) (k__law_begin : PySem.W.keepIn K (.ref a__law_begin) = true)
    {a__law_small_lists : Addr} {oc__law_small_lists kV__law_small_lists dc__law_small_lists pm__law_small_lists cd__law_small_lists ct__law_small_lists : Value} {od__law_small_lists an__law_small_lists : Option Addr} {sl__law_small_lists : Array (Option Value)} (e__law_small_lists : PySem.W.nsIn K mainGlobals "_law_small_lists" = some (some (.ref a__law_small_lists))) (l__law_small_lists : K.lookup a__law_small_lists = some ⟨oc__law_small_lists, od__law_small_lists, .func (PySem.W.fnOf "_law_small_lists" "_law_small_lists" (defArgs s__law_small_lists) (defBody s__law_small_lists) (defScope s__law_small_lists) .none kV__law_small_lists dc__law_small_lists pm__law_small_lists an__law_small_lists cd__law_small_lists ct__law_small_lists), sl__law_small_lists⟩) (i__law_small_lists : PySem.W.codeIn K cd__law_small_lists "_law_small_lists" = true) (k__law_small_lists : PySem.W.keepIn K (.ref a__law_small_lists) = true)
    {a__law_blend : Addr} {oc__law_blend kV__law_blend dc__law_blend pm__law_blend cd__law_blend ct__law_blend : Value} {od__law_blend an__law_blend : Option Addr} {sl__law_blend : Array (Option Value)} (e__law_blend : PySem.W.nsIn K mainGlobals "_law_blend" = some (some (.ref a__law_blend))) (l__law_blend : K.lookup a__law_blend = some ⟨oc__law_blend, od__law_blend, .func (PySem.W.fnOf "_law_blend" "_law_blend" (defArgs s__law_blend) (defBody s__law_blend) (defScope s__law_blend) .none kV__law_blend dc__law_blend pm__law_blend an__law_blend cd__law_blend ct__law_blend), sl__law_blend⟩) (i__law_blend : PySem.W.codeIn K cd__law_blend "_law_blend" = true) (k__law_blend : PySem.W.keepIn K (.ref a__law_blend) = true)
    {a__law_take : Addr} {oc__law_take kV__law_take dc__law_take pm__law_take cd__law_take ct__law_take : Value} {od__law_take an__law_take : Option Addr} {sl__law_take : Array (Option Value)} (e__law_take : PySem.W.nsIn K mainGlobals "_law_take" = some (some (.ref a__law_take))) (l__law_take : K.lookup a__law_take = some ⟨oc__law_take, od__law_take, .func (PySem.W.fnOf "_law_take" "_law_take" (defArgs s__law_take) (defBody s__law_take) (defScope s__law_take) .none kV__law_take dc__law_take pm__law_take an__law_take cd__law_take ct__law_take), sl__law_take⟩) (i__law_take : PySem.W.codeIn K cd__law_take "_law_take" = true) (k__law_take : PySem.W.keepIn K (.ref a__law_take) = true)
    {a__law_mixed : Addr} {oc__law_mixed kV__law_mixed dc__law_mixed pm__law_mixed cd__law_mixed ct__law_mixed : Value} {od__law_mixed an__law_mixed : Option Addr} {sl__law_mixed : Array (Option Value)} (e__law_mixed : PySem.W.nsIn K mainGlobals "_law_mixed" = some (some (.ref a__law_mixed))) (l__law_mixed : K.lookup a__law_mixed = some ⟨oc__law_mixed, od__law_mixed, .func (PySem.W.fnOf "_law_mixed" "_law_mixed" (defArgs s__law_mixed) (defBody s__law_mixed) (defScope s__law_mixed) .none kV__law_mixed dc__law_mixed pm__law_mixed an__law_mixed cd__law_mixed ct__law_mixed), sl__law_mixed⟩) (i__law_mixed : PySem.W.codeIn K cd__law_mixed "_law_mixed" = true) (k__law_mixed : PySem.W.keepIn K (.ref a__law_mixed) = true)
    {a_is_number : Addr} {oc_is_number kV_is_number dc_is_number pm_is_number cd_is_number ct_is_number : Value} {od_is_number an_is_number : Option Addr} {sl_is_number : Array (Option Value)} (e_is_number : PySem.W.nsIn K mainGlobals "is_number" = some (some (.ref a_is_number))) (l_is_number : K.lookup a_is_number = some ⟨oc_is_number, od_is_number, .func (PySem.W.fnOf "is_number" "is_number" (defArgs s_is_number) (defBody s_is_number) (defScope s_is_number) .none kV_is_number dc_is_number pm_is_number an_is_number cd_is_number ct_is_number), sl_is_number⟩) (i_is_number : PySem.W.codeIn K cd_is_number "is_number" = true) (k_is_number : PySem.W.keepIn K (.ref a_is_number) = true)
    {a_is_from_zero : Addr} {oc_is_from_zero kV_is_from_zero dc_is_from_zero pm_is_from_zero cd_is_from_zero ct_is_from_zero : Value} {od_is_from_zero an_is_from_zero : Option Addr} {sl_is_from_zero : Array (Option Value)} (e_is_from_zero : PySem.W.nsIn K mainGlobals "is_from_zero" = some (some (.ref a_is_from_zero))) (l_is_from_zero : K.lookup a_is_from_zero = some ⟨oc_is_from_zero, od_is_from_zero, .func (PySem.W.fnOf "is_from_zero" "is_from_zero" (defArgs s_is_from_zero) (defBody s_is_from_zero) (defScope s_is_from_zero) .none kV_is_from_zero dc_is_from_zero pm_is_from_zero an_is_from_zero cd_is_from_zero ct_is_from_zero), sl_is_from_zero⟩) (i_is_from_zero : PySem.W.codeIn K cd_is_from_zero "is_from_zero" = true) (k_is_from_zero : PySem.W.keepIn K (.ref a_is_from_zero) = true)
    {a_need_told : Addr} {oc_need_told kV_need_told dc_need_told pm_need_told cd_need_told ct_need_told : Value} {od_need_told an_need_told : Option Addr} {sl_need_told : Array (Option Value)} (e_need_told : PySem.W.nsIn K mainGlobals "need_told" = some (some (.ref a_need_told))) (l_need_told : K.lookup a_need_told = some ⟨oc_need_told, od_need_told, .func (PySem.W.fnOf "need_told" "need_told" (defArgs s_need_told) (defBody s_need_told) (defScope s_need_told) .none kV_need_told dc_need_told pm_need_told an_need_told cd_need_told ct_need_told), sl_need_told⟩) (i_need_told : PySem.W.codeIn K cd_need_told "need_told" = true) (k_need_told : PySem.W.keepIn K (.ref a_need_told) = true)
    {a_kind_words : Addr} {oc_kind_words kV_kind_words dc_kind_words pm_kind_words cd_kind_words ct_kind_words : Value} {od_kind_words an_kind_words : Option Addr} {sl_kind_words : Array (Option Value)} (e_kind_words : PySem.W.nsIn K mainGlobals "kind_words" = some (some (.ref a_kind_words))) (l_kind_words : K.lookup a_kind_words = some ⟨oc_kind_words, od_kind_words, .func (PySem.W.fnOf "kind_words" "kind_words" (defArgs s_kind_words) (defBody s_kind_words) (defScope s_kind_words) .none kV_kind_words dc_kind_words pm_kind_words an_kind_words cd_kind_words ct_kind_words), sl_kind_words⟩) (i_kind_words : PySem.W.codeIn K cd_kind_words "kind_words" = true) (k_kind_words : PySem.W.keepIn K (.ref a_kind_words) = true)
    {a_worth_of : Addr} {oc_worth_of kV_worth_of dc_worth_of pm_worth_of cd_worth_of ct_worth_of : Value} {od_worth_of an_worth_of : Option Addr} {sl_worth_of : Array (Option Value)} (e_worth_of : PySem.W.nsIn K mainGlobals "worth_of" = some (some (.ref a_worth_of))) (l_worth_of : K.lookup a_worth_of = some ⟨oc_worth_of, od_worth_of, .func (PySem.W.fnOf "worth_of" "worth_of" (defArgs s_worth_of) (defBody s_worth_of) (defScope s_worth_of) .none kV_worth_of dc_worth_of pm_worth_of an_worth_of cd_worth_of ct_worth_of), sl_worth_of⟩) (i_worth_of : PySem.W.codeIn K cd_worth_of "worth_of" = true) (k_worth_of : PySem.W.keepIn K (.ref a_worth_of) = true)
    {a_list_facts : Addr} {oc_list_facts kV_list_facts dc_list_facts pm_list_facts cd_list_facts ct_list_facts : Value} {od_list_facts an_list_facts : Option Addr} {sl_list_facts : Array (Option Value)} (e_list_facts : PySem.W.nsIn K mainGlobals "list_facts" = some (some (.ref a_list_facts))) (l_list_facts : K.lookup a_list_facts = some ⟨oc_list_facts, od_list_facts, .func (PySem.W.fnOf "list_facts" "list_facts" (defArgs s_list_facts) (defBody s_list_facts) (defScope s_list_facts) .none kV_list_facts dc_list_facts pm_list_facts an_list_facts cd_list_facts ct_list_facts), sl_list_facts⟩) (i_list_facts : PySem.W.codeIn K cd_list_facts "list_facts" = true) (k_list_facts : PySem.W.keepIn K (.ref a_list_facts) = true)
    {a_keeps : Addr} {oc_keeps kV_keeps dc_keeps pm_keeps cd_keeps ct_keeps : Value} {od_keeps an_keeps : Option Addr} {sl_keeps : Array (Option Value)} (e_keeps : PySem.W.nsIn K mainGlobals "keeps" = some (some (.ref a_keeps))) (l_keeps : K.lookup a_keeps = some ⟨oc_keeps, od_keeps, .func (PySem.W.fnOf "keeps" "keeps" (defArgs s_keeps) (defBody s_keeps) (defScope s_keeps) .none kV_keeps dc_keeps pm_keeps an_keeps cd_keeps ct_keeps), sl_keeps⟩) (i_keeps : PySem.W.codeIn K cd_keeps "keeps" = true) (k_keeps : PySem.W.keepIn K (.ref a_keeps) = true)
    {a_kinds : Addr} {oc_kinds kV_kinds dc_kinds pm_kinds cd_kinds ct_kinds : Value} {od_kinds an_kinds : Option Addr} {sl_kinds : Array (Option Value)} (e_kinds : PySem.W.nsIn K mainGlobals "kinds" = some (some (.ref a_kinds))) (l_kinds : K.lookup a_kinds = some ⟨oc_kinds, od_kinds, .func (PySem.W.fnOf "kinds" "kinds" (defArgs s_kinds) (defBody s_kinds) (defScope s_kinds) .none kV_kinds dc_kinds pm_kinds an_kinds cd_kinds ct_kinds), sl_kinds⟩) (i_kinds : PySem.W.codeIn K cd_kinds "kinds" = true) (k_kinds : PySem.W.keepIn K (.ref a_kinds) = true)
    {a_pairs_for_one : Addr} {oc_pairs_for_one kV_pairs_for_one dc_pairs_for_one pm_pairs_for_one cd_pairs_for_one ct_pairs_for_one : Value} {od_pairs_for_one an_pairs_for_one : Option Addr} {sl_pairs_for_one : Array (Option Value)} (e_pairs_for_one : PySem.W.nsIn K mainGlobals "pairs_for_one" = some (some (.ref a_pairs_for_one))) (l_pairs_for_one : K.lookup a_pairs_for_one = some ⟨oc_pairs_for_one, od_pairs_for_one, .func (PySem.W.fnOf "pairs_for_one" "pairs_for_one" (defArgs s_pairs_for_one) (defBody s_pairs_for_one) (defScope s_pairs_for_one) .none kV_pairs_for_one dc_pairs_for_one pm_pairs_for_one an_pairs_for_one cd_pairs_for_one ct_pairs_for_one), sl_pairs_for_one⟩) (i_pairs_for_one : PySem.W.codeIn K cd_pairs_for_one "pairs_for_one" = true) (k_pairs_for_one : PySem.W.keepIn K (.ref a_pairs_for_one) = true)
    {a_pairs_for_two : Addr} {oc_pairs_for_two kV_pairs_for_two dc_pairs_for_two pm_pairs_for_two cd_pairs_for_two ct_pairs_for_two : Value} {od_pairs_for_two an_pairs_for_two : Option Addr} {sl_pairs_for_two : Array (Option Value)} (e_pairs_for_two : PySem.W.nsIn K mainGlobals "pairs_for_two" = some (some (.ref a_pairs_for_two))) (l_pairs_for_two : K.lookup a_pairs_for_two = some ⟨oc_pairs_for_two, od_pairs_for_two, .func (PySem.W.fnOf "pairs_for_two" "pairs_for_two" (defArgs s_pairs_for_two) (defBody s_pairs_for_two) (defScope s_pairs_for_two) .none kV_pairs_for_two dc_pairs_for_two pm_pairs_for_two an_pairs_for_two cd_pairs_for_two ct_pairs_for_two), sl_pairs_for_two⟩) (i_pairs_for_two : PySem.W.codeIn K cd_pairs_for_two "pairs_for_two" = true) (k_pairs_for_two : PySem.W.keepIn K (.ref a_pairs_for_two) = true)
    {a_numbers_for : Addr} {oc_numbers_for kV_numbers_for dc_numbers_for pm_numbers_for cd_numbers_for ct_numbers_for : Value} {od_numbers_for an_numbers_for : Option Addr} {sl_numbers_for : Array (Option Value)} (e_numbers_for : PySem.W.nsIn K mainGlobals "numbers_for" = some (some (.ref a_numbers_for))) (l_numbers_for : K.lookup a_numbers_for = some ⟨oc_numbers_for, od_numbers_for, .func (PySem.W.fnOf "numbers_for" "numbers_for" (defArgs s_numbers_for) (defBody s_numbers_for) (defScope s_numbers_for) .none kV_numbers_for dc_numbers_for pm_numbers_for an_numbers_for cd_numbers_for ct_numbers_for), sl_numbers_for⟩) (i_numbers_for : PySem.W.codeIn K cd_numbers_for "numbers_for" = true) (k_numbers_for : PySem.W.keepIn K (.ref a_numbers_for) = true)
    {a_items_for : Addr} {oc_items_for kV_items_for dc_items_for pm_items_for cd_items_for ct_items_for : Value} {od_items_for an_items_for : Option Addr} {sl_items_for : Array (Option Value)} (e_items_for : PySem.W.nsIn K mainGlobals "items_for" = some (some (.ref a_items_for))) (l_items_for : K.lookup a_items_for = some ⟨oc_items_for, od_items_for, .func (PySem.W.fnOf "items_for" "items_for" (defArgs s_items_for) (defBody s_items_for) (defScope s_items_for) .none kV_items_for dc_items_for pm_items_for an_items_for cd_items_for ct_items_for), sl_items_for⟩) (i_items_for : PySem.W.codeIn K cd_items_for "items_for" = true) (k_items_for : PySem.W.keepIn K (.ref a_items_for) = true)
    {a__law_five : Addr} {oc__law_five kV__law_five dc__law_five pm__law_five cd__law_five ct__law_five : Value} {od__law_five an__law_five : Option Addr} {sl__law_five : Array (Option Value)} (e__law_five : PySem.W.nsIn K mainGlobals "_law_five" = some (some (.ref a__law_five))) (l__law_five : K.lookup a__law_five = some ⟨oc__law_five, od__law_five, .func (PySem.W.fnOf "_law_five" "_law_five" (defArgs s__law_five) (defBody s__law_five) (defScope s__law_five) .none kV__law_five dc__law_five pm__law_five an__law_five cd__law_five ct__law_five), sl__law_five⟩) (i__law_five : PySem.W.codeIn K cd__law_five "_law_five" = true) (k__law_five : PySem.W.keepIn K (.ref a__law_five) = true)
    {a__law_kinds : Addr} {oc__law_kinds kV__law_kinds dc__law_kinds pm__law_kinds cd__law_kinds ct__law_kinds : Value} {od__law_kinds an__law_kinds : Option Addr} {sl__law_kinds : Array (Option Value)} (e__law_kinds : PySem.W.nsIn K mainGlobals "_law_kinds" = some (some (.ref a__law_kinds))) (l__law_kinds : K.lookup a__law_kinds = some ⟨oc__law_kinds, od__law_kinds, .func (PySem.W.fnOf "_law_kinds" "_law_kinds" (defArgs s__law_kinds) (defBody s__law_kinds) (defScope s__law_kinds) .none kV__law_kinds dc__law_kinds pm__law_kinds an__law_kinds cd__law_kinds ct__law_kinds), sl__law_kinds⟩) (i__law_kinds : PySem.W.codeIn K cd__law_kinds "_law_kinds" = true) (k__law_kinds : PySem.W.keepIn K (.ref a__law_kinds) = true)
    {a__law_pick : Addr} {oc__law_pick kV__law_pick dc__law_pick pm__law_pick cd__law_pick ct__law_pick : Value} {od__law_pick an__law_pick : Option Addr} {sl__law_pick : Array (Option Value)} (e__law_pick : PySem.W.nsIn K mainGlobals "_law_pick" = some (some (.ref a__law_pick))) (l__law_pick : K.lookup a__law_pick = some ⟨oc__law_pick, od__law_pick, .func (PySem.W.fnOf "_law_pick" "_law_pick" (defArgs s__law_pick) (defBody s__law_pick) (defScope s__law_pick) .none kV__law_pick dc__law_pick pm__law_pick an__law_pick cd__law_pick ct__law_pick), sl__law_pick⟩) (i__law_pick : PySem.W.codeIn K cd__law_pick "_law_pick" = true) (k__law_pick : PySem.W.keepIn K (.ref a__law_pick) = true)
    {a_law : Addr} {oc_law kV_law dc_law pm_law cd_law ct_law : Value} {od_law an_law : Option Addr} {sl_law : Array (Option Value)} (e_law : PySem.W.nsIn K mainGlobals "law" = some (some (.ref a_law))) (l_law : K.lookup a_law = some ⟨oc_law, od_law, .func (PySem.W.fnOf "law" "law" (defArgs s_law) (defBody s_law) (defScope s_law) .none kV_law dc_law pm_law an_law cd_law ct_law), sl_law⟩) (i_law : PySem.W.codeIn K cd_law "law" = true) (k_law : PySem.W.keepIn K (.ref a_law) = true)
    (z_abs : PySem.W.nsIn K mainGlobals "abs" = some none)
    (z_list : PySem.W.nsIn K mainGlobals "list" = some none)
    (z_range : PySem.W.nsIn K mainGlobals "range" = some none)
    (z_int : PySem.W.nsIn K mainGlobals "int" = some none)
    (z_len : PySem.W.nsIn K mainGlobals "len" = some none)
    (z_isinstance : PySem.W.nsIn K mainGlobals "isinstance" = some none)
    (z_bool : PySem.W.nsIn K mainGlobals "bool" = some none)
    (z_tuple : PySem.W.nsIn K mainGlobals "tuple" = some none)
    (z_all : PySem.W.nsIn K mainGlobals "all" = some none)
    (z_sum : PySem.W.nsIn K mainGlobals "sum" = some none)
    (z_max : PySem.W.nsIn K mainGlobals "max" = some none)
    {b_WORDS : Addr} (x_WORDS : PySem.W.nsIn K mainGlobals "WORDS" = some (some (.ref b_WORDS)))
    (y_WORDS : repK K 8 (.ref b_WORDS) = some c_WORDS)
    {o_WORDS : Obj} (u_WORDS : K.lookup b_WORDS = some o_WORDS)
    (v_WORDS : o_WORDS.cls = .type "tuple") (w_WORDS : o_WORDS.dict = none)
    {b_ONE_BOX : Addr} (x_ONE_BOX : PySem.W.nsIn K mainGlobals "ONE_BOX" = some (some (.ref b_ONE_BOX)))
    (y_ONE_BOX : repK K 8 (.ref b_ONE_BOX) = some c_ONE_BOX)
    {b_KIND_ONE : Addr} (x_KIND_ONE : PySem.W.nsIn K mainGlobals "KIND_ONE" = some (some (.ref b_KIND_ONE)))
    (y_KIND_ONE : repK K 8 (.ref b_KIND_ONE) = some c_KIND_ONE)
    {b_KIND_TWO : Addr} (x_KIND_TWO : PySem.W.nsIn K mainGlobals "KIND_TWO" = some (some (.ref b_KIND_TWO)))
    (y_KIND_TWO : repK K 8 (.ref b_KIND_TWO) = some c_KIND_TWO)
    {a_BadAmounts : Addr} (e_BadAmounts : PySem.W.nsIn K mainGlobals "BadAmounts" = some (some (.ref a_BadAmounts)))
    (q_BadAmounts : PySem.W.excIn K a_BadAmounts [.type "ValueError", .type "Exception", .type "BaseException", .type "object"] "ValueError.__new__" = true)
    (k_BadAmounts : PySem.W.keepIn K (.ref a_BadAmounts) = true) (b_BadAmounts : PySem.W.subIn K (.ref a_BadAmounts) (.type "BaseException") = some true) (t_BadAmounts : PySem.W.typeIn K (.ref a_BadAmounts) = some (.type "type"))
    (j_BadAmounts : excCB K a_BadAmounts = true) : Tx K2 mg where
  f__law_begin := FnF.ofT Th KX G (fun _ _ _ _ _ _ us hl => match us, hl with | [_], _ => rfl) e__law_begin l__law_begin i__law_begin k__law_begin
  f__law_small_lists := FnF.ofT Th KX G (fun _ _ _ _ _ _ us hl => match us, hl with | [_, _, _], _ => rfl) e__law_small_lists l__law_small_lists i__law_small_lists k__law_small_lists
  f__law_blend := FnF.ofT Th KX G (fun _ _ _ _ _ _ us hl => match us, hl with | [_], _ => rfl) e__law_blend l__law_blend i__law_blend k__law_blend
  f__law_take := FnF.ofT Th KX G (fun _ _ _ _ _ _ us hl => match us, hl with | [_, _], _ => rfl) e__law_take l__law_take i__law_take k__law_take
  f__law_mixed := FnF.ofT Th KX G (fun _ _ _ _ _ _ us hl => match us, hl with | [_, _], _ => rfl) e__law_mixed l__law_mixed i__law_mixed k__law_mixed
  f_is_number := FnF.ofT Th KX G (fun _ _ _ _ _ _ us hl => match us, hl with | [_], _ => rfl) e_is_number l_is_number i_is_number k_is_number
  f_is_from_zero := FnF.ofT Th KX G (fun _ _ _ _ _ _ us hl => match us, hl with | [_], _ => rfl) e_is_from_zero l_is_from_zero i_is_from_zero k_is_from_zero
  f_need_told := FnF.ofT Th KX G (fun _ _ _ _ _ _ us hl => match us, hl with | [_, _], _ => rfl) e_need_told l_need_told i_need_told k_need_told
  f_kind_words := FnF.ofT Th KX G (fun _ _ _ _ _ _ us hl => match us, hl with | [_], _ => rfl) e_kind_words l_kind_words i_kind_words k_kind_words
  f_worth_of := FnF.ofT Th KX G (fun _ _ _ _ _ _ us hl => match us, hl with | [_, _], _ => rfl) e_worth_of l_worth_of i_worth_of k_worth_of
  f_list_facts := FnF.ofT Th KX G (fun _ _ _ _ _ _ us hl => match us, hl with | [_, _], _ => rfl) e_list_facts l_list_facts i_list_facts k_list_facts
  f_keeps := FnF.ofT Th KX G (fun _ _ _ _ _ _ us hl => match us, hl with | [_, _, _], _ => rfl) e_keeps l_keeps i_keeps k_keeps
  f_kinds := FnF.ofT Th KX G (fun _ _ _ _ _ _ us hl => match us, hl with | [_, _], _ => rfl) e_kinds l_kinds i_kinds k_kinds
  f_pairs_for_one := FnF.ofT Th KX G (fun _ _ _ _ _ _ us hl => match us, hl with | [_], _ => rfl) e_pairs_for_one l_pairs_for_one i_pairs_for_one k_pairs_for_one
  f_pairs_for_two := FnF.ofT Th KX G (fun _ _ _ _ _ _ us hl => match us, hl with | [_], _ => rfl) e_pairs_for_two l_pairs_for_two i_pairs_for_two k_pairs_for_two
  f_numbers_for := FnF.ofT Th KX G (fun _ _ _ _ _ _ us hl => match us, hl with | [_], _ => rfl) e_numbers_for l_numbers_for i_numbers_for k_numbers_for
  f_items_for := FnF.ofT Th KX G (fun _ _ _ _ _ _ us hl => match us, hl with | [_, _], _ => rfl) e_items_for l_items_for i_items_for k_items_for
  f__law_five := FnF.ofT Th KX G (fun _ _ _ _ _ _ us hl => match us, hl with | [_], _ => rfl) e__law_five l__law_five i__law_five k__law_five
  f__law_kinds := FnF.ofT Th KX G (fun _ _ _ _ _ _ us hl => match us, hl with | [_, _], _ => rfl) e__law_kinds l__law_kinds i__law_kinds k__law_kinds
  f__law_pick := FnF.ofT Th KX G (fun _ _ _ _ _ _ us hl => match us, hl with | [_, _], _ => rfl) e__law_pick l__law_pick i__law_pick k__law_pick
  f_law := FnF.ofT Th KX G (fun _ _ _ _ _ _ us hl => match us, hl with | [_], _ => rfl) e_law l_law i_law k_law
  g_abs := mgNT Th KX G z_abs
  g_list := mgNT Th KX G z_list
  g_range := mgNT Th KX G z_range
  g_int := mgNT Th KX G z_int
  g_len := mgNT Th KX G z_len
  g_isinstance := mgNT Th KX G z_isinstance
  g_bool := mgNT Th KX G z_bool
  g_tuple := mgNT Th KX G z_tuple
  g_all := mgNT Th KX G z_all
  g_sum := mgNT Th KX G z_sum
  g_max := mgNT Th KX G z_max
  c_WORDS := CnF.refT 8 Th KX G x_WORDS y_WORDS
  t_WORDS := CnF.tupV (mg := mg) (x := "WORDS") (th_look Th u_WORDS (by unfold eTab; rw [v_WORDS])) v_WORDS w_WORDS
  c_ONE_BOX := CnF.refT 8 Th KX G x_ONE_BOX y_ONE_BOX
  c_KIND_ONE := CnF.refT 8 Th KX G x_KIND_ONE y_KIND_ONE
  c_KIND_TWO := CnF.refT 8 Th KX G x_KIND_TWO y_KIND_TWO
  x_BadAmounts := ClF.ofT Th KX G e_BadAmounts q_BadAmounts k_BadAmounts b_BadAmounts t_BadAmounts
  y_BadAmounts := th_excC Th j_BadAmounts
  ndT := List.nodup_nil
theorem all_mk {K : PySem.W.Frag} {mg : Str → Option Value} {fa : Addr} {h : Heap} {w : World} {l : PySem.W.OpenLaw} (hn : nodupB (K.map (·.1)) = true) (KX : K.In h) (G : h.Ns mainGlobals mg) (hfa : mg "law" = some (.ref fa))
    {a__law_begin : Addr} {oc__law_begin kV__law_begin dc__law_begin pm__law_begin cd__law_begin ct__law_begin : Value} {od__law_begin an__law_begin : Option Addr} {sl__law_begin : Array (Option Value)} (e__law_begin : PySem.W.nsIn K mainGlobals "_law_begin" = some (some (.ref a__law_begin))) (l__law_begin : K.lookup a__law_begin = some ⟨oc__law_begin, od__law_begin, .func (PySem.W.fnOf "_law_begin" "_law_begin" (defArgs s__law_begin) (defBody s__law_begin) (defScope s__law_begin) .none kV__law_begin dc__law_begin pm__law_begin an__law_begin cd__law_begin ct__law_begin), sl__law_begin⟩) (i__law_begin : PySem.W.codeIn K cd__law_begin "_law_begin" = true) (k__law_begin : PySem.W.keepIn K (.ref a__law_begin) = true)
    {a__law_small_lists : Addr} {oc__law_small_lists kV__law_small_lists dc__law_small_lists pm__law_small_lists cd__law_small_lists ct__law_small_lists : Value} {od__law_small_lists an__law_small_lists : Option Addr} {sl__law_small_lists : Array (Option Value)} (e__law_small_lists : PySem.W.nsIn K mainGlobals "_law_small_lists" = some (some (.ref a__law_small_lists))) (l__law_small_lists : K.lookup a__law_small_lists = some ⟨oc__law_small_lists, od__law_small_lists, .func (PySem.W.fnOf "_law_small_lists" "_law_small_lists" (defArgs s__law_small_lists) (defBody s__law_small_lists) (defScope s__law_small_lists) .none kV__law_small_lists dc__law_small_lists pm__law_small_lists an__law_small_lists cd__law_small_lists ct__law_small_lists), sl__law_small_lists⟩) (i__law_small_lists : PySem.W.codeIn K cd__law_small_lists "_law_small_lists" = true) (k__law_small_lists : PySem.W.keepIn K (.ref a__law_small_lists) = true)
    {a__law_blend : Addr} {oc__law_blend kV__law_blend dc__law_blend pm__law_blend cd__law_blend ct__law_blend : Value} {od__law_blend an__law_blend : Option Addr} {sl__law_blend : Array (Option Value)} (e__law_blend : PySem.W.nsIn K mainGlobals "_law_blend" = some (some (.ref a__law_blend))) (l__law_blend : K.lookup a__law_blend = some ⟨oc__law_blend, od__law_blend, .func (PySem.W.fnOf "_law_blend" "_law_blend" (defArgs s__law_blend) (defBody s__law_blend) (defScope s__law_blend) .none kV__law_blend dc__law_blend pm__law_blend an__law_blend cd__law_blend ct__law_blend), sl__law_blend⟩) (i__law_blend : PySem.W.codeIn K cd__law_blend "_law_blend" = true) (k__law_blend : PySem.W.keepIn K (.ref a__law_blend) = true)
    {a__law_take : Addr} {oc__law_take kV__law_take dc__law_take pm__law_take cd__law_take ct__law_take : Value} {od__law_take an__law_take : Option Addr} {sl__law_take : Array (Option Value)} (e__law_take : PySem.W.nsIn K mainGlobals "_law_take" = some (some (.ref a__law_take))) (l__law_take : K.lookup a__law_take = some ⟨oc__law_take, od__law_take, .func (PySem.W.fnOf "_law_take" "_law_take" (defArgs s__law_take) (defBody s__law_take) (defScope s__law_take) .none kV__law_take dc__law_take pm__law_take an__law_take cd__law_take ct__law_take), sl__law_take⟩) (i__law_take : PySem.W.codeIn K cd__law_take "_law_take" = true) (k__law_take : PySem.W.keepIn K (.ref a__law_take) = true)
    {a__law_mixed : Addr} {oc__law_mixed kV__law_mixed dc__law_mixed pm__law_mixed cd__law_mixed ct__law_mixed : Value} {od__law_mixed an__law_mixed : Option Addr} {sl__law_mixed : Array (Option Value)} (e__law_mixed : PySem.W.nsIn K mainGlobals "_law_mixed" = some (some (.ref a__law_mixed))) (l__law_mixed : K.lookup a__law_mixed = some ⟨oc__law_mixed, od__law_mixed, .func (PySem.W.fnOf "_law_mixed" "_law_mixed" (defArgs s__law_mixed) (defBody s__law_mixed) (defScope s__law_mixed) .none kV__law_mixed dc__law_mixed pm__law_mixed an__law_mixed cd__law_mixed ct__law_mixed), sl__law_mixed⟩) (i__law_mixed : PySem.W.codeIn K cd__law_mixed "_law_mixed" = true) (k__law_mixed : PySem.W.keepIn K (.ref a__law_mixed) = true)
    {a_is_number : Addr} {oc_is_number kV_is_number dc_is_number pm_is_number cd_is_number ct_is_number : Value} {od_is_number an_is_number : Option Addr} {sl_is_number : Array (Option Value)} (e_is_number : PySem.W.nsIn K mainGlobals "is_number" = some (some (.ref a_is_number))) (l_is_number : K.lookup a_is_number = some ⟨oc_is_number, od_is_number, .func (PySem.W.fnOf "is_number" "is_number" (defArgs s_is_number) (defBody s_is_number) (defScope s_is_number) .none kV_is_number dc_is_number pm_is_number an_is_number cd_is_number ct_is_number), sl_is_number⟩) (i_is_number : PySem.W.codeIn K cd_is_number "is_number" = true) (k_is_number : PySem.W.keepIn K (.ref a_is_number) = true)
    {a_is_from_zero : Addr} {oc_is_from_zero kV_is_from_zero dc_is_from_zero pm_is_from_zero cd_is_from_zero ct_is_from_zero : Value} {od_is_from_zero an_is_from_zero : Option Addr} {sl_is_from_zero : Array (Option Value)} (e_is_from_zero : PySem.W.nsIn K mainGlobals "is_from_zero" = some (some (.ref a_is_from_zero))) (l_is_from_zero : K.lookup a_is_from_zero = some ⟨oc_is_from_zero, od_is_from_zero, .func (PySem.W.fnOf "is_from_zero" "is_from_zero" (defArgs s_is_from_zero) (defBody s_is_from_zero) (defScope s_is_from_zero) .none kV_is_from_zero dc_is_from_zero pm_is_from_zero an_is_from_zero cd_is_from_zero ct_is_from_zero), sl_is_from_zero⟩) (i_is_from_zero : PySem.W.codeIn K cd_is_from_zero "is_from_zero" = true) (k_is_from_zero : PySem.W.keepIn K (.ref a_is_from_zero) = true)
    {a_need_told : Addr} {oc_need_told kV_need_told dc_need_told pm_need_told cd_need_told ct_need_told : Value} {od_need_told an_need_told : Option Addr} {sl_need_told : Array (Option Value)} (e_need_told : PySem.W.nsIn K mainGlobals "need_told" = some (some (.ref a_need_told))) (l_need_told : K.lookup a_need_told = some ⟨oc_need_told, od_need_told, .func (PySem.W.fnOf "need_told" "need_told" (defArgs s_need_told) (defBody s_need_told) (defScope s_need_told) .none kV_need_told dc_need_told pm_need_told an_need_told cd_need_told ct_need_told), sl_need_told⟩) (i_need_told : PySem.W.codeIn K cd_need_told "need_told" = true) (k_need_told : PySem.W.keepIn K (.ref a_need_told) = true)
    {a_kind_words : Addr} {oc_kind_words kV_kind_words dc_kind_words pm_kind_words cd_kind_words ct_kind_words : Value} {od_kind_words an_kind_words : Option Addr} {sl_kind_words : Array (Option Value)} (e_kind_words : PySem.W.nsIn K mainGlobals "kind_words" = some (some (.ref a_kind_words))) (l_kind_words : K.lookup a_kind_words = some ⟨oc_kind_words, od_kind_words, .func (PySem.W.fnOf "kind_words" "kind_words" (defArgs s_kind_words) (defBody s_kind_words) (defScope s_kind_words) .none kV_kind_words dc_kind_words pm_kind_words an_kind_words cd_kind_words ct_kind_words), sl_kind_words⟩) (i_kind_words : PySem.W.codeIn K cd_kind_words "kind_words" = true) (k_kind_words : PySem.W.keepIn K (.ref a_kind_words) = true)
    {a_worth_of : Addr} {oc_worth_of kV_worth_of dc_worth_of pm_worth_of cd_worth_of ct_worth_of : Value} {od_worth_of an_worth_of : Option Addr} {sl_worth_of : Array (Option Value)} (e_worth_of : PySem.W.nsIn K mainGlobals "worth_of" = some (some (.ref a_worth_of))) (l_worth_of : K.lookup a_worth_of = some ⟨oc_worth_of, od_worth_of, .func (PySem.W.fnOf "worth_of" "worth_of" (defArgs s_worth_of) (defBody s_worth_of) (defScope s_worth_of) .none kV_worth_of dc_worth_of pm_worth_of an_worth_of cd_worth_of ct_worth_of), sl_worth_of⟩) (i_worth_of : PySem.W.codeIn K cd_worth_of "worth_of" = true) (k_worth_of : PySem.W.keepIn K (.ref a_worth_of) = true)
    {a_list_facts : Addr} {oc_list_facts kV_list_facts dc_list_facts pm_list_facts cd_list_facts ct_list_facts : Value} {od_list_facts an_list_facts : Option Addr} {sl_list_facts : Array (Option Value)} (e_list_facts : PySem.W.nsIn K mainGlobals "list_facts" = some (some (.ref a_list_facts))) (l_list_facts : K.lookup a_list_facts = some ⟨oc_list_facts, od_list_facts, .func (PySem.W.fnOf "list_facts" "list_facts" (defArgs s_list_facts) (defBody s_list_facts) (defScope s_list_facts) .none kV_list_facts dc_list_facts pm_list_facts an_list_facts cd_list_facts ct_list_facts), sl_list_facts⟩) (i_list_facts : PySem.W.codeIn K cd_list_facts "list_facts" = true) (k_list_facts : PySem.W.keepIn K (.ref a_list_facts) = true)
    {a_keeps : Addr} {oc_keeps kV_keeps dc_keeps pm_keeps cd_keeps ct_keeps : Value} {od_keeps an_keeps : Option Addr} {sl_keeps : Array (Option Value)} (e_keeps : PySem.W.nsIn K mainGlobals "keeps" = some (some (.ref a_keeps))) (l_keeps : K.lookup a_keeps = some ⟨oc_keeps, od_keeps, .func (PySem.W.fnOf "keeps" "keeps" (defArgs s_keeps) (defBody s_keeps) (defScope s_keeps) .none kV_keeps dc_keeps pm_keeps an_keeps cd_keeps ct_keeps), sl_keeps⟩) (i_keeps : PySem.W.codeIn K cd_keeps "keeps" = true) (k_keeps : PySem.W.keepIn K (.ref a_keeps) = true)
    {a_kinds : Addr} {oc_kinds kV_kinds dc_kinds pm_kinds cd_kinds ct_kinds : Value} {od_kinds an_kinds : Option Addr} {sl_kinds : Array (Option Value)} (e_kinds : PySem.W.nsIn K mainGlobals "kinds" = some (some (.ref a_kinds))) (l_kinds : K.lookup a_kinds = some ⟨oc_kinds, od_kinds, .func (PySem.W.fnOf "kinds" "kinds" (defArgs s_kinds) (defBody s_kinds) (defScope s_kinds) .none kV_kinds dc_kinds pm_kinds an_kinds cd_kinds ct_kinds), sl_kinds⟩) (i_kinds : PySem.W.codeIn K cd_kinds "kinds" = true) (k_kinds : PySem.W.keepIn K (.ref a_kinds) = true)
    {a_pairs_for_one : Addr} {oc_pairs_for_one kV_pairs_for_one dc_pairs_for_one pm_pairs_for_one cd_pairs_for_one ct_pairs_for_one : Value} {od_pairs_for_one an_pairs_for_one : Option Addr} {sl_pairs_for_one : Array (Option Value)} (e_pairs_for_one : PySem.W.nsIn K mainGlobals "pairs_for_one" = some (some (.ref a_pairs_for_one))) (l_pairs_for_one : K.lookup a_pairs_for_one = some ⟨oc_pairs_for_one, od_pairs_for_one, .func (PySem.W.fnOf "pairs_for_one" "pairs_for_one" (defArgs s_pairs_for_one) (defBody s_pairs_for_one) (defScope s_pairs_for_one) .none kV_pairs_for_one dc_pairs_for_one pm_pairs_for_one an_pairs_for_one cd_pairs_for_one ct_pairs_for_one), sl_pairs_for_one⟩) (i_pairs_for_one : PySem.W.codeIn K cd_pairs_for_one "pairs_for_one" = true) (k_pairs_for_one : PySem.W.keepIn K (.ref a_pairs_for_one) = true)
    {a_pairs_for_two : Addr} {oc_pairs_for_two kV_pairs_for_two dc_pairs_for_two pm_pairs_for_two cd_pairs_for_two ct_pairs_for_two : Value} {od_pairs_for_two an_pairs_for_two : Option Addr} {sl_pairs_for_two : Array (Option Value)} (e_pairs_for_two : PySem.W.nsIn K mainGlobals "pairs_for_two" = some (some (.ref a_pairs_for_two))) (l_pairs_for_two : K.lookup a_pairs_for_two = some ⟨oc_pairs_for_two, od_pairs_for_two, .func (PySem.W.fnOf "pairs_for_two" "pairs_for_two" (defArgs s_pairs_for_two) (defBody s_pairs_for_two) (defScope s_pairs_for_two) .none kV_pairs_for_two dc_pairs_for_two pm_pairs_for_two an_pairs_for_two cd_pairs_for_two ct_pairs_for_two), sl_pairs_for_two⟩) (i_pairs_for_two : PySem.W.codeIn K cd_pairs_for_two "pairs_for_two" = true) (k_pairs_for_two : PySem.W.keepIn K (.ref a_pairs_for_two) = true)
    {a_numbers_for : Addr} {oc_numbers_for kV_numbers_for dc_numbers_for pm_numbers_for cd_numbers_for ct_numbers_for : Value} {od_numbers_for an_numbers_for : Option Addr} {sl_numbers_for : Array (Option Value)} (e_numbers_for : PySem.W.nsIn K mainGlobals "numbers_for" = some (some (.ref a_numbers_for))) (l_numbers_for : K.lookup a_numbers_for = some ⟨oc_numbers_for, od_numbers_for, .func (PySem.W.fnOf "numbers_for" "numbers_for" (defArgs s_numbers_for) (defBody s_numbers_for) (defScope s_numbers_for) .none kV_numbers_for dc_numbers_for pm_numbers_for an_numbers_for cd_numbers_for ct_numbers_for), sl_numbers_for⟩) (i_numbers_for : PySem.W.codeIn K cd_numbers_for "numbers_for" = true) (k_numbers_for : PySem.W.keepIn K (.ref a_numbers_for) = true)
    {a_items_for : Addr} {oc_items_for kV_items_for dc_items_for pm_items_for cd_items_for ct_items_for : Value} {od_items_for an_items_for : Option Addr} {sl_items_for : Array (Option Value)} (e_items_for : PySem.W.nsIn K mainGlobals "items_for" = some (some (.ref a_items_for))) (l_items_for : K.lookup a_items_for = some ⟨oc_items_for, od_items_for, .func (PySem.W.fnOf "items_for" "items_for" (defArgs s_items_for) (defBody s_items_for) (defScope s_items_for) .none kV_items_for dc_items_for pm_items_for an_items_for cd_items_for ct_items_for), sl_items_for⟩) (i_items_for : PySem.W.codeIn K cd_items_for "items_for" = true) (k_items_for : PySem.W.keepIn K (.ref a_items_for) = true)
    {a__law_five : Addr} {oc__law_five kV__law_five dc__law_five pm__law_five cd__law_five ct__law_five : Value} {od__law_five an__law_five : Option Addr} {sl__law_five : Array (Option Value)} (e__law_five : PySem.W.nsIn K mainGlobals "_law_five" = some (some (.ref a__law_five))) (l__law_five : K.lookup a__law_five = some ⟨oc__law_five, od__law_five, .func (PySem.W.fnOf "_law_five" "_law_five" (defArgs s__law_five) (defBody s__law_five) (defScope s__law_five) .none kV__law_five dc__law_five pm__law_five an__law_five cd__law_five ct__law_five), sl__law_five⟩) (i__law_five : PySem.W.codeIn K cd__law_five "_law_five" = true) (k__law_five : PySem.W.keepIn K (.ref a__law_five) = true)
    {a__law_kinds : Addr} {oc__law_kinds kV__law_kinds dc__law_kinds pm__law_kinds cd__law_kinds ct__law_kinds : Value} {od__law_kinds an__law_kinds : Option Addr} {sl__law_kinds : Array (Option Value)} (e__law_kinds : PySem.W.nsIn K mainGlobals "_law_kinds" = some (some (.ref a__law_kinds))) (l__law_kinds : K.lookup a__law_kinds = some ⟨oc__law_kinds, od__law_kinds, .func (PySem.W.fnOf "_law_kinds" "_law_kinds" (defArgs s__law_kinds) (defBody s__law_kinds) (defScope s__law_kinds) .none kV__law_kinds dc__law_kinds pm__law_kinds an__law_kinds cd__law_kinds ct__law_kinds), sl__law_kinds⟩) (i__law_kinds : PySem.W.codeIn K cd__law_kinds "_law_kinds" = true) (k__law_kinds : PySem.W.keepIn K (.ref a__law_kinds) = true)
    {a__law_pick : Addr} {oc__law_pick kV__law_pick dc__law_pick pm__law_pick cd__law_pick ct__law_pick : Value} {od__law_pick an__law_pick : Option Addr} {sl__law_pick : Array (Option Value)} (e__law_pick : PySem.W.nsIn K mainGlobals "_law_pick" = some (some (.ref a__law_pick))) (l__law_pick : K.lookup a__law_pick = some ⟨oc__law_pick, od__law_pick, .func (PySem.W.fnOf "_law_pick" "_law_pick" (defArgs s__law_pick) (defBody s__law_pick) (defScope s__law_pick) .none kV__law_pick dc__law_pick pm__law_pick an__law_pick cd__law_pick ct__law_pick), sl__law_pick⟩) (i__law_pick : PySem.W.codeIn K cd__law_pick "_law_pick" = true) (k__law_pick : PySem.W.keepIn K (.ref a__law_pick) = true)
    {a_law : Addr} {oc_law kV_law dc_law pm_law cd_law ct_law : Value} {od_law an_law : Option Addr} {sl_law : Array (Option Value)} (e_law : PySem.W.nsIn K mainGlobals "law" = some (some (.ref a_law))) (l_law : K.lookup a_law = some ⟨oc_law, od_law, .func (PySem.W.fnOf "law" "law" (defArgs s_law) (defBody s_law) (defScope s_law) .none kV_law dc_law pm_law an_law cd_law ct_law), sl_law⟩) (i_law : PySem.W.codeIn K cd_law "law" = true) (k_law : PySem.W.keepIn K (.ref a_law) = true)
    (z_abs : PySem.W.nsIn K mainGlobals "abs" = some none)
    (z_list : PySem.W.nsIn K mainGlobals "list" = some none)
    (z_range : PySem.W.nsIn K mainGlobals "range" = some none)
    (z_int : PySem.W.nsIn K mainGlobals "int" = some none)
    (z_len : PySem.W.nsIn K mainGlobals "len" = some none)
    (z_isinstance : PySem.W.nsIn K mainGlobals "isinstance" = some none)
    (z_bool : PySem.W.nsIn K mainGlobals "bool" = some none)
    (z_tuple : PySem.W.nsIn K mainGlobals "tuple" = some none)
    (z_all : PySem.W.nsIn K mainGlobals "all" = some none)
    (z_sum : PySem.W.nsIn K mainGlobals "sum" = some none)
    (z_max : PySem.W.nsIn K mainGlobals "max" = some none)
    {b_WORDS : Addr} (x_WORDS : PySem.W.nsIn K mainGlobals "WORDS" = some (some (.ref b_WORDS)))
    (y_WORDS : repK K 8 (.ref b_WORDS) = some c_WORDS)
    {o_WORDS : Obj} (u_WORDS : K.lookup b_WORDS = some o_WORDS)
    (v_WORDS : o_WORDS.cls = .type "tuple") (w_WORDS : o_WORDS.dict = none)
    {b_ONE_BOX : Addr} (x_ONE_BOX : PySem.W.nsIn K mainGlobals "ONE_BOX" = some (some (.ref b_ONE_BOX)))
    (y_ONE_BOX : repK K 8 (.ref b_ONE_BOX) = some c_ONE_BOX)
    {b_KIND_ONE : Addr} (x_KIND_ONE : PySem.W.nsIn K mainGlobals "KIND_ONE" = some (some (.ref b_KIND_ONE)))
    (y_KIND_ONE : repK K 8 (.ref b_KIND_ONE) = some c_KIND_ONE)
    {b_KIND_TWO : Addr} (x_KIND_TWO : PySem.W.nsIn K mainGlobals "KIND_TWO" = some (some (.ref b_KIND_TWO)))
    (y_KIND_TWO : repK K 8 (.ref b_KIND_TWO) = some c_KIND_TWO)
    {a_BadAmounts : Addr} (e_BadAmounts : PySem.W.nsIn K mainGlobals "BadAmounts" = some (some (.ref a_BadAmounts)))
    (q_BadAmounts : PySem.W.excIn K a_BadAmounts [.type "ValueError", .type "Exception", .type "BaseException", .type "object"] "ValueError.__new__" = true)
    (k_BadAmounts : PySem.W.keepIn K (.ref a_BadAmounts) = true) (b_BadAmounts : PySem.W.subIn K (.ref a_BadAmounts) (.type "BaseException") = some true) (t_BadAmounts : PySem.W.typeIn K (.ref a_BadAmounts) = some (.type "type"))
    (j_BadAmounts : excCB K a_BadAmounts = true)
    (main : ∀ A : Ad, ∀ ns : List Int, ns.length ≤ 63 → ∃ mu, d_law A [scriptD ns] (tabCells (tb A)) = .ok (.bl true) mu) : Nonempty (LawG l w mg fa "_law_script" 6 h) := by
  let T : Tx (filt K) mg := mk_T (thin_filt hn) (filt_in hn KX) G e__law_begin l__law_begin i__law_begin k__law_begin e__law_small_lists l__law_small_lists i__law_small_lists k__law_small_lists e__law_blend l__law_blend i__law_blend k__law_blend e__law_take l__law_take i__law_take k__law_take e__law_mixed l__law_mixed i__law_mixed k__law_mixed e_is_number l_is_number i_is_number k_is_number e_is_from_zero l_is_from_zero i_is_from_zero k_is_from_zero e_need_told l_need_told i_need_told k_need_told e_kind_words l_kind_words i_kind_words k_kind_words e_worth_of l_worth_of i_worth_of k_worth_of e_list_facts l_list_facts i_list_facts k_list_facts e_keeps l_keeps i_keeps k_keeps e_kinds l_kinds i_kinds k_kinds e_pairs_for_one l_pairs_for_one i_pairs_for_one k_pairs_for_one e_pairs_for_two l_pairs_for_two i_pairs_for_two k_pairs_for_two e_numbers_for l_numbers_for i_numbers_for k_numbers_for e_items_for l_items_for i_items_for k_items_for e__law_five l__law_five i__law_five k__law_five e__law_kinds l__law_kinds i__law_kinds k__law_kinds e__law_pick l__law_pick i__law_pick k__law_pick e_law l_law i_law k_law z_abs z_list z_range z_int z_len z_isinstance z_bool z_tuple z_all z_sum z_max x_WORDS y_WORDS u_WORDS v_WORDS w_WORDS x_ONE_BOX y_ONE_BOX x_KIND_ONE y_KIND_ONE x_KIND_TWO y_KIND_TWO e_BadAmounts q_BadAmounts k_BadAmounts b_BadAmounts t_BadAmounts j_BadAmounts
  have e := hfa.symm.trans T.f_law.g
  cases e
  exact ⟨{ K := filt K, kin := filt_in hn KX, fd := T.f_law.fd, cs := [], T := tb T.ad, g := d_law T.ad, eT := rfl, nd := T.ndT
           hT := by
             intro p hp
             simp only [List.mem_cons, List.not_mem_nil, or_false] at hp

           nT := by
             intro p hp
             simp only [List.mem_cons, List.not_mem_nil, or_false] at hp

           C := by
             intro p hp
             simp only [List.mem_cons, List.not_mem_nil, or_false] at hp

           hb := fun s v => .of_eq rfl
           F := fun base _ _ ht => FnG.of (ok_law T ⟨trivial⟩)
           main := main T.ad }⟩
end
end K24

namespace K24
open PySem L2 DL
section
variable {A : Ad} {mu : Mu}
theorem e_take : d__law_take A = dTake := rfl
theorem e_pick : d__law_pick A = dPick := rfl
theorem e_begin : d__law_begin A = dBegin := rfl
theorem e_num {i : Int} : d_is_number A [.int i] mu = .ok (.bl true) mu := by
  refine denF_rt (env0 := [some (.int i)]) rfl ?_
  unfold m_is_number
  (repeat' (first | (with_reducible assumption) | (with_reducible apply mVar_ok) | (with_reducible apply mC_ok) | (with_reducible apply mOp_ok) | (with_reducible apply mTest_ok) | (with_reducible apply mCons_ok) | (with_reducible apply mNil_ok) | (with_reducible apply mCall_ok) | (with_reducible apply mCallF_ok) | (with_reducible apply mSeq_eq) | (with_reducible apply seqNx) | (with_reducible apply seqRt) | (with_reducible apply mSkip_ok) | (with_reducible apply mRet_ok) | (with_reducible apply mRetN_ok) | (with_reducible apply mExpr_ok) | (with_reducible apply mAsg_ok) | (with_reducible apply mGName_ok) | (with_reducible apply mIfS_ok) | (with_reducible apply mTAnd_ok) | (with_reducible apply mTOr_ok) | (with_reducible apply mTNot_ok) | (with_reducible apply mAnd_ok) | (with_reducible apply mOr_ok) | (with_reducible apply mNot_ok) | (with_reducible apply mIf_ok) | (with_reducible apply mChain_ok) | (with_reducible apply bindO_ok) | (with_reducible apply mTup_ok) | (with_reducible apply mLst_ok) | (with_reducible apply mLst_okC) | (with_reducible apply mUn_ok) | (with_reducible apply mMet_ok) | (with_reducible apply mMetC_ok) | (with_reducible apply mGTup_ok) | (with_reducible apply mGCons_ok) | (with_reducible apply mGNil_ok) | (with_reducible apply mPar_ok) | (with_reducible apply mPar3_ok) | (with_reducible apply mSet_ok) | (with_reducible apply mSeqI_ok) | (with_reducible apply mRange1_ok) | (with_reducible apply mZip_ok) | (with_reducible apply mFrz_ok) | (with_reducible apply mFor_ok) | (with_reducible apply mCallV_ok) | (with_reducible apply gAddL) | (with_reducible apply gSumL) | (with_reducible apply gMax0) | (with_reducible apply gMax2) | (with_reducible apply gMaxP) | (with_reducible apply gAllL) | (with_reducible apply gTupL) | (with_reducible apply gTupT) | (with_reducible apply gListT) | (with_reducible apply gLenT) | (with_reducible apply gIsiT) | (with_reducible apply gIsNT) | (with_reducible apply gEqL0) | (with_reducible apply gNeL0) | (with_reducible apply gMul_ok) | (with_reducible apply gAdd_ok) | (with_reducible apply gSub_ok) | (with_reducible apply gEqI) | (with_reducible apply gNeI) | (with_reducible apply gLt_ok) | (with_reducible apply gLe_ok) | (with_reducible apply gGt_ok) | (with_reducible apply gGe_ok) | (with_reducible apply gInt_ok) | (with_reducible apply mulB_ok) | (with_reducible apply lim_ok) | ((with_reducible apply ite_t); (first | assumption | (exact decide_eq_true (by omega)) | (exact decide_eq_false (by omega)) | (simp only [Bool.not_eq_true', Bool.not_eq_false', Bool.not_not, decide_eq_false_iff_not, decide_eq_true_eq, Bool.false_eq_true, if_true, if_false, Bool.not_false, Bool.not_true, reduceIte]; omega) | exact rfl)) | ((with_reducible apply ite_f); (first | assumption | (exact decide_eq_true (by omega)) | (exact decide_eq_false (by omega)) | (simp only [Bool.not_eq_true', Bool.not_eq_false', Bool.not_not, decide_eq_false_iff_not, decide_eq_true_eq, Bool.false_eq_true, if_true, if_false, Bool.not_false, Bool.not_true, reduceIte]; omega) | exact rfl)) | (simp only [List.set_cons_succ, List.set_cons_zero, wipeD]; exact rfl) | (simp only [List.length_cons, List.length_nil, List.length_map, List.length_append]; omega) | (exact rfl) | (omega)))
theorem e_numT {l : List D} : d_is_number A [.tup l] mu = .ok (.bl false) mu := by
  refine denF_rt (env0 := [some (.tup l)]) rfl ?_
  unfold m_is_number
  (repeat' (first | (with_reducible assumption) | (with_reducible apply mVar_ok) | (with_reducible apply mC_ok) | (with_reducible apply mOp_ok) | (with_reducible apply mTest_ok) | (with_reducible apply mCons_ok) | (with_reducible apply mNil_ok) | (with_reducible apply mCall_ok) | (with_reducible apply mCallF_ok) | (with_reducible apply mSeq_eq) | (with_reducible apply seqNx) | (with_reducible apply seqRt) | (with_reducible apply mSkip_ok) | (with_reducible apply mRet_ok) | (with_reducible apply mRetN_ok) | (with_reducible apply mExpr_ok) | (with_reducible apply mAsg_ok) | (with_reducible apply mGName_ok) | (with_reducible apply mIfS_ok) | (with_reducible apply mTAnd_ok) | (with_reducible apply mTOr_ok) | (with_reducible apply mTNot_ok) | (with_reducible apply mAnd_ok) | (with_reducible apply mOr_ok) | (with_reducible apply mNot_ok) | (with_reducible apply mIf_ok) | (with_reducible apply mChain_ok) | (with_reducible apply bindO_ok) | (with_reducible apply mTup_ok) | (with_reducible apply mLst_ok) | (with_reducible apply mLst_okC) | (with_reducible apply mUn_ok) | (with_reducible apply mMet_ok) | (with_reducible apply mMetC_ok) | (with_reducible apply mGTup_ok) | (with_reducible apply mGCons_ok) | (with_reducible apply mGNil_ok) | (with_reducible apply mPar_ok) | (with_reducible apply mPar3_ok) | (with_reducible apply mSet_ok) | (with_reducible apply mSeqI_ok) | (with_reducible apply mRange1_ok) | (with_reducible apply mZip_ok) | (with_reducible apply mFrz_ok) | (with_reducible apply mFor_ok) | (with_reducible apply mCallV_ok) | (with_reducible apply gAddL) | (with_reducible apply gSumL) | (with_reducible apply gMax0) | (with_reducible apply gMax2) | (with_reducible apply gMaxP) | (with_reducible apply gAllL) | (with_reducible apply gTupL) | (with_reducible apply gTupT) | (with_reducible apply gListT) | (with_reducible apply gLenT) | (with_reducible apply gIsiT) | (with_reducible apply gIsNT) | (with_reducible apply gEqL0) | (with_reducible apply gNeL0) | (with_reducible apply gMul_ok) | (with_reducible apply gAdd_ok) | (with_reducible apply gSub_ok) | (with_reducible apply gEqI) | (with_reducible apply gNeI) | (with_reducible apply gLt_ok) | (with_reducible apply gLe_ok) | (with_reducible apply gGt_ok) | (with_reducible apply gGe_ok) | (with_reducible apply gInt_ok) | (with_reducible apply mulB_ok) | (with_reducible apply lim_ok) | ((with_reducible apply ite_t); (first | assumption | (exact decide_eq_true (by omega)) | (exact decide_eq_false (by omega)) | (simp only [Bool.not_eq_true', Bool.not_eq_false', Bool.not_not, decide_eq_false_iff_not, decide_eq_true_eq, Bool.false_eq_true, if_true, if_false, Bool.not_false, Bool.not_true, reduceIte]; omega) | exact rfl)) | ((with_reducible apply ite_f); (first | assumption | (exact decide_eq_true (by omega)) | (exact decide_eq_false (by omega)) | (simp only [Bool.not_eq_true', Bool.not_eq_false', Bool.not_not, decide_eq_false_iff_not, decide_eq_true_eq, Bool.false_eq_true, if_true, if_false, Bool.not_false, Bool.not_true, reduceIte]; omega) | exact rfl)) | (simp only [List.set_cons_succ, List.set_cons_zero, wipeD]; exact rfl) | (simp only [List.length_cons, List.length_nil, List.length_map, List.length_append]; omega) | (exact rfl) | (omega)))
theorem e_zero {i : Int} (h : 0 ≤ i) : d_is_from_zero A [.int i] mu = .ok (.bl true) mu := by
  refine denF_rt (env0 := [some (.int i)]) rfl ?_
  unfold m_is_from_zero
  have h2 : decide (0 ≤ i) = true := decide_eq_true h
  rw [← h2]
  (repeat' (first | (with_reducible assumption) | (with_reducible exact e_num) | (with_reducible apply mVar_ok) | (with_reducible apply mC_ok) | (with_reducible apply mOp_ok) | (with_reducible apply mTest_ok) | (with_reducible apply mCons_ok) | (with_reducible apply mNil_ok) | (with_reducible apply mCall_ok) | (with_reducible apply mCallF_ok) | (with_reducible apply mSeq_eq) | (with_reducible apply seqNx) | (with_reducible apply seqRt) | (with_reducible apply mSkip_ok) | (with_reducible apply mRet_ok) | (with_reducible apply mRetN_ok) | (with_reducible apply mExpr_ok) | (with_reducible apply mAsg_ok) | (with_reducible apply mGName_ok) | (with_reducible apply mIfS_ok) | (with_reducible apply mTAnd_ok) | (with_reducible apply mTOr_ok) | (with_reducible apply mTNot_ok) | (with_reducible apply mAnd_ok) | (with_reducible apply mOr_ok) | (with_reducible apply mNot_ok) | (with_reducible apply mIf_ok) | (with_reducible apply mChain_ok) | (with_reducible apply bindO_ok) | (with_reducible apply mTup_ok) | (with_reducible apply mLst_ok) | (with_reducible apply mLst_okC) | (with_reducible apply mUn_ok) | (with_reducible apply mMet_ok) | (with_reducible apply mMetC_ok) | (with_reducible apply mGTup_ok) | (with_reducible apply mGCons_ok) | (with_reducible apply mGNil_ok) | (with_reducible apply mPar_ok) | (with_reducible apply mPar3_ok) | (with_reducible apply mSet_ok) | (with_reducible apply mSeqI_ok) | (with_reducible apply mRange1_ok) | (with_reducible apply mZip_ok) | (with_reducible apply mFrz_ok) | (with_reducible apply mFor_ok) | (with_reducible apply mCallV_ok) | (with_reducible apply gAddL) | (with_reducible apply gSumL) | (with_reducible apply gMax0) | (with_reducible apply gMax2) | (with_reducible apply gMaxP) | (with_reducible apply gAllL) | (with_reducible apply gTupL) | (with_reducible apply gTupT) | (with_reducible apply gListT) | (with_reducible apply gLenT) | (with_reducible apply gIsiT) | (with_reducible apply gIsNT) | (with_reducible apply gEqL0) | (with_reducible apply gNeL0) | (with_reducible apply gMul_ok) | (with_reducible apply gAdd_ok) | (with_reducible apply gSub_ok) | (with_reducible apply gEqI) | (with_reducible apply gNeI) | (with_reducible apply gLt_ok) | (with_reducible apply gLe_ok) | (with_reducible apply gGt_ok) | (with_reducible apply gGe_ok) | (with_reducible apply gInt_ok) | (with_reducible apply mulB_ok) | (with_reducible apply lim_ok) | ((with_reducible apply ite_t); (first | assumption | (exact decide_eq_true (by omega)) | (exact decide_eq_false (by omega)) | (simp only [Bool.not_eq_true', Bool.not_eq_false', Bool.not_not, decide_eq_false_iff_not, decide_eq_true_eq, Bool.false_eq_true, if_true, if_false, Bool.not_false, Bool.not_true, reduceIte]; omega) | exact rfl)) | ((with_reducible apply ite_f); (first | assumption | (exact decide_eq_true (by omega)) | (exact decide_eq_false (by omega)) | (simp only [Bool.not_eq_true', Bool.not_eq_false', Bool.not_not, decide_eq_false_iff_not, decide_eq_true_eq, Bool.false_eq_true, if_true, if_false, Bool.not_false, Bool.not_true, reduceIte]; omega) | exact rfl)) | (simp only [List.set_cons_succ, List.set_cons_zero, wipeD]; exact rfl) | (simp only [List.length_cons, List.length_nil, List.length_map, List.length_append]; omega) | (exact rfl) | (omega)))
theorem e_zeroT {l : List D} : d_is_from_zero A [.tup l] mu = .ok (.bl false) mu := by
  refine denF_rt (env0 := [some (.tup l)]) rfl ?_
  unfold m_is_from_zero
  (repeat' (first | (with_reducible assumption) | (with_reducible exact e_numT) | (with_reducible apply mVar_ok) | (with_reducible apply mC_ok) | (with_reducible apply mOp_ok) | (with_reducible apply mTest_ok) | (with_reducible apply mCons_ok) | (with_reducible apply mNil_ok) | (with_reducible apply mCall_ok) | (with_reducible apply mCallF_ok) | (with_reducible apply mSeq_eq) | (with_reducible apply seqNx) | (with_reducible apply seqRt) | (with_reducible apply mSkip_ok) | (with_reducible apply mRet_ok) | (with_reducible apply mRetN_ok) | (with_reducible apply mExpr_ok) | (with_reducible apply mAsg_ok) | (with_reducible apply mGName_ok) | (with_reducible apply mIfS_ok) | (with_reducible apply mTAnd_ok) | (with_reducible apply mTOr_ok) | (with_reducible apply mTNot_ok) | (with_reducible apply mAnd_ok) | (with_reducible apply mOr_ok) | (with_reducible apply mNot_ok) | (with_reducible apply mIf_ok) | (with_reducible apply mChain_ok) | (with_reducible apply bindO_ok) | (with_reducible apply mTup_ok) | (with_reducible apply mLst_ok) | (with_reducible apply mLst_okC) | (with_reducible apply mUn_ok) | (with_reducible apply mMet_ok) | (with_reducible apply mMetC_ok) | (with_reducible apply mGTup_ok) | (with_reducible apply mGCons_ok) | (with_reducible apply mGNil_ok) | (with_reducible apply mPar_ok) | (with_reducible apply mPar3_ok) | (with_reducible apply mSet_ok) | (with_reducible apply mSeqI_ok) | (with_reducible apply mRange1_ok) | (with_reducible apply mZip_ok) | (with_reducible apply mFrz_ok) | (with_reducible apply mFor_ok) | (with_reducible apply mCallV_ok) | (with_reducible apply gAddL) | (with_reducible apply gSumL) | (with_reducible apply gMax0) | (with_reducible apply gMax2) | (with_reducible apply gMaxP) | (with_reducible apply gAllL) | (with_reducible apply gTupL) | (with_reducible apply gTupT) | (with_reducible apply gListT) | (with_reducible apply gLenT) | (with_reducible apply gIsiT) | (with_reducible apply gIsNT) | (with_reducible apply gEqL0) | (with_reducible apply gNeL0) | (with_reducible apply gMul_ok) | (with_reducible apply gAdd_ok) | (with_reducible apply gSub_ok) | (with_reducible apply gEqI) | (with_reducible apply gNeI) | (with_reducible apply gLt_ok) | (with_reducible apply gLe_ok) | (with_reducible apply gGt_ok) | (with_reducible apply gGe_ok) | (with_reducible apply gInt_ok) | (with_reducible apply mulB_ok) | (with_reducible apply lim_ok) | ((with_reducible apply ite_t); (first | assumption | (exact decide_eq_true (by omega)) | (exact decide_eq_false (by omega)) | (simp only [Bool.not_eq_true', Bool.not_eq_false', Bool.not_not, decide_eq_false_iff_not, decide_eq_true_eq, Bool.false_eq_true, if_true, if_false, Bool.not_false, Bool.not_true, reduceIte]; omega) | exact rfl)) | ((with_reducible apply ite_f); (first | assumption | (exact decide_eq_true (by omega)) | (exact decide_eq_false (by omega)) | (simp only [Bool.not_eq_true', Bool.not_eq_false', Bool.not_not, decide_eq_false_iff_not, decide_eq_true_eq, Bool.false_eq_true, if_true, if_false, Bool.not_false, Bool.not_true, reduceIte]; omega) | exact rfl)) | (simp only [List.set_cons_succ, List.set_cons_zero, wipeD]; exact rfl) | (simp only [List.length_cons, List.length_nil, List.length_map, List.length_append]; omega) | (exact rfl) | (omega)))
abbrev five (e r i m t : Int) : D := .tup [.int e, .int r, .int i, .int m, .int t]
theorem bmax {a b : Int} {n : Nat} (ha : Builtin.Int.intBits a ≤ n) (hb : Builtin.Int.intBits b ≤ n) : Builtin.Int.intBits (max a b) ≤ n := by
  have : max a b = a ∨ max a b = b := by omega
  rcases this with h | h <;> rw [h] <;> assumption
/-! kinds -/
abbrev WL : List Str := ["every", "rows", "item", "most", "table"]
def wv (e r i m t : Int) (w : Str) : Int := ([e, r, i, m, t])[(idxS w WL).getD 0]?.getD 0
section
variable {e r i m t : Int}
theorem wvE : wv e r i m t "every" = e := by kernel_rfl
theorem wvR : wv e r i m t "rows" = r := by kernel_rfl
theorem wvI : wv e r i m t "item" = i := by kernel_rfl
theorem wvM : wv e r i m t "most" = m := by kernel_rfl
theorem wvT : wv e r i m t "table" = t := by kernel_rfl
theorem ixW {w : Str} (hw : w ∈ WL) : ∃ j : Int, (∀ mu : Mu, gIndex mu c_WORDS [.str w] = some (.int j, mu)) ∧ ∀ mu : Mu, gIx mu (five e r i m t) (.int j) = some (.int (wv e r i m t w), mu) := by
  simp only [WL, List.mem_cons, List.not_mem_nil, or_false] at hw
  rcases hw with rfl | rfl | rfl | rfl | rfl
  · exact ⟨0, fun _ => by kernel_rfl, fun _ => by rw [wvE]; rfl⟩
  · exact ⟨1, fun _ => by kernel_rfl, fun _ => by rw [wvR]; rfl⟩
  · exact ⟨2, fun _ => by kernel_rfl, fun _ => by rw [wvI]; rfl⟩
  · exact ⟨3, fun _ => by kernel_rfl, fun _ => by rw [wvM]; rfl⟩
  · exact ⟨4, fun _ => by kernel_rfl, fun _ => by rw [wvT]; rfl⟩
/-- amounts that may be counted with -/
structure Am (e r i m t : Int) : Prop where
  pe : 0 ≤ e
  pr : 0 ≤ r
  pi : 0 ≤ i
  pm : 0 ≤ m
  pt : 0 ≤ t
  be : Builtin.Int.intBits e ≤ 10000000
  br : Builtin.Int.intBits r ≤ 10000000
  bi : Builtin.Int.intBits i ≤ 10000000
  bm : Builtin.Int.intBits m ≤ 10000000
  bt : Builtin.Int.intBits t ≤ 10000000
theorem Am.wv (a : Am e r i m t) {w : Str} (hw : w ∈ WL) : Builtin.Int.intBits (wv e r i m t w) ≤ 10000000 := by
  simp only [WL, List.mem_cons, List.not_mem_nil, or_false] at hw
  rcases hw with rfl | rfl | rfl | rfl | rfl
  · rw [wvE]; exact a.be
  · rw [wvR]; exact a.br
  · rw [wvI]; exact a.bi
  · rw [wvM]; exact a.bm
  · rw [wvT]; exact a.bt
abbrev encT (q : Str × Int) : D := .tup [.str q.1, .int q.2]
def okT (q : Str × Int) : Prop := q.1 ∈ WL ∧ Builtin.Int.intBits q.2 ≤ 100
def wSum (e r i m t : Int) (l : List (Str × Int)) : Int := (l.map fun q => q.2 * wv e r i m t q.1).sum
theorem e_worth (a : Am e r i m t) (l : List (Str × Int)) (h : ∀ q ∈ l, okT q) (hl : l.length ≤ 1000) : d_worth_of A [.tup (l.map encT), five e r i m t] mu = .ok (.int (wSum e r i m t l)) mu := by
  refine denF_rt (env0 := [some (.tup (l.map encT)), some (five e r i m t), none, none]) rfl ?_
  have q1 : q_worth_of_1 A [some (.tup (l.map encT)), some (five e r i m t), none, none] mu = .ok (.lst ((l.map fun q => q.2 * wv e r i m t q.1).map D.int)) mu := by
    unfold q_worth_of_1
    rw [mLc_map (enc := encT) (f := fun q => .int (q.2 * wv e r i m t q.1)) l (by (repeat' (first | (with_reducible assumption) | (with_reducible apply mVar_ok) | (with_reducible apply mC_ok) | (with_reducible apply mOp_ok) | (with_reducible apply mTest_ok) | (with_reducible apply mCons_ok) | (with_reducible apply mNil_ok) | (with_reducible apply mCall_ok) | (with_reducible apply mCallF_ok) | (with_reducible apply mSeq_eq) | (with_reducible apply seqNx) | (with_reducible apply seqRt) | (with_reducible apply mSkip_ok) | (with_reducible apply mRet_ok) | (with_reducible apply mRetN_ok) | (with_reducible apply mExpr_ok) | (with_reducible apply mAsg_ok) | (with_reducible apply mGName_ok) | (with_reducible apply mIfS_ok) | (with_reducible apply mTAnd_ok) | (with_reducible apply mTOr_ok) | (with_reducible apply mTNot_ok) | (with_reducible apply mAnd_ok) | (with_reducible apply mOr_ok) | (with_reducible apply mNot_ok) | (with_reducible apply mIf_ok) | (with_reducible apply mChain_ok) | (with_reducible apply bindO_ok) | (with_reducible apply mTup_ok) | (with_reducible apply mLst_ok) | (with_reducible apply mLst_okC) | (with_reducible apply mUn_ok) | (with_reducible apply mMet_ok) | (with_reducible apply mMetC_ok) | (with_reducible apply mGTup_ok) | (with_reducible apply mGCons_ok) | (with_reducible apply mGNil_ok) | (with_reducible apply mPar_ok) | (with_reducible apply mPar3_ok) | (with_reducible apply mSet_ok) | (with_reducible apply mSeqI_ok) | (with_reducible apply mRange1_ok) | (with_reducible apply mZip_ok) | (with_reducible apply mFrz_ok) | (with_reducible apply mFor_ok) | (with_reducible apply mCallV_ok) | (with_reducible apply gAddL) | (with_reducible apply gSumL) | (with_reducible apply gMax0) | (with_reducible apply gMax2) | (with_reducible apply gMaxP) | (with_reducible apply gAllL) | (with_reducible apply gTupL) | (with_reducible apply gTupT) | (with_reducible apply gListT) | (with_reducible apply gLenT) | (with_reducible apply gIsiT) | (with_reducible apply gIsNT) | (with_reducible apply gEqL0) | (with_reducible apply gNeL0) | (with_reducible apply gMul_ok) | (with_reducible apply gAdd_ok) | (with_reducible apply gSub_ok) | (with_reducible apply gEqI) | (with_reducible apply gNeI) | (with_reducible apply gLt_ok) | (with_reducible apply gLe_ok) | (with_reducible apply gGt_ok) | (with_reducible apply gGe_ok) | (with_reducible apply gInt_ok) | (with_reducible apply mulB_ok) | (with_reducible apply lim_ok) | ((with_reducible apply ite_t); (first | assumption | (exact decide_eq_true (by omega)) | (exact decide_eq_false (by omega)) | (simp only [Bool.not_eq_true', Bool.not_eq_false', Bool.not_not, decide_eq_false_iff_not, decide_eq_true_eq, Bool.false_eq_true, if_true, if_false, Bool.not_false, Bool.not_true, reduceIte]; omega) | exact rfl)) | ((with_reducible apply ite_f); (first | assumption | (exact decide_eq_true (by omega)) | (exact decide_eq_false (by omega)) | (simp only [Bool.not_eq_true', Bool.not_eq_false', Bool.not_not, decide_eq_false_iff_not, decide_eq_true_eq, Bool.false_eq_true, if_true, if_false, Bool.not_false, Bool.not_true, reduceIte]; omega) | exact rfl)) | (simp only [List.set_cons_succ, List.set_cons_zero, wipeD]; exact rfl) | (simp only [List.length_cons, List.length_nil, List.length_map, List.length_append]; omega) | (exact rfl) | (omega)))) ?_ (by omega), List.map_map]
    · rfl
    · intro q hq
      obtain ⟨h1, h2⟩ := h q hq
      obtain ⟨j, j1, j2⟩ := ixW (e := e) (r := r) (i := i) (m := m) (t := t) h1
      have hm : mulB q.2 (wv e r i m t q.1) = true := mulB_ok (by omega) (by have := a.wv h1; omega)
      refine ⟨[some (.tup (l.map encT)), some (five e r i m t), some (.str q.1), some (.int q.2)], ?_, rfl, ?_⟩
      · (repeat' (first | (with_reducible assumption) | (with_reducible apply mVar_ok) | (with_reducible apply mC_ok) | (with_reducible apply mOp_ok) | (with_reducible apply mTest_ok) | (with_reducible apply mCons_ok) | (with_reducible apply mNil_ok) | (with_reducible apply mCall_ok) | (with_reducible apply mCallF_ok) | (with_reducible apply mSeq_eq) | (with_reducible apply seqNx) | (with_reducible apply seqRt) | (with_reducible apply mSkip_ok) | (with_reducible apply mRet_ok) | (with_reducible apply mRetN_ok) | (with_reducible apply mExpr_ok) | (with_reducible apply mAsg_ok) | (with_reducible apply mGName_ok) | (with_reducible apply mIfS_ok) | (with_reducible apply mTAnd_ok) | (with_reducible apply mTOr_ok) | (with_reducible apply mTNot_ok) | (with_reducible apply mAnd_ok) | (with_reducible apply mOr_ok) | (with_reducible apply mNot_ok) | (with_reducible apply mIf_ok) | (with_reducible apply mChain_ok) | (with_reducible apply bindO_ok) | (with_reducible apply mTup_ok) | (with_reducible apply mLst_ok) | (with_reducible apply mLst_okC) | (with_reducible apply mUn_ok) | (with_reducible apply mMet_ok) | (with_reducible apply mMetC_ok) | (with_reducible apply mGTup_ok) | (with_reducible apply mGCons_ok) | (with_reducible apply mGNil_ok) | (with_reducible apply mPar_ok) | (with_reducible apply mPar3_ok) | (with_reducible apply mSet_ok) | (with_reducible apply mSeqI_ok) | (with_reducible apply mRange1_ok) | (with_reducible apply mZip_ok) | (with_reducible apply mFrz_ok) | (with_reducible apply mFor_ok) | (with_reducible apply mCallV_ok) | (with_reducible apply gAddL) | (with_reducible apply gSumL) | (with_reducible apply gMax0) | (with_reducible apply gMax2) | (with_reducible apply gMaxP) | (with_reducible apply gAllL) | (with_reducible apply gTupL) | (with_reducible apply gTupT) | (with_reducible apply gListT) | (with_reducible apply gLenT) | (with_reducible apply gIsiT) | (with_reducible apply gIsNT) | (with_reducible apply gEqL0) | (with_reducible apply gNeL0) | (with_reducible apply gMul_ok) | (with_reducible apply gAdd_ok) | (with_reducible apply gSub_ok) | (with_reducible apply gEqI) | (with_reducible apply gNeI) | (with_reducible apply gLt_ok) | (with_reducible apply gLe_ok) | (with_reducible apply gGt_ok) | (with_reducible apply gGe_ok) | (with_reducible apply gInt_ok) | (with_reducible apply mulB_ok) | (with_reducible apply lim_ok) | ((with_reducible apply ite_t); (first | assumption | (exact decide_eq_true (by omega)) | (exact decide_eq_false (by omega)) | (simp only [Bool.not_eq_true', Bool.not_eq_false', Bool.not_not, decide_eq_false_iff_not, decide_eq_true_eq, Bool.false_eq_true, if_true, if_false, Bool.not_false, Bool.not_true, reduceIte]; omega) | exact rfl)) | ((with_reducible apply ite_f); (first | assumption | (exact decide_eq_true (by omega)) | (exact decide_eq_false (by omega)) | (simp only [Bool.not_eq_true', Bool.not_eq_false', Bool.not_not, decide_eq_false_iff_not, decide_eq_true_eq, Bool.false_eq_true, if_true, if_false, Bool.not_false, Bool.not_true, reduceIte]; omega) | exact rfl)) | (simp only [List.set_cons_succ, List.set_cons_zero, wipeD]; exact rfl) | (simp only [List.length_cons, List.length_nil, List.length_map, List.length_append]; omega) | (exact rfl) | (omega)))
      · (repeat' (first | (with_reducible assumption) | (with_reducible exact j1 _) | (with_reducible exact j2 _) | (with_reducible apply mVar_ok) | (with_reducible apply mC_ok) | (with_reducible apply mOp_ok) | (with_reducible apply mTest_ok) | (with_reducible apply mCons_ok) | (with_reducible apply mNil_ok) | (with_reducible apply mCall_ok) | (with_reducible apply mCallF_ok) | (with_reducible apply mSeq_eq) | (with_reducible apply seqNx) | (with_reducible apply seqRt) | (with_reducible apply mSkip_ok) | (with_reducible apply mRet_ok) | (with_reducible apply mRetN_ok) | (with_reducible apply mExpr_ok) | (with_reducible apply mAsg_ok) | (with_reducible apply mGName_ok) | (with_reducible apply mIfS_ok) | (with_reducible apply mTAnd_ok) | (with_reducible apply mTOr_ok) | (with_reducible apply mTNot_ok) | (with_reducible apply mAnd_ok) | (with_reducible apply mOr_ok) | (with_reducible apply mNot_ok) | (with_reducible apply mIf_ok) | (with_reducible apply mChain_ok) | (with_reducible apply bindO_ok) | (with_reducible apply mTup_ok) | (with_reducible apply mLst_ok) | (with_reducible apply mLst_okC) | (with_reducible apply mUn_ok) | (with_reducible apply mMet_ok) | (with_reducible apply mMetC_ok) | (with_reducible apply mGTup_ok) | (with_reducible apply mGCons_ok) | (with_reducible apply mGNil_ok) | (with_reducible apply mPar_ok) | (with_reducible apply mPar3_ok) | (with_reducible apply mSet_ok) | (with_reducible apply mSeqI_ok) | (with_reducible apply mRange1_ok) | (with_reducible apply mZip_ok) | (with_reducible apply mFrz_ok) | (with_reducible apply mFor_ok) | (with_reducible apply mCallV_ok) | (with_reducible apply gAddL) | (with_reducible apply gSumL) | (with_reducible apply gMax0) | (with_reducible apply gMax2) | (with_reducible apply gMaxP) | (with_reducible apply gAllL) | (with_reducible apply gTupL) | (with_reducible apply gTupT) | (with_reducible apply gListT) | (with_reducible apply gLenT) | (with_reducible apply gIsiT) | (with_reducible apply gIsNT) | (with_reducible apply gEqL0) | (with_reducible apply gNeL0) | (with_reducible apply gMul_ok) | (with_reducible apply gAdd_ok) | (with_reducible apply gSub_ok) | (with_reducible apply gEqI) | (with_reducible apply gNeI) | (with_reducible apply gLt_ok) | (with_reducible apply gLe_ok) | (with_reducible apply gGt_ok) | (with_reducible apply gGe_ok) | (with_reducible apply gInt_ok) | (with_reducible apply mulB_ok) | (with_reducible apply lim_ok) | ((with_reducible apply ite_t); (first | assumption | (exact decide_eq_true (by omega)) | (exact decide_eq_false (by omega)) | (simp only [Bool.not_eq_true', Bool.not_eq_false', Bool.not_not, decide_eq_false_iff_not, decide_eq_true_eq, Bool.false_eq_true, if_true, if_false, Bool.not_false, Bool.not_true, reduceIte]; omega) | exact rfl)) | ((with_reducible apply ite_f); (first | assumption | (exact decide_eq_true (by omega)) | (exact decide_eq_false (by omega)) | (simp only [Bool.not_eq_true', Bool.not_eq_false', Bool.not_not, decide_eq_false_iff_not, decide_eq_true_eq, Bool.false_eq_true, if_true, if_false, Bool.not_false, Bool.not_true, reduceIte]; omega) | exact rfl)) | (simp only [List.set_cons_succ, List.set_cons_zero, wipeD]; exact rfl) | (simp only [List.length_cons, List.length_nil, List.length_map, List.length_append]; omega) | (exact rfl) | (omega)))
  have hs : gIL (fun ns => some (D.int ns.sum)) mu [.lst ((l.map fun q => q.2 * wv e r i m t q.1).map D.int)] = some (.int (wSum e r i m t l), mu) := gSumL
  unfold m_worth_of
  (repeat' (first | (with_reducible assumption) | (with_reducible exact q1) | (with_reducible apply mVar_ok) | (with_reducible apply mC_ok) | (with_reducible apply mOp_ok) | (with_reducible apply mTest_ok) | (with_reducible apply mCons_ok) | (with_reducible apply mNil_ok) | (with_reducible apply mCall_ok) | (with_reducible apply mCallF_ok) | (with_reducible apply mSeq_eq) | (with_reducible apply seqNx) | (with_reducible apply seqRt) | (with_reducible apply mSkip_ok) | (with_reducible apply mRet_ok) | (with_reducible apply mRetN_ok) | (with_reducible apply mExpr_ok) | (with_reducible apply mAsg_ok) | (with_reducible apply mGName_ok) | (with_reducible apply mIfS_ok) | (with_reducible apply mTAnd_ok) | (with_reducible apply mTOr_ok) | (with_reducible apply mTNot_ok) | (with_reducible apply mAnd_ok) | (with_reducible apply mOr_ok) | (with_reducible apply mNot_ok) | (with_reducible apply mIf_ok) | (with_reducible apply mChain_ok) | (with_reducible apply bindO_ok) | (with_reducible apply mTup_ok) | (with_reducible apply mLst_ok) | (with_reducible apply mLst_okC) | (with_reducible apply mUn_ok) | (with_reducible apply mMet_ok) | (with_reducible apply mMetC_ok) | (with_reducible apply mGTup_ok) | (with_reducible apply mGCons_ok) | (with_reducible apply mGNil_ok) | (with_reducible apply mPar_ok) | (with_reducible apply mPar3_ok) | (with_reducible apply mSet_ok) | (with_reducible apply mSeqI_ok) | (with_reducible apply mRange1_ok) | (with_reducible apply mZip_ok) | (with_reducible apply mFrz_ok) | (with_reducible apply mFor_ok) | (with_reducible apply mCallV_ok) | (with_reducible apply gAddL) | (with_reducible apply gSumL) | (with_reducible apply gMax0) | (with_reducible apply gMax2) | (with_reducible apply gMaxP) | (with_reducible apply gAllL) | (with_reducible apply gTupL) | (with_reducible apply gTupT) | (with_reducible apply gListT) | (with_reducible apply gLenT) | (with_reducible apply gIsiT) | (with_reducible apply gIsNT) | (with_reducible apply gEqL0) | (with_reducible apply gNeL0) | (with_reducible apply gMul_ok) | (with_reducible apply gAdd_ok) | (with_reducible apply gSub_ok) | (with_reducible apply gEqI) | (with_reducible apply gNeI) | (with_reducible apply gLt_ok) | (with_reducible apply gLe_ok) | (with_reducible apply gGt_ok) | (with_reducible apply gGe_ok) | (with_reducible apply gInt_ok) | (with_reducible apply mulB_ok) | (with_reducible apply lim_ok) | ((with_reducible apply ite_t); (first | assumption | (exact decide_eq_true (by omega)) | (exact decide_eq_false (by omega)) | (simp only [Bool.not_eq_true', Bool.not_eq_false', Bool.not_not, decide_eq_false_iff_not, decide_eq_true_eq, Bool.false_eq_true, if_true, if_false, Bool.not_false, Bool.not_true, reduceIte]; omega) | exact rfl)) | ((with_reducible apply ite_f); (first | assumption | (exact decide_eq_true (by omega)) | (exact decide_eq_false (by omega)) | (simp only [Bool.not_eq_true', Bool.not_eq_false', Bool.not_not, decide_eq_false_iff_not, decide_eq_true_eq, Bool.false_eq_true, if_true, if_false, Bool.not_false, Bool.not_true, reduceIte]; omega) | exact rfl)) | (simp only [List.set_cons_succ, List.set_cons_zero, wipeD]; exact rfl) | (simp only [List.length_cons, List.length_nil, List.length_map, List.length_append]; omega) | (exact rfl) | (omega)))
abbrev Fact := List (Str × Int) × List (Str × Int)
abbrev encF (f : Fact) : D := .tup [.tup (f.1.map encT), .tup (f.2.map encT)]
def okF (f : Fact) : Prop := (∀ q ∈ f.1, okT q) ∧ (∀ q ∈ f.2, okT q) ∧ f.1.length ≤ 1000 ∧ f.2.length ≤ 1000
def holdsF (e r i m t : Int) (f : Fact) : Bool := decide (wSum e r i m t f.1 ≤ wSum e r i m t f.2)
def fOne : List Fact := [([("rows", 1)], [("every", 1)]), ([("every", 1)], [("rows", 1)]), ([("item", 1)], [("most", 1)]), ([("most", 1)], [("item", 1)]), ([("table", 1)], [("most", 1)]), ([("most", 1)], [("table", 1)]), ([("most", 1)], [("every", 1)])]
def fK1 : List Fact := [([("item", 1)], [("table", 1)]), ([("table", 1)], [("item", 1)]), ([("most", 1)], [("table", 1)]), ([("table", 1)], [("most", 2)]), ([("most", 1)], [("rows", 1)]), ([("rows", 1), ("table", 1)], [("every", 1), ("most", 1)]), ([("every", 1), ("most", 2)], [("rows", 2), ("table", 1)])]
def fK2 : List Fact := [([("most", 1)], [("item", 1)]), ([("item", 1)], [("table", 1)]), ([("table", 1)], [("most", 2)]), ([("table", 1)], [("rows", 1)]), ([("item", 1), ("rows", 1)], [("every", 1), ("most", 1)]), ([("every", 1), ("most", 2)], [("item", 1), ("rows", 2)]), ([("every", 1), ("table", 2)], [("item", 2), ("rows", 2)])]
theorem cOne : c_ONE_BOX = .tup (fOne.map encF) := rfl
theorem cK1 : c_KIND_ONE = .tup (fK1.map encF) := rfl
theorem cK2 : c_KIND_TWO = .tup (fK2.map encF) := rfl
theorem bits1 : Builtin.Int.intBits 1 ≤ 100 := by decide
theorem bits2 : Builtin.Int.intBits 2 ≤ 100 := by decide
theorem okOne : ∀ f ∈ fOne, okF f := by
  intro f hf
  simp only [fOne, List.mem_cons, List.not_mem_nil, or_false] at hf
  rcases hf with rfl | rfl | rfl | rfl | rfl | rfl | rfl <;> simp [okF, okT, WL, bits1, bits2]
theorem okK1 : ∀ f ∈ fK1, okF f := by
  intro f hf
  simp only [fK1, List.mem_cons, List.not_mem_nil, or_false] at hf
  rcases hf with rfl | rfl | rfl | rfl | rfl | rfl | rfl <;> simp [okF, okT, WL, bits1, bits2]
theorem okK2 : ∀ f ∈ fK2, okF f := by
  intro f hf
  simp only [fK2, List.mem_cons, List.not_mem_nil, or_false] at hf
  rcases hf with rfl | rfl | rfl | rfl | rfl | rfl | rfl <;> simp [okF, okT, WL, bits1, bits2]
def B1 (e r i m t : Int) : Bool := fOne.all (holdsF e r i m t)
def K1 (e r i m t : Int) : Bool := fK1.all (holdsF e r i m t)
def K2 (e r i m t : Int) : Bool := fK2.all (holdsF e r i m t)
theorem b1_iff : B1 e r i m t = true ↔ r ≤ e ∧ e ≤ r ∧ i ≤ m ∧ m ≤ i ∧ t ≤ m ∧ m ≤ t ∧ m ≤ e := by
  simp only [B1, fOne, List.all_cons, List.all_nil, holdsF, wSum, List.map_cons, List.map_nil, List.sum_cons, List.sum_nil, wvE, wvR, wvI, wvM, wvT, Bool.and_eq_true, decide_eq_true_eq, Bool.and_true]
  omega
theorem k1_iff : K1 e r i m t = true ↔ i ≤ t ∧ t ≤ i ∧ m ≤ t ∧ t ≤ 2 * m ∧ m ≤ r ∧ r + t ≤ e + m ∧ e + 2 * m ≤ 2 * r + t := by
  simp only [K1, fK1, List.all_cons, List.all_nil, holdsF, wSum, List.map_cons, List.map_nil, List.sum_cons, List.sum_nil, wvE, wvR, wvI, wvM, wvT, Bool.and_eq_true, decide_eq_true_eq, Bool.and_true]
  omega
theorem k2_iff : K2 e r i m t = true ↔ m ≤ i ∧ i ≤ t ∧ t ≤ 2 * m ∧ t ≤ r ∧ i + r ≤ e + m ∧ e + 2 * m ≤ i + 2 * r ∧ e + 2 * t ≤ 2 * i + 2 * r := by
  simp only [K2, fK2, List.all_cons, List.all_nil, holdsF, wSum, List.map_cons, List.map_nil, List.sum_cons, List.sum_nil, wvE, wvR, wvI, wvM, wvT, Bool.and_eq_true, decide_eq_true_eq, Bool.and_true]
  omega
theorem e_need (a : Am e r i m t) {n : Int} (h1 : 1 ≤ n) (h2 : n ≤ 2) : d_need_told A [.int n, five e r i m t] mu = .ok .non mu := by
  refine denF_nx (e' := [some (.int n), some (five e r i m t), none]) (env0 := [some (.int n), some (five e r i m t), none]) rfl ?_
  have q1 : q_need_told_1 A [some (.int n), some (five e r i m t), none] mu = .ok (.lst (([e, r, i, m, t].map fun _ => true).map D.bl)) mu := by
    unfold q_need_told_1
    rw [mLc_map (enc := D.int) (f := fun _ => .bl true) [e, r, i, m, t] (by (repeat' (first | (with_reducible assumption) | (with_reducible apply mVar_ok) | (with_reducible apply mC_ok) | (with_reducible apply mOp_ok) | (with_reducible apply mTest_ok) | (with_reducible apply mCons_ok) | (with_reducible apply mNil_ok) | (with_reducible apply mCall_ok) | (with_reducible apply mCallF_ok) | (with_reducible apply mSeq_eq) | (with_reducible apply seqNx) | (with_reducible apply seqRt) | (with_reducible apply mSkip_ok) | (with_reducible apply mRet_ok) | (with_reducible apply mRetN_ok) | (with_reducible apply mExpr_ok) | (with_reducible apply mAsg_ok) | (with_reducible apply mGName_ok) | (with_reducible apply mIfS_ok) | (with_reducible apply mTAnd_ok) | (with_reducible apply mTOr_ok) | (with_reducible apply mTNot_ok) | (with_reducible apply mAnd_ok) | (with_reducible apply mOr_ok) | (with_reducible apply mNot_ok) | (with_reducible apply mIf_ok) | (with_reducible apply mChain_ok) | (with_reducible apply bindO_ok) | (with_reducible apply mTup_ok) | (with_reducible apply mLst_ok) | (with_reducible apply mLst_okC) | (with_reducible apply mUn_ok) | (with_reducible apply mMet_ok) | (with_reducible apply mMetC_ok) | (with_reducible apply mGTup_ok) | (with_reducible apply mGCons_ok) | (with_reducible apply mGNil_ok) | (with_reducible apply mPar_ok) | (with_reducible apply mPar3_ok) | (with_reducible apply mSet_ok) | (with_reducible apply mSeqI_ok) | (with_reducible apply mRange1_ok) | (with_reducible apply mZip_ok) | (with_reducible apply mFrz_ok) | (with_reducible apply mFor_ok) | (with_reducible apply mCallV_ok) | (with_reducible apply gAddL) | (with_reducible apply gSumL) | (with_reducible apply gMax0) | (with_reducible apply gMax2) | (with_reducible apply gMaxP) | (with_reducible apply gAllL) | (with_reducible apply gTupL) | (with_reducible apply gTupT) | (with_reducible apply gListT) | (with_reducible apply gLenT) | (with_reducible apply gIsiT) | (with_reducible apply gIsNT) | (with_reducible apply gEqL0) | (with_reducible apply gNeL0) | (with_reducible apply gMul_ok) | (with_reducible apply gAdd_ok) | (with_reducible apply gSub_ok) | (with_reducible apply gEqI) | (with_reducible apply gNeI) | (with_reducible apply gLt_ok) | (with_reducible apply gLe_ok) | (with_reducible apply gGt_ok) | (with_reducible apply gGe_ok) | (with_reducible apply gInt_ok) | (with_reducible apply mulB_ok) | (with_reducible apply lim_ok) | ((with_reducible apply ite_t); (first | assumption | (exact decide_eq_true (by omega)) | (exact decide_eq_false (by omega)) | (simp only [Bool.not_eq_true', Bool.not_eq_false', Bool.not_not, decide_eq_false_iff_not, decide_eq_true_eq, Bool.false_eq_true, if_true, if_false, Bool.not_false, Bool.not_true, reduceIte]; omega) | exact rfl)) | ((with_reducible apply ite_f); (first | assumption | (exact decide_eq_true (by omega)) | (exact decide_eq_false (by omega)) | (simp only [Bool.not_eq_true', Bool.not_eq_false', Bool.not_not, decide_eq_false_iff_not, decide_eq_true_eq, Bool.false_eq_true, if_true, if_false, Bool.not_false, Bool.not_true, reduceIte]; omega) | exact rfl)) | (simp only [List.set_cons_succ, List.set_cons_zero, wipeD]; exact rfl) | (simp only [List.length_cons, List.length_nil, List.length_map, List.length_append]; omega) | (exact rfl) | (omega)))) ?_ (by simp), List.map_map]
    · rfl
    · intro x hx
      have hx0 : 0 ≤ x := by
        have h1 := a.pe; have h2 := a.pr; have h3 := a.pi; have h4 := a.pm; have h5 := a.pt
        simp only [List.mem_cons, List.not_mem_nil, or_false] at hx
        rcases hx with rfl | rfl | rfl | rfl | rfl <;> assumption
      refine ⟨[some (.int n), some (five e r i m t), some (.int x)], ?_, rfl, ?_⟩
      · (repeat' (first | (with_reducible assumption) | (with_reducible apply mVar_ok) | (with_reducible apply mC_ok) | (with_reducible apply mOp_ok) | (with_reducible apply mTest_ok) | (with_reducible apply mCons_ok) | (with_reducible apply mNil_ok) | (with_reducible apply mCall_ok) | (with_reducible apply mCallF_ok) | (with_reducible apply mSeq_eq) | (with_reducible apply seqNx) | (with_reducible apply seqRt) | (with_reducible apply mSkip_ok) | (with_reducible apply mRet_ok) | (with_reducible apply mRetN_ok) | (with_reducible apply mExpr_ok) | (with_reducible apply mAsg_ok) | (with_reducible apply mGName_ok) | (with_reducible apply mIfS_ok) | (with_reducible apply mTAnd_ok) | (with_reducible apply mTOr_ok) | (with_reducible apply mTNot_ok) | (with_reducible apply mAnd_ok) | (with_reducible apply mOr_ok) | (with_reducible apply mNot_ok) | (with_reducible apply mIf_ok) | (with_reducible apply mChain_ok) | (with_reducible apply bindO_ok) | (with_reducible apply mTup_ok) | (with_reducible apply mLst_ok) | (with_reducible apply mLst_okC) | (with_reducible apply mUn_ok) | (with_reducible apply mMet_ok) | (with_reducible apply mMetC_ok) | (with_reducible apply mGTup_ok) | (with_reducible apply mGCons_ok) | (with_reducible apply mGNil_ok) | (with_reducible apply mPar_ok) | (with_reducible apply mPar3_ok) | (with_reducible apply mSet_ok) | (with_reducible apply mSeqI_ok) | (with_reducible apply mRange1_ok) | (with_reducible apply mZip_ok) | (with_reducible apply mFrz_ok) | (with_reducible apply mFor_ok) | (with_reducible apply mCallV_ok) | (with_reducible apply gAddL) | (with_reducible apply gSumL) | (with_reducible apply gMax0) | (with_reducible apply gMax2) | (with_reducible apply gMaxP) | (with_reducible apply gAllL) | (with_reducible apply gTupL) | (with_reducible apply gTupT) | (with_reducible apply gListT) | (with_reducible apply gLenT) | (with_reducible apply gIsiT) | (with_reducible apply gIsNT) | (with_reducible apply gEqL0) | (with_reducible apply gNeL0) | (with_reducible apply gMul_ok) | (with_reducible apply gAdd_ok) | (with_reducible apply gSub_ok) | (with_reducible apply gEqI) | (with_reducible apply gNeI) | (with_reducible apply gLt_ok) | (with_reducible apply gLe_ok) | (with_reducible apply gGt_ok) | (with_reducible apply gGe_ok) | (with_reducible apply gInt_ok) | (with_reducible apply mulB_ok) | (with_reducible apply lim_ok) | ((with_reducible apply ite_t); (first | assumption | (exact decide_eq_true (by omega)) | (exact decide_eq_false (by omega)) | (simp only [Bool.not_eq_true', Bool.not_eq_false', Bool.not_not, decide_eq_false_iff_not, decide_eq_true_eq, Bool.false_eq_true, if_true, if_false, Bool.not_false, Bool.not_true, reduceIte]; omega) | exact rfl)) | ((with_reducible apply ite_f); (first | assumption | (exact decide_eq_true (by omega)) | (exact decide_eq_false (by omega)) | (simp only [Bool.not_eq_true', Bool.not_eq_false', Bool.not_not, decide_eq_false_iff_not, decide_eq_true_eq, Bool.false_eq_true, if_true, if_false, Bool.not_false, Bool.not_true, reduceIte]; omega) | exact rfl)) | (simp only [List.set_cons_succ, List.set_cons_zero, wipeD]; exact rfl) | (simp only [List.length_cons, List.length_nil, List.length_map, List.length_append]; omega) | (exact rfl) | (omega)))
      · (repeat' (first | (with_reducible assumption) | (with_reducible exact e_zero hx0) | (with_reducible apply mVar_ok) | (with_reducible apply mC_ok) | (with_reducible apply mOp_ok) | (with_reducible apply mTest_ok) | (with_reducible apply mCons_ok) | (with_reducible apply mNil_ok) | (with_reducible apply mCall_ok) | (with_reducible apply mCallF_ok) | (with_reducible apply mSeq_eq) | (with_reducible apply seqNx) | (with_reducible apply seqRt) | (with_reducible apply mSkip_ok) | (with_reducible apply mRet_ok) | (with_reducible apply mRetN_ok) | (with_reducible apply mExpr_ok) | (with_reducible apply mAsg_ok) | (with_reducible apply mGName_ok) | (with_reducible apply mIfS_ok) | (with_reducible apply mTAnd_ok) | (with_reducible apply mTOr_ok) | (with_reducible apply mTNot_ok) | (with_reducible apply mAnd_ok) | (with_reducible apply mOr_ok) | (with_reducible apply mNot_ok) | (with_reducible apply mIf_ok) | (with_reducible apply mChain_ok) | (with_reducible apply bindO_ok) | (with_reducible apply mTup_ok) | (with_reducible apply mLst_ok) | (with_reducible apply mLst_okC) | (with_reducible apply mUn_ok) | (with_reducible apply mMet_ok) | (with_reducible apply mMetC_ok) | (with_reducible apply mGTup_ok) | (with_reducible apply mGCons_ok) | (with_reducible apply mGNil_ok) | (with_reducible apply mPar_ok) | (with_reducible apply mPar3_ok) | (with_reducible apply mSet_ok) | (with_reducible apply mSeqI_ok) | (with_reducible apply mRange1_ok) | (with_reducible apply mZip_ok) | (with_reducible apply mFrz_ok) | (with_reducible apply mFor_ok) | (with_reducible apply mCallV_ok) | (with_reducible apply gAddL) | (with_reducible apply gSumL) | (with_reducible apply gMax0) | (with_reducible apply gMax2) | (with_reducible apply gMaxP) | (with_reducible apply gAllL) | (with_reducible apply gTupL) | (with_reducible apply gTupT) | (with_reducible apply gListT) | (with_reducible apply gLenT) | (with_reducible apply gIsiT) | (with_reducible apply gIsNT) | (with_reducible apply gEqL0) | (with_reducible apply gNeL0) | (with_reducible apply gMul_ok) | (with_reducible apply gAdd_ok) | (with_reducible apply gSub_ok) | (with_reducible apply gEqI) | (with_reducible apply gNeI) | (with_reducible apply gLt_ok) | (with_reducible apply gLe_ok) | (with_reducible apply gGt_ok) | (with_reducible apply gGe_ok) | (with_reducible apply gInt_ok) | (with_reducible apply mulB_ok) | (with_reducible apply lim_ok) | ((with_reducible apply ite_t); (first | assumption | (exact decide_eq_true (by omega)) | (exact decide_eq_false (by omega)) | (simp only [Bool.not_eq_true', Bool.not_eq_false', Bool.not_not, decide_eq_false_iff_not, decide_eq_true_eq, Bool.false_eq_true, if_true, if_false, Bool.not_false, Bool.not_true, reduceIte]; omega) | exact rfl)) | ((with_reducible apply ite_f); (first | assumption | (exact decide_eq_true (by omega)) | (exact decide_eq_false (by omega)) | (simp only [Bool.not_eq_true', Bool.not_eq_false', Bool.not_not, decide_eq_false_iff_not, decide_eq_true_eq, Bool.false_eq_true, if_true, if_false, Bool.not_false, Bool.not_true, reduceIte]; omega) | exact rfl)) | (simp only [List.set_cons_succ, List.set_cons_zero, wipeD]; exact rfl) | (simp only [List.length_cons, List.length_nil, List.length_map, List.length_append]; omega) | (exact rfl) | (omega)))
  unfold m_need_told
  (repeat' (first | (with_reducible assumption) | (with_reducible exact e_num) | (with_reducible exact q1) | (with_reducible apply mVar_ok) | (with_reducible apply mC_ok) | (with_reducible apply mOp_ok) | (with_reducible apply mTest_ok) | (with_reducible apply mCons_ok) | (with_reducible apply mNil_ok) | (with_reducible apply mCall_ok) | (with_reducible apply mCallF_ok) | (with_reducible apply mSeq_eq) | (with_reducible apply seqNx) | (with_reducible apply seqRt) | (with_reducible apply mSkip_ok) | (with_reducible apply mRet_ok) | (with_reducible apply mRetN_ok) | (with_reducible apply mExpr_ok) | (with_reducible apply mAsg_ok) | (with_reducible apply mGName_ok) | (with_reducible apply mIfS_ok) | (with_reducible apply mTAnd_ok) | (with_reducible apply mTOr_ok) | (with_reducible apply mTNot_ok) | (with_reducible apply mAnd_ok) | (with_reducible apply mOr_ok) | (with_reducible apply mNot_ok) | (with_reducible apply mIf_ok) | (with_reducible apply mChain_ok) | (with_reducible apply bindO_ok) | (with_reducible apply mTup_ok) | (with_reducible apply mLst_ok) | (with_reducible apply mLst_okC) | (with_reducible apply mUn_ok) | (with_reducible apply mMet_ok) | (with_reducible apply mMetC_ok) | (with_reducible apply mGTup_ok) | (with_reducible apply mGCons_ok) | (with_reducible apply mGNil_ok) | (with_reducible apply mPar_ok) | (with_reducible apply mPar3_ok) | (with_reducible apply mSet_ok) | (with_reducible apply mSeqI_ok) | (with_reducible apply mRange1_ok) | (with_reducible apply mZip_ok) | (with_reducible apply mFrz_ok) | (with_reducible apply mFor_ok) | (with_reducible apply mCallV_ok) | (with_reducible apply gAddL) | (with_reducible apply gSumL) | (with_reducible apply gMax0) | (with_reducible apply gMax2) | (with_reducible apply gMaxP) | (with_reducible apply gAllL) | (with_reducible apply gTupL) | (with_reducible apply gTupT) | (with_reducible apply gListT) | (with_reducible apply gLenT) | (with_reducible apply gIsiT) | (with_reducible apply gIsNT) | (with_reducible apply gEqL0) | (with_reducible apply gNeL0) | (with_reducible apply gMul_ok) | (with_reducible apply gAdd_ok) | (with_reducible apply gSub_ok) | (with_reducible apply gEqI) | (with_reducible apply gNeI) | (with_reducible apply gLt_ok) | (with_reducible apply gLe_ok) | (with_reducible apply gGt_ok) | (with_reducible apply gGe_ok) | (with_reducible apply gInt_ok) | (with_reducible apply mulB_ok) | (with_reducible apply lim_ok) | ((with_reducible apply ite_t); (first | assumption | (exact decide_eq_true (by omega)) | (exact decide_eq_false (by omega)) | (simp only [Bool.not_eq_true', Bool.not_eq_false', Bool.not_not, decide_eq_false_iff_not, decide_eq_true_eq, Bool.false_eq_true, if_true, if_false, Bool.not_false, Bool.not_true, reduceIte]; omega) | exact rfl)) | ((with_reducible apply ite_f); (first | assumption | (exact decide_eq_true (by omega)) | (exact decide_eq_false (by omega)) | (simp only [Bool.not_eq_true', Bool.not_eq_false', Bool.not_not, decide_eq_false_iff_not, decide_eq_true_eq, Bool.false_eq_true, if_true, if_false, Bool.not_false, Bool.not_true, reduceIte]; omega) | exact rfl)) | (simp only [List.set_cons_succ, List.set_cons_zero, wipeD]; exact rfl) | (simp only [List.length_cons, List.length_nil, List.length_map, List.length_append]; omega) | (exact rfl) | (omega)))
def factsOf (n : Int) (k : Str) : List Fact := if n = 1 then fOne else if k = "one" then fK1 else fK2
theorem e_facts {n : Int} {k : Str} (hn : n = 1 ∨ (n = 2 ∧ (k = "one" ∨ k = "two"))) : d_list_facts A [.int n, .str k] mu = .ok (.tup ((factsOf n k).map encF)) mu := by
  refine denF_rt (env0 := [some (.int n), some (.str k)]) rfl ?_
  unfold m_list_facts
  rcases hn with rfl | ⟨rfl, rfl | rfl⟩
  · show _ = SR.rt c_ONE_BOX mu
    (repeat' (first | (with_reducible assumption) | (with_reducible apply mVar_ok) | (with_reducible apply mC_ok) | (with_reducible apply mOp_ok) | (with_reducible apply mTest_ok) | (with_reducible apply mCons_ok) | (with_reducible apply mNil_ok) | (with_reducible apply mCall_ok) | (with_reducible apply mCallF_ok) | (with_reducible apply mSeq_eq) | (with_reducible apply seqNx) | (with_reducible apply seqRt) | (with_reducible apply mSkip_ok) | (with_reducible apply mRet_ok) | (with_reducible apply mRetN_ok) | (with_reducible apply mExpr_ok) | (with_reducible apply mAsg_ok) | (with_reducible apply mGName_ok) | (with_reducible apply mIfS_ok) | (with_reducible apply mTAnd_ok) | (with_reducible apply mTOr_ok) | (with_reducible apply mTNot_ok) | (with_reducible apply mAnd_ok) | (with_reducible apply mOr_ok) | (with_reducible apply mNot_ok) | (with_reducible apply mIf_ok) | (with_reducible apply mChain_ok) | (with_reducible apply bindO_ok) | (with_reducible apply mTup_ok) | (with_reducible apply mLst_ok) | (with_reducible apply mLst_okC) | (with_reducible apply mUn_ok) | (with_reducible apply mMet_ok) | (with_reducible apply mMetC_ok) | (with_reducible apply mGTup_ok) | (with_reducible apply mGCons_ok) | (with_reducible apply mGNil_ok) | (with_reducible apply mPar_ok) | (with_reducible apply mPar3_ok) | (with_reducible apply mSet_ok) | (with_reducible apply mSeqI_ok) | (with_reducible apply mRange1_ok) | (with_reducible apply mZip_ok) | (with_reducible apply mFrz_ok) | (with_reducible apply mFor_ok) | (with_reducible apply mCallV_ok) | (with_reducible apply gAddL) | (with_reducible apply gSumL) | (with_reducible apply gMax0) | (with_reducible apply gMax2) | (with_reducible apply gMaxP) | (with_reducible apply gAllL) | (with_reducible apply gTupL) | (with_reducible apply gTupT) | (with_reducible apply gListT) | (with_reducible apply gLenT) | (with_reducible apply gIsiT) | (with_reducible apply gIsNT) | (with_reducible apply gEqL0) | (with_reducible apply gNeL0) | (with_reducible apply gMul_ok) | (with_reducible apply gAdd_ok) | (with_reducible apply gSub_ok) | (with_reducible apply gEqI) | (with_reducible apply gNeI) | (with_reducible apply gLt_ok) | (with_reducible apply gLe_ok) | (with_reducible apply gGt_ok) | (with_reducible apply gGe_ok) | (with_reducible apply gInt_ok) | (with_reducible apply mulB_ok) | (with_reducible apply lim_ok) | ((with_reducible apply ite_t); (first | assumption | (exact decide_eq_true (by omega)) | (exact decide_eq_false (by omega)) | (simp only [Bool.not_eq_true', Bool.not_eq_false', Bool.not_not, decide_eq_false_iff_not, decide_eq_true_eq, Bool.false_eq_true, if_true, if_false, Bool.not_false, Bool.not_true, reduceIte]; omega) | exact rfl)) | ((with_reducible apply ite_f); (first | assumption | (exact decide_eq_true (by omega)) | (exact decide_eq_false (by omega)) | (simp only [Bool.not_eq_true', Bool.not_eq_false', Bool.not_not, decide_eq_false_iff_not, decide_eq_true_eq, Bool.false_eq_true, if_true, if_false, Bool.not_false, Bool.not_true, reduceIte]; omega) | exact rfl)) | (simp only [List.set_cons_succ, List.set_cons_zero, wipeD]; exact rfl) | (simp only [List.length_cons, List.length_nil, List.length_map, List.length_append]; omega) | (exact rfl) | (omega)))
  · have h : gEq false mu (.str "one") (.str "one") = some (.bl true, mu) := by kernel_rfl
    show _ = SR.rt c_KIND_ONE mu
    (repeat' (first | (with_reducible assumption) | (with_reducible apply mVar_ok) | (with_reducible apply mC_ok) | (with_reducible apply mOp_ok) | (with_reducible apply mTest_ok) | (with_reducible apply mCons_ok) | (with_reducible apply mNil_ok) | (with_reducible apply mCall_ok) | (with_reducible apply mCallF_ok) | (with_reducible apply mSeq_eq) | (with_reducible apply seqNx) | (with_reducible apply seqRt) | (with_reducible apply mSkip_ok) | (with_reducible apply mRet_ok) | (with_reducible apply mRetN_ok) | (with_reducible apply mExpr_ok) | (with_reducible apply mAsg_ok) | (with_reducible apply mGName_ok) | (with_reducible apply mIfS_ok) | (with_reducible apply mTAnd_ok) | (with_reducible apply mTOr_ok) | (with_reducible apply mTNot_ok) | (with_reducible apply mAnd_ok) | (with_reducible apply mOr_ok) | (with_reducible apply mNot_ok) | (with_reducible apply mIf_ok) | (with_reducible apply mChain_ok) | (with_reducible apply bindO_ok) | (with_reducible apply mTup_ok) | (with_reducible apply mLst_ok) | (with_reducible apply mLst_okC) | (with_reducible apply mUn_ok) | (with_reducible apply mMet_ok) | (with_reducible apply mMetC_ok) | (with_reducible apply mGTup_ok) | (with_reducible apply mGCons_ok) | (with_reducible apply mGNil_ok) | (with_reducible apply mPar_ok) | (with_reducible apply mPar3_ok) | (with_reducible apply mSet_ok) | (with_reducible apply mSeqI_ok) | (with_reducible apply mRange1_ok) | (with_reducible apply mZip_ok) | (with_reducible apply mFrz_ok) | (with_reducible apply mFor_ok) | (with_reducible apply mCallV_ok) | (with_reducible apply gAddL) | (with_reducible apply gSumL) | (with_reducible apply gMax0) | (with_reducible apply gMax2) | (with_reducible apply gMaxP) | (with_reducible apply gAllL) | (with_reducible apply gTupL) | (with_reducible apply gTupT) | (with_reducible apply gListT) | (with_reducible apply gLenT) | (with_reducible apply gIsiT) | (with_reducible apply gIsNT) | (with_reducible apply gEqL0) | (with_reducible apply gNeL0) | (with_reducible apply gMul_ok) | (with_reducible apply gAdd_ok) | (with_reducible apply gSub_ok) | (with_reducible apply gEqI) | (with_reducible apply gNeI) | (with_reducible apply gLt_ok) | (with_reducible apply gLe_ok) | (with_reducible apply gGt_ok) | (with_reducible apply gGe_ok) | (with_reducible apply gInt_ok) | (with_reducible apply mulB_ok) | (with_reducible apply lim_ok) | ((with_reducible apply ite_t); (first | assumption | (exact decide_eq_true (by omega)) | (exact decide_eq_false (by omega)) | (simp only [Bool.not_eq_true', Bool.not_eq_false', Bool.not_not, decide_eq_false_iff_not, decide_eq_true_eq, Bool.false_eq_true, if_true, if_false, Bool.not_false, Bool.not_true, reduceIte]; omega) | exact rfl)) | ((with_reducible apply ite_f); (first | assumption | (exact decide_eq_true (by omega)) | (exact decide_eq_false (by omega)) | (simp only [Bool.not_eq_true', Bool.not_eq_false', Bool.not_not, decide_eq_false_iff_not, decide_eq_true_eq, Bool.false_eq_true, if_true, if_false, Bool.not_false, Bool.not_true, reduceIte]; omega) | exact rfl)) | (simp only [List.set_cons_succ, List.set_cons_zero, wipeD]; exact rfl) | (simp only [List.length_cons, List.length_nil, List.length_map, List.length_append]; omega) | (exact rfl) | (omega)))
  · have h : gEq false mu (.str "two") (.str "one") = some (.bl false, mu) := by kernel_rfl
    show _ = SR.rt c_KIND_TWO mu
    (repeat' (first | (with_reducible assumption) | (with_reducible apply mVar_ok) | (with_reducible apply mC_ok) | (with_reducible apply mOp_ok) | (with_reducible apply mTest_ok) | (with_reducible apply mCons_ok) | (with_reducible apply mNil_ok) | (with_reducible apply mCall_ok) | (with_reducible apply mCallF_ok) | (with_reducible apply mSeq_eq) | (with_reducible apply seqNx) | (with_reducible apply seqRt) | (with_reducible apply mSkip_ok) | (with_reducible apply mRet_ok) | (with_reducible apply mRetN_ok) | (with_reducible apply mExpr_ok) | (with_reducible apply mAsg_ok) | (with_reducible apply mGName_ok) | (with_reducible apply mIfS_ok) | (with_reducible apply mTAnd_ok) | (with_reducible apply mTOr_ok) | (with_reducible apply mTNot_ok) | (with_reducible apply mAnd_ok) | (with_reducible apply mOr_ok) | (with_reducible apply mNot_ok) | (with_reducible apply mIf_ok) | (with_reducible apply mChain_ok) | (with_reducible apply bindO_ok) | (with_reducible apply mTup_ok) | (with_reducible apply mLst_ok) | (with_reducible apply mLst_okC) | (with_reducible apply mUn_ok) | (with_reducible apply mMet_ok) | (with_reducible apply mMetC_ok) | (with_reducible apply mGTup_ok) | (with_reducible apply mGCons_ok) | (with_reducible apply mGNil_ok) | (with_reducible apply mPar_ok) | (with_reducible apply mPar3_ok) | (with_reducible apply mSet_ok) | (with_reducible apply mSeqI_ok) | (with_reducible apply mRange1_ok) | (with_reducible apply mZip_ok) | (with_reducible apply mFrz_ok) | (with_reducible apply mFor_ok) | (with_reducible apply mCallV_ok) | (with_reducible apply gAddL) | (with_reducible apply gSumL) | (with_reducible apply gMax0) | (with_reducible apply gMax2) | (with_reducible apply gMaxP) | (with_reducible apply gAllL) | (with_reducible apply gTupL) | (with_reducible apply gTupT) | (with_reducible apply gListT) | (with_reducible apply gLenT) | (with_reducible apply gIsiT) | (with_reducible apply gIsNT) | (with_reducible apply gEqL0) | (with_reducible apply gNeL0) | (with_reducible apply gMul_ok) | (with_reducible apply gAdd_ok) | (with_reducible apply gSub_ok) | (with_reducible apply gEqI) | (with_reducible apply gNeI) | (with_reducible apply gLt_ok) | (with_reducible apply gLe_ok) | (with_reducible apply gGt_ok) | (with_reducible apply gGe_ok) | (with_reducible apply gInt_ok) | (with_reducible apply mulB_ok) | (with_reducible apply lim_ok) | ((with_reducible apply ite_t); (first | assumption | (exact decide_eq_true (by omega)) | (exact decide_eq_false (by omega)) | (simp only [Bool.not_eq_true', Bool.not_eq_false', Bool.not_not, decide_eq_false_iff_not, decide_eq_true_eq, Bool.false_eq_true, if_true, if_false, Bool.not_false, Bool.not_true, reduceIte]; omega) | exact rfl)) | ((with_reducible apply ite_f); (first | assumption | (exact decide_eq_true (by omega)) | (exact decide_eq_false (by omega)) | (simp only [Bool.not_eq_true', Bool.not_eq_false', Bool.not_not, decide_eq_false_iff_not, decide_eq_true_eq, Bool.false_eq_true, if_true, if_false, Bool.not_false, Bool.not_true, reduceIte]; omega) | exact rfl)) | (simp only [List.set_cons_succ, List.set_cons_zero, wipeD]; exact rfl) | (simp only [List.length_cons, List.length_nil, List.length_map, List.length_append]; omega) | (exact rfl) | (omega)))
theorem factsOk (n : Int) (k : Str) : (∀ f ∈ factsOf n k, okF f) ∧ (factsOf n k).length ≤ 1000 := by
  unfold factsOf
  split
  · exact ⟨okOne, by decide⟩
  · split
    · exact ⟨okK1, by decide⟩
    · exact ⟨okK2, by decide⟩
theorem e_keeps (a : Am e r i m t) {n : Int} {k : Str} (hn : n = 1 ∨ (n = 2 ∧ (k = "one" ∨ k = "two"))) : d_keeps A [.int n, .str k, five e r i m t] mu = .ok (.bl ((factsOf n k).all (holdsF e r i m t))) mu := by
  refine denF_rt (env0 := [some (.int n), some (.str k), some (five e r i m t), none, none]) rfl ?_
  obtain ⟨ok, len⟩ := factsOk n k
  have q1 : q_keeps_1 A [some (.int n), some (.str k), some (five e r i m t), none, none] mu = .ok (.lst (((factsOf n k).map (holdsF e r i m t)).map D.bl)) mu := by
    unfold q_keeps_1
    rw [mLc_map (enc := encF) (f := fun f => D.bl (holdsF e r i m t f)) (factsOf n k) ?_ ?_ (by omega), List.map_map]
    · rfl
    · (repeat' (first | (with_reducible assumption) | (with_reducible exact e_facts hn) | (with_reducible apply mVar_ok) | (with_reducible apply mC_ok) | (with_reducible apply mOp_ok) | (with_reducible apply mTest_ok) | (with_reducible apply mCons_ok) | (with_reducible apply mNil_ok) | (with_reducible apply mCall_ok) | (with_reducible apply mCallF_ok) | (with_reducible apply mSeq_eq) | (with_reducible apply seqNx) | (with_reducible apply seqRt) | (with_reducible apply mSkip_ok) | (with_reducible apply mRet_ok) | (with_reducible apply mRetN_ok) | (with_reducible apply mExpr_ok) | (with_reducible apply mAsg_ok) | (with_reducible apply mGName_ok) | (with_reducible apply mIfS_ok) | (with_reducible apply mTAnd_ok) | (with_reducible apply mTOr_ok) | (with_reducible apply mTNot_ok) | (with_reducible apply mAnd_ok) | (with_reducible apply mOr_ok) | (with_reducible apply mNot_ok) | (with_reducible apply mIf_ok) | (with_reducible apply mChain_ok) | (with_reducible apply bindO_ok) | (with_reducible apply mTup_ok) | (with_reducible apply mLst_ok) | (with_reducible apply mLst_okC) | (with_reducible apply mUn_ok) | (with_reducible apply mMet_ok) | (with_reducible apply mMetC_ok) | (with_reducible apply mGTup_ok) | (with_reducible apply mGCons_ok) | (with_reducible apply mGNil_ok) | (with_reducible apply mPar_ok) | (with_reducible apply mPar3_ok) | (with_reducible apply mSet_ok) | (with_reducible apply mSeqI_ok) | (with_reducible apply mRange1_ok) | (with_reducible apply mZip_ok) | (with_reducible apply mFrz_ok) | (with_reducible apply mFor_ok) | (with_reducible apply mCallV_ok) | (with_reducible apply gAddL) | (with_reducible apply gSumL) | (with_reducible apply gMax0) | (with_reducible apply gMax2) | (with_reducible apply gMaxP) | (with_reducible apply gAllL) | (with_reducible apply gTupL) | (with_reducible apply gTupT) | (with_reducible apply gListT) | (with_reducible apply gLenT) | (with_reducible apply gIsiT) | (with_reducible apply gIsNT) | (with_reducible apply gEqL0) | (with_reducible apply gNeL0) | (with_reducible apply gMul_ok) | (with_reducible apply gAdd_ok) | (with_reducible apply gSub_ok) | (with_reducible apply gEqI) | (with_reducible apply gNeI) | (with_reducible apply gLt_ok) | (with_reducible apply gLe_ok) | (with_reducible apply gGt_ok) | (with_reducible apply gGe_ok) | (with_reducible apply gInt_ok) | (with_reducible apply mulB_ok) | (with_reducible apply lim_ok) | ((with_reducible apply ite_t); (first | assumption | (exact decide_eq_true (by omega)) | (exact decide_eq_false (by omega)) | (simp only [Bool.not_eq_true', Bool.not_eq_false', Bool.not_not, decide_eq_false_iff_not, decide_eq_true_eq, Bool.false_eq_true, if_true, if_false, Bool.not_false, Bool.not_true, reduceIte]; omega) | exact rfl)) | ((with_reducible apply ite_f); (first | assumption | (exact decide_eq_true (by omega)) | (exact decide_eq_false (by omega)) | (simp only [Bool.not_eq_true', Bool.not_eq_false', Bool.not_not, decide_eq_false_iff_not, decide_eq_true_eq, Bool.false_eq_true, if_true, if_false, Bool.not_false, Bool.not_true, reduceIte]; omega) | exact rfl)) | (simp only [List.set_cons_succ, List.set_cons_zero, wipeD]; exact rfl) | (simp only [List.length_cons, List.length_nil, List.length_map, List.length_append]; omega) | (exact rfl) | (omega)))
    · intro f hf
      obtain ⟨o1, o2, o3, o4⟩ := ok f hf
      have w1 := e_worth (A := A) (mu := mu) a f.1 o1 o3
      have w2 := e_worth (A := A) (mu := mu) a f.2 o2 o4
      refine ⟨[some (.int n), some (.str k), some (five e r i m t), some (.tup (f.1.map encT)), some (.tup (f.2.map encT))], ?_, rfl, ?_⟩
      · (repeat' (first | (with_reducible assumption) | (with_reducible apply mVar_ok) | (with_reducible apply mC_ok) | (with_reducible apply mOp_ok) | (with_reducible apply mTest_ok) | (with_reducible apply mCons_ok) | (with_reducible apply mNil_ok) | (with_reducible apply mCall_ok) | (with_reducible apply mCallF_ok) | (with_reducible apply mSeq_eq) | (with_reducible apply seqNx) | (with_reducible apply seqRt) | (with_reducible apply mSkip_ok) | (with_reducible apply mRet_ok) | (with_reducible apply mRetN_ok) | (with_reducible apply mExpr_ok) | (with_reducible apply mAsg_ok) | (with_reducible apply mGName_ok) | (with_reducible apply mIfS_ok) | (with_reducible apply mTAnd_ok) | (with_reducible apply mTOr_ok) | (with_reducible apply mTNot_ok) | (with_reducible apply mAnd_ok) | (with_reducible apply mOr_ok) | (with_reducible apply mNot_ok) | (with_reducible apply mIf_ok) | (with_reducible apply mChain_ok) | (with_reducible apply bindO_ok) | (with_reducible apply mTup_ok) | (with_reducible apply mLst_ok) | (with_reducible apply mLst_okC) | (with_reducible apply mUn_ok) | (with_reducible apply mMet_ok) | (with_reducible apply mMetC_ok) | (with_reducible apply mGTup_ok) | (with_reducible apply mGCons_ok) | (with_reducible apply mGNil_ok) | (with_reducible apply mPar_ok) | (with_reducible apply mPar3_ok) | (with_reducible apply mSet_ok) | (with_reducible apply mSeqI_ok) | (with_reducible apply mRange1_ok) | (with_reducible apply mZip_ok) | (with_reducible apply mFrz_ok) | (with_reducible apply mFor_ok) | (with_reducible apply mCallV_ok) | (with_reducible apply gAddL) | (with_reducible apply gSumL) | (with_reducible apply gMax0) | (with_reducible apply gMax2) | (with_reducible apply gMaxP) | (with_reducible apply gAllL) | (with_reducible apply gTupL) | (with_reducible apply gTupT) | (with_reducible apply gListT) | (with_reducible apply gLenT) | (with_reducible apply gIsiT) | (with_reducible apply gIsNT) | (with_reducible apply gEqL0) | (with_reducible apply gNeL0) | (with_reducible apply gMul_ok) | (with_reducible apply gAdd_ok) | (with_reducible apply gSub_ok) | (with_reducible apply gEqI) | (with_reducible apply gNeI) | (with_reducible apply gLt_ok) | (with_reducible apply gLe_ok) | (with_reducible apply gGt_ok) | (with_reducible apply gGe_ok) | (with_reducible apply gInt_ok) | (with_reducible apply mulB_ok) | (with_reducible apply lim_ok) | ((with_reducible apply ite_t); (first | assumption | (exact decide_eq_true (by omega)) | (exact decide_eq_false (by omega)) | (simp only [Bool.not_eq_true', Bool.not_eq_false', Bool.not_not, decide_eq_false_iff_not, decide_eq_true_eq, Bool.false_eq_true, if_true, if_false, Bool.not_false, Bool.not_true, reduceIte]; omega) | exact rfl)) | ((with_reducible apply ite_f); (first | assumption | (exact decide_eq_true (by omega)) | (exact decide_eq_false (by omega)) | (simp only [Bool.not_eq_true', Bool.not_eq_false', Bool.not_not, decide_eq_false_iff_not, decide_eq_true_eq, Bool.false_eq_true, if_true, if_false, Bool.not_false, Bool.not_true, reduceIte]; omega) | exact rfl)) | (simp only [List.set_cons_succ, List.set_cons_zero, wipeD]; exact rfl) | (simp only [List.length_cons, List.length_nil, List.length_map, List.length_append]; omega) | (exact rfl) | (omega)))
      · show _ = Res.ok (D.bl (decide (wSum e r i m t f.1 ≤ wSum e r i m t f.2))) mu
        (repeat' (first | (with_reducible assumption) | (with_reducible apply mVar_ok) | (with_reducible apply mC_ok) | (with_reducible apply mOp_ok) | (with_reducible apply mTest_ok) | (with_reducible apply mCons_ok) | (with_reducible apply mNil_ok) | (with_reducible apply mCall_ok) | (with_reducible apply mCallF_ok) | (with_reducible apply mSeq_eq) | (with_reducible apply seqNx) | (with_reducible apply seqRt) | (with_reducible apply mSkip_ok) | (with_reducible apply mRet_ok) | (with_reducible apply mRetN_ok) | (with_reducible apply mExpr_ok) | (with_reducible apply mAsg_ok) | (with_reducible apply mGName_ok) | (with_reducible apply mIfS_ok) | (with_reducible apply mTAnd_ok) | (with_reducible apply mTOr_ok) | (with_reducible apply mTNot_ok) | (with_reducible apply mAnd_ok) | (with_reducible apply mOr_ok) | (with_reducible apply mNot_ok) | (with_reducible apply mIf_ok) | (with_reducible apply mChain_ok) | (with_reducible apply bindO_ok) | (with_reducible apply mTup_ok) | (with_reducible apply mLst_ok) | (with_reducible apply mLst_okC) | (with_reducible apply mUn_ok) | (with_reducible apply mMet_ok) | (with_reducible apply mMetC_ok) | (with_reducible apply mGTup_ok) | (with_reducible apply mGCons_ok) | (with_reducible apply mGNil_ok) | (with_reducible apply mPar_ok) | (with_reducible apply mPar3_ok) | (with_reducible apply mSet_ok) | (with_reducible apply mSeqI_ok) | (with_reducible apply mRange1_ok) | (with_reducible apply mZip_ok) | (with_reducible apply mFrz_ok) | (with_reducible apply mFor_ok) | (with_reducible apply mCallV_ok) | (with_reducible apply gAddL) | (with_reducible apply gSumL) | (with_reducible apply gMax0) | (with_reducible apply gMax2) | (with_reducible apply gMaxP) | (with_reducible apply gAllL) | (with_reducible apply gTupL) | (with_reducible apply gTupT) | (with_reducible apply gListT) | (with_reducible apply gLenT) | (with_reducible apply gIsiT) | (with_reducible apply gIsNT) | (with_reducible apply gEqL0) | (with_reducible apply gNeL0) | (with_reducible apply gMul_ok) | (with_reducible apply gAdd_ok) | (with_reducible apply gSub_ok) | (with_reducible apply gEqI) | (with_reducible apply gNeI) | (with_reducible apply gLt_ok) | (with_reducible apply gLe_ok) | (with_reducible apply gGt_ok) | (with_reducible apply gGe_ok) | (with_reducible apply gInt_ok) | (with_reducible apply mulB_ok) | (with_reducible apply lim_ok) | ((with_reducible apply ite_t); (first | assumption | (exact decide_eq_true (by omega)) | (exact decide_eq_false (by omega)) | (simp only [Bool.not_eq_true', Bool.not_eq_false', Bool.not_not, decide_eq_false_iff_not, decide_eq_true_eq, Bool.false_eq_true, if_true, if_false, Bool.not_false, Bool.not_true, reduceIte]; omega) | exact rfl)) | ((with_reducible apply ite_f); (first | assumption | (exact decide_eq_true (by omega)) | (exact decide_eq_false (by omega)) | (simp only [Bool.not_eq_true', Bool.not_eq_false', Bool.not_not, decide_eq_false_iff_not, decide_eq_true_eq, Bool.false_eq_true, if_true, if_false, Bool.not_false, Bool.not_true, reduceIte]; omega) | exact rfl)) | (simp only [List.set_cons_succ, List.set_cons_zero, wipeD]; exact rfl) | (simp only [List.length_cons, List.length_nil, List.length_map, List.length_append]; omega) | (exact rfl) | (omega)))
  have e1 : gBL (fun l => l.all id) mu [.lst (((factsOf n k).map (holdsF e r i m t)).map D.bl)] = some (D.bl ((factsOf n k).all (holdsF e r i m t)), mu) := by
    rw [gAllL, List.all_map]; rfl
  unfold m_keeps
  (repeat' (first | (with_reducible assumption) | (with_reducible exact q1) | (with_reducible apply mVar_ok) | (with_reducible apply mC_ok) | (with_reducible apply mOp_ok) | (with_reducible apply mTest_ok) | (with_reducible apply mCons_ok) | (with_reducible apply mNil_ok) | (with_reducible apply mCall_ok) | (with_reducible apply mCallF_ok) | (with_reducible apply mSeq_eq) | (with_reducible apply seqNx) | (with_reducible apply seqRt) | (with_reducible apply mSkip_ok) | (with_reducible apply mRet_ok) | (with_reducible apply mRetN_ok) | (with_reducible apply mExpr_ok) | (with_reducible apply mAsg_ok) | (with_reducible apply mGName_ok) | (with_reducible apply mIfS_ok) | (with_reducible apply mTAnd_ok) | (with_reducible apply mTOr_ok) | (with_reducible apply mTNot_ok) | (with_reducible apply mAnd_ok) | (with_reducible apply mOr_ok) | (with_reducible apply mNot_ok) | (with_reducible apply mIf_ok) | (with_reducible apply mChain_ok) | (with_reducible apply bindO_ok) | (with_reducible apply mTup_ok) | (with_reducible apply mLst_ok) | (with_reducible apply mLst_okC) | (with_reducible apply mUn_ok) | (with_reducible apply mMet_ok) | (with_reducible apply mMetC_ok) | (with_reducible apply mGTup_ok) | (with_reducible apply mGCons_ok) | (with_reducible apply mGNil_ok) | (with_reducible apply mPar_ok) | (with_reducible apply mPar3_ok) | (with_reducible apply mSet_ok) | (with_reducible apply mSeqI_ok) | (with_reducible apply mRange1_ok) | (with_reducible apply mZip_ok) | (with_reducible apply mFrz_ok) | (with_reducible apply mFor_ok) | (with_reducible apply mCallV_ok) | (with_reducible apply gAddL) | (with_reducible apply gSumL) | (with_reducible apply gMax0) | (with_reducible apply gMax2) | (with_reducible apply gMaxP) | (with_reducible apply gAllL) | (with_reducible apply gTupL) | (with_reducible apply gTupT) | (with_reducible apply gListT) | (with_reducible apply gLenT) | (with_reducible apply gIsiT) | (with_reducible apply gIsNT) | (with_reducible apply gEqL0) | (with_reducible apply gNeL0) | (with_reducible apply gMul_ok) | (with_reducible apply gAdd_ok) | (with_reducible apply gSub_ok) | (with_reducible apply gEqI) | (with_reducible apply gNeI) | (with_reducible apply gLt_ok) | (with_reducible apply gLe_ok) | (with_reducible apply gGt_ok) | (with_reducible apply gGe_ok) | (with_reducible apply gInt_ok) | (with_reducible apply mulB_ok) | (with_reducible apply lim_ok) | ((with_reducible apply ite_t); (first | assumption | (exact decide_eq_true (by omega)) | (exact decide_eq_false (by omega)) | (simp only [Bool.not_eq_true', Bool.not_eq_false', Bool.not_not, decide_eq_false_iff_not, decide_eq_true_eq, Bool.false_eq_true, if_true, if_false, Bool.not_false, Bool.not_true, reduceIte]; omega) | exact rfl)) | ((with_reducible apply ite_f); (first | assumption | (exact decide_eq_true (by omega)) | (exact decide_eq_false (by omega)) | (simp only [Bool.not_eq_true', Bool.not_eq_false', Bool.not_not, decide_eq_false_iff_not, decide_eq_true_eq, Bool.false_eq_true, if_true, if_false, Bool.not_false, Bool.not_true, reduceIte]; omega) | exact rfl)) | (simp only [List.set_cons_succ, List.set_cons_zero, wipeD]; exact rfl) | (simp only [List.length_cons, List.length_nil, List.length_map, List.length_append]; omega) | (exact rfl) | (omega)))
abbrev KD1 (e r i m t : Int) : List Str := if B1 e r i m t then ["one"] else []
abbrev KD2 (e r i m t : Int) : List Str := (if K1 e r i m t then (["one"] : List Str) else []) ++ (if K2 e r i m t then (["two"] : List Str) else [])
end
end
end K24

namespace K24
open PySem L2 DL
local macro_rules | `(tactic| fail "wn") => `(tactic| (first | (with_reducible apply w_ok) | (with_reducible apply w_C) | (with_reducible apply w_op) | (with_reducible apply w_un) | (with_reducible apply w_test) | (with_reducible apply w_tand) | (with_reducible apply w_tor) | (with_reducible apply w_tnot) | (with_reducible apply w_and) | (with_reducible apply w_or) | (with_reducible apply w_not) | (with_reducible apply w_if) | (with_reducible apply w_chain) | (with_reducible apply w_nil) | (with_reducible apply w_cons) | (with_reducible apply w_tup) | (with_reducible apply w_lst) | (with_reducible apply w_lstC) | (with_reducible apply w_newD) | (with_reducible apply w_call) | (with_reducible apply w_met) | (with_reducible apply w_metC) | (with_reducible apply w_callF) | (with_reducible apply w_callKw) | (with_reducible apply w_sl) | (with_reducible apply w_oN) | (with_reducible apply w_oS) | (with_reducible apply w_disp) | (with_reducible apply w_prN) | (with_reducible apply w_prC) | (with_reducible apply w_gcons) | (with_reducible apply w_gnil) | (with_reducible apply w_seqI) | (with_reducible apply w_rng1) | (with_reducible apply w_zip) | (with_reducible apply w_yes) | (with_reducible apply s_seq) | (with_reducible apply s_skip) | (with_reducible apply s_brk) | (with_reducible apply s_cont) | (with_reducible apply s_retN) | (with_reducible apply s_ret) | (with_reducible apply s_expr) | (with_reducible apply s_asg) | (with_reducible apply s_par) | (with_reducible apply s_par3) | (with_reducible apply s_if) | (with_reducible apply s_for) | (with_reducible apply s_raise) | (with_reducible apply s_set) | (with_reducible apply isBl_i) | (with_reducible apply isInt_i) | (with_reducible apply wB_true) | (with_reducible apply wB_false) | (with_reducible apply wB_not) | (with_reducible apply items_l) | (with_reducible apply items_t) | (with_reducible apply items_r) | (with_reducible apply mkQ_t) | (with_reducible apply mkQ_f) | (with_reducible apply o_neS) | (with_reducible apply o_eqS) | (with_reducible apply o_isn) | (with_reducible apply o_isnn) | (with_reducible apply wO_some) | ((with_reducible apply take_w); (· (repeat' (first | assumption | ((with_reducible apply Dr.app); rotate_left; (· exact rfl)) | ((with_reducible apply Dr.set); rotate_left; (· omega); (· exact rfl))))); (· omega); (· first | assumption | omega | decide); (· first | assumption | decide +kernel); (intro _ _ _ _ _ _)) | ((with_reducible apply pick_w); (· (repeat' (first | assumption | ((with_reducible apply Dr.app); rotate_left; (· exact rfl)) | ((with_reducible apply Dr.set); rotate_left; (· omega); (· exact rfl))))); (· omega); (· (first | (simp only [List.length_cons, List.length_nil, List.length_map, List.length_append, List.length_set, List.length_range, List.length_take, List.length_drop]; omega) | decide | omega)); (· (first | (simp only [List.length_cons, List.length_nil, List.length_map, List.length_append, List.length_set, List.length_range, List.length_take, List.length_drop]; omega) | decide | omega)); (intro _ _ _ _ _)) | ((with_reducible apply w_var); (· exact rfl)) | ((with_reducible apply w_gname); (· (simp only [List.set_cons_succ, List.set_cons_zero, wipeD]; exact rfl))) | ((with_reducible apply par2_i); (· (simp only [List.set_cons_succ, List.set_cons_zero, wipeD]; exact rfl))) | ((with_reducible apply par3_i); (· (simp only [List.set_cons_succ, List.set_cons_zero, wipeD]; exact rfl))) | ((with_reducible apply w_gtup); (· exact rfl)) | ((with_reducible apply len_and); (· exact rfl)) | ((with_reducible apply lim_and); (· (first | (simp only [List.length_cons, List.length_nil, List.length_map, List.length_append, List.length_set, List.length_range, List.length_take, List.length_drop]; omega) | decide | omega))) | ((with_reducible apply w_lcE); (· (simp only [List.set_cons_succ, List.set_cons_zero, wipeD]; exact rfl))) | ((with_reducible apply rng1_i); (· omega)) | ((with_reducible apply zip_i); (· exact rfl)) | ((with_reducible apply kw_i); (· exact rfl); (· first | exact p0 | exact p10 | exact p01 | exact p210 | exact p120 | exact p201 | exact p021 | exact p102); (· exact rfl)) | ((with_reducible apply wB_t); (· (first | assumption | (exact decide_eq_true (by omega)) | (exact decide_eq_false (by omega)) | decide))) | ((with_reducible apply wB_f); (· (first | assumption | (exact decide_eq_true (by omega)) | (exact decide_eq_false (by omega)) | decide))) | (with_reducible refine wO_eq (gMul_ok (by assumption)) ?_) | (with_reducible refine wO_eq (gAdd_ok) ?_) | (with_reducible refine wO_eq (gSub_ok) ?_) | (with_reducible refine wO_eq (gEqI) ?_) | (with_reducible refine wO_eq (gNeI) ?_) | (with_reducible refine wO_eq (gLt_ok) ?_) | (with_reducible refine wO_eq (gLe_ok) ?_) | (with_reducible refine wO_eq (gGt_ok) ?_) | (with_reducible refine wO_eq (gGe_ok) ?_) | (with_reducible refine wO_eq (gInt_ok) ?_) | (with_reducible refine wO_eq (gAddL (by rfl)) ?_) | (with_reducible refine wO_eq (gSumL) ?_) | (with_reducible refine wO_eq (gMax2) ?_) | (with_reducible refine wO_eq (gMin2) ?_) | (with_reducible refine wO_eq (gMaxP) ?_) | (with_reducible refine wO_eq (gMax0) ?_) | (with_reducible refine wO_eq (gAllL) ?_) | (with_reducible refine wO_eq (gTupL) ?_) | (with_reducible refine wO_eq (gTupT) ?_) | (with_reducible refine wO_eq (gListT) ?_) | (with_reducible refine wO_eq (gLenT) ?_) | (with_reducible refine wO_eq (gLenL) ?_) | (with_reducible refine wO_eq (gIsiT) ?_) | ((with_reducible apply o_append); (· (repeat' (first | assumption | exact c_last | (with_reducible apply c_app) | (with_reducible apply c_set) | ((with_reducible apply c_setne); (· omega)) | ((with_reducible apply c_ex); (· assumption); (· omega))))); (· (first | (simp only [List.length_cons, List.length_nil, List.length_map, List.length_append, List.length_set, List.length_range, List.length_take, List.length_drop]; omega) | decide | omega))) | ((with_reducible apply o_tupC); (· (repeat' (first | assumption | exact c_last | (with_reducible apply c_app) | (with_reducible apply c_set) | ((with_reducible apply c_setne); (· omega)) | ((with_reducible apply c_ex); (· assumption); (· omega)))))) | ((with_reducible apply o_lenC); (· (repeat' (first | assumption | exact c_last | (with_reducible apply c_app) | (with_reducible apply c_set) | ((with_reducible apply c_setne); (· omega)) | ((with_reducible apply c_ex); (· assumption); (· omega)))))) | ((with_reducible apply o_addL); (· (first | (simp only [List.length_cons, List.length_nil, List.length_map, List.length_append, List.length_set, List.length_range, List.length_take, List.length_drop]; omega) | decide | omega))) | ((with_reducible apply o_addT); (· (first | (simp only [List.length_cons, List.length_nil, List.length_map, List.length_append, List.length_set, List.length_range, List.length_take, List.length_drop]; omega) | decide | omega))) | ((with_reducible apply isl_c); (· (repeat' (first | assumption | exact c_last | (with_reducible apply c_app) | (with_reducible apply c_set) | ((with_reducible apply c_setne); (· omega)) | ((with_reducible apply c_ex); (· assumption); (· omega)))))) | (with_reducible apply isl_l) | ((with_reducible apply s_frz); (· exact rfl); (· (repeat' (first | assumption | exact c_last | (with_reducible apply c_app) | (with_reducible apply c_set) | ((with_reducible apply c_setne); (· omega)) | ((with_reducible apply c_ex); (· assumption); (· omega)))))) | ((with_reducible apply s_frz0); (· exact rfl); (· intro _ z; cases z)) | ((with_reducible apply wO_eq); (· exact rfl)) | (with_reducible exact rfl)))
local macro_rules | `(tactic| fail "wp") => `(tactic| (first | (with_reducible apply w_ok) | (with_reducible apply w_C) | (with_reducible apply w_op) | (with_reducible apply w_un) | (with_reducible apply w_test) | (with_reducible apply w_tand) | (with_reducible apply w_tor) | (with_reducible apply w_tnot) | (with_reducible apply w_and) | (with_reducible apply w_or) | (with_reducible apply w_not) | (with_reducible apply w_if) | (with_reducible apply w_chain) | (with_reducible apply w_nil) | (with_reducible apply w_cons) | (with_reducible apply w_tup) | (with_reducible apply w_lst) | (with_reducible apply w_lstC) | (with_reducible apply w_newD) | (with_reducible apply w_call) | (with_reducible apply w_met) | (with_reducible apply w_metC) | (with_reducible apply w_callF) | (with_reducible apply w_callKw) | (with_reducible apply w_sl) | (with_reducible apply w_oN) | (with_reducible apply w_oS) | (with_reducible apply w_disp) | (with_reducible apply w_prN) | (with_reducible apply w_prC) | (with_reducible apply w_gcons) | (with_reducible apply w_gnil) | (with_reducible apply w_seqI) | (with_reducible apply w_rng1) | (with_reducible apply w_zip) | (with_reducible apply w_yes) | (with_reducible apply s_seq) | (with_reducible apply s_skip) | (with_reducible apply s_brk) | (with_reducible apply s_cont) | (with_reducible apply s_retN) | (with_reducible apply s_ret) | (with_reducible apply s_expr) | (with_reducible apply s_asg) | (with_reducible apply s_par) | (with_reducible apply s_par3) | (with_reducible apply s_if) | (with_reducible apply s_for) | (with_reducible apply s_raise) | (with_reducible apply s_set) | (with_reducible apply isBl_i) | (with_reducible apply isInt_i) | (with_reducible apply wB_true) | (with_reducible apply wB_false) | (with_reducible apply wB_not) | (with_reducible apply items_l) | (with_reducible apply items_t) | (with_reducible apply items_r) | (with_reducible apply mkQ_t) | (with_reducible apply mkQ_f) | (with_reducible apply o_neS) | (with_reducible apply o_eqS) | (with_reducible apply o_isn) | (with_reducible apply o_isnn) | (with_reducible apply wO_some) | ((with_reducible apply take_w); (· (repeat' (first | assumption | ((with_reducible apply Dr.app); rotate_left; (· exact rfl)) | ((with_reducible apply Dr.set); rotate_left; (· omega); (· exact rfl))))); (· omega); (· first | assumption | omega | decide); (· first | assumption | decide +kernel); (intro _ _ _ _ _ _)) | ((with_reducible apply pick_w); (· (repeat' (first | assumption | ((with_reducible apply Dr.app); rotate_left; (· exact rfl)) | ((with_reducible apply Dr.set); rotate_left; (· omega); (· exact rfl))))); (· omega); (· (first | (simp only [List.length_cons, List.length_nil, List.length_map, List.length_append, List.length_set, List.length_range, List.length_take, List.length_drop]; omega) | decide | omega)); (· (first | (simp only [List.length_cons, List.length_nil, List.length_map, List.length_append, List.length_set, List.length_range, List.length_take, List.length_drop]; omega) | decide | omega)); (intro _ _ _ _ _)) | ((with_reducible apply w_var); (· exact rfl)) | ((with_reducible apply w_gname); (· (simp only [List.set_cons_succ, List.set_cons_zero, wipeD]; exact rfl))) | ((with_reducible apply par2_i); (· (simp only [List.set_cons_succ, List.set_cons_zero, wipeD]; exact rfl))) | ((with_reducible apply par3_i); (· (simp only [List.set_cons_succ, List.set_cons_zero, wipeD]; exact rfl))) | ((with_reducible apply w_gtup); (· exact rfl)) | ((with_reducible apply len_and); (· exact rfl)) | ((with_reducible apply lim_and); (· (first | (simp only [List.length_cons, List.length_nil, List.length_map, List.length_append, List.length_set, List.length_range, List.length_take, List.length_drop]; omega) | decide | omega))) | ((with_reducible apply w_lcE); (· (simp only [List.set_cons_succ, List.set_cons_zero, wipeD]; exact rfl))) | ((with_reducible apply rng1_i); (· omega)) | ((with_reducible apply zip_i); (· exact rfl)) | ((with_reducible apply kw_i); (· exact rfl); (· first | exact p0 | exact p10 | exact p01 | exact p210 | exact p120 | exact p201 | exact p021 | exact p102); (· exact rfl)) | ((with_reducible apply wB_t); (· (first | assumption | (exact decide_eq_true (by omega)) | (exact decide_eq_false (by omega)) | decide))) | ((with_reducible apply wB_f); (· (first | assumption | (exact decide_eq_true (by omega)) | (exact decide_eq_false (by omega)) | decide))) | (with_reducible refine wO_eq (gMul_ok (by assumption)) ?_) | (with_reducible refine wO_eq (gAdd_ok) ?_) | (with_reducible refine wO_eq (gSub_ok) ?_) | (with_reducible refine wO_eq (gEqI) ?_) | (with_reducible refine wO_eq (gNeI) ?_) | (with_reducible refine wO_eq (gLt_ok) ?_) | (with_reducible refine wO_eq (gLe_ok) ?_) | (with_reducible refine wO_eq (gGt_ok) ?_) | (with_reducible refine wO_eq (gGe_ok) ?_) | (with_reducible refine wO_eq (gInt_ok) ?_) | (with_reducible refine wO_eq (gAddL (by rfl)) ?_) | (with_reducible refine wO_eq (gSumL) ?_) | (with_reducible refine wO_eq (gMax2) ?_) | (with_reducible refine wO_eq (gMin2) ?_) | (with_reducible refine wO_eq (gMaxP) ?_) | (with_reducible refine wO_eq (gMax0) ?_) | (with_reducible refine wO_eq (gAllL) ?_) | (with_reducible refine wO_eq (gTupL) ?_) | (with_reducible refine wO_eq (gTupT) ?_) | (with_reducible refine wO_eq (gListT) ?_) | (with_reducible refine wO_eq (gLenT) ?_) | (with_reducible refine wO_eq (gLenL) ?_) | (with_reducible refine wO_eq (gIsiT) ?_) | ((with_reducible apply o_append); (· (repeat' (first | assumption | exact c_last | (with_reducible apply c_app) | (with_reducible apply c_set) | ((with_reducible apply c_setne); (· omega)) | ((with_reducible apply c_ex); (· assumption); (· omega))))); (· (first | (simp only [List.length_cons, List.length_nil, List.length_map, List.length_append, List.length_set, List.length_range, List.length_take, List.length_drop]; omega) | decide | omega))) | ((with_reducible apply o_tupC); (· (repeat' (first | assumption | exact c_last | (with_reducible apply c_app) | (with_reducible apply c_set) | ((with_reducible apply c_setne); (· omega)) | ((with_reducible apply c_ex); (· assumption); (· omega)))))) | ((with_reducible apply o_lenC); (· (repeat' (first | assumption | exact c_last | (with_reducible apply c_app) | (with_reducible apply c_set) | ((with_reducible apply c_setne); (· omega)) | ((with_reducible apply c_ex); (· assumption); (· omega)))))) | ((with_reducible apply o_addL); (· (first | (simp only [List.length_cons, List.length_nil, List.length_map, List.length_append, List.length_set, List.length_range, List.length_take, List.length_drop]; omega) | decide | omega))) | ((with_reducible apply o_addT); (· (first | (simp only [List.length_cons, List.length_nil, List.length_map, List.length_append, List.length_set, List.length_range, List.length_take, List.length_drop]; omega) | decide | omega))) | ((with_reducible apply isl_c); (· (repeat' (first | assumption | exact c_last | (with_reducible apply c_app) | (with_reducible apply c_set) | ((with_reducible apply c_setne); (· omega)) | ((with_reducible apply c_ex); (· assumption); (· omega)))))) | (with_reducible apply isl_l) | ((with_reducible apply s_frz); (· exact rfl); (· (repeat' (first | assumption | exact c_last | (with_reducible apply c_app) | (with_reducible apply c_set) | ((with_reducible apply c_setne); (· omega)) | ((with_reducible apply c_ex); (· assumption); (· omega)))))) | ((with_reducible apply s_frz0); (· exact rfl); (· intro _ z; cases z)) | ((with_reducible apply wO_eq); (· exact rfl)) | (with_reducible exact rfl) | (with_reducible refine wB_dec (fun _ => ?_) (fun _ => ?_))))
local macro_rules | `(tactic| fail "wj") => `(tactic| (first | (with_reducible apply w_ok) | (with_reducible apply w_C) | (with_reducible apply w_op) | (with_reducible apply w_un) | (with_reducible apply w_test) | (with_reducible apply w_tand) | (with_reducible apply w_tor) | (with_reducible apply w_tnot) | (with_reducible apply w_and) | (with_reducible apply w_or) | (with_reducible apply w_not) | (with_reducible apply w_if) | (with_reducible apply w_chain) | (with_reducible apply w_nil) | (with_reducible apply w_cons) | (with_reducible apply w_tup) | (with_reducible apply w_lst) | (with_reducible apply w_lstC) | (with_reducible apply w_newD) | (with_reducible apply w_call) | (with_reducible apply w_met) | (with_reducible apply w_metC) | (with_reducible apply w_callF) | (with_reducible apply w_callKw) | (with_reducible apply w_sl) | (with_reducible apply w_oN) | (with_reducible apply w_oS) | (with_reducible apply w_disp) | (with_reducible apply w_prN) | (with_reducible apply w_prC) | (with_reducible apply w_gcons) | (with_reducible apply w_gnil) | (with_reducible apply w_seqI) | (with_reducible apply w_rng1) | (with_reducible apply w_zip) | (with_reducible apply w_yes) | (with_reducible apply s_seq) | (with_reducible apply s_skip) | (with_reducible apply s_brk) | (with_reducible apply s_cont) | (with_reducible apply s_retN) | (with_reducible apply s_ret) | (with_reducible apply s_expr) | (with_reducible apply s_asg) | (with_reducible apply s_par) | (with_reducible apply s_par3) | (with_reducible apply s_if) | (with_reducible apply s_for) | (with_reducible apply s_raise) | (with_reducible apply s_set) | (with_reducible apply isBl_i) | (with_reducible apply isInt_i) | (with_reducible apply wB_true) | (with_reducible apply wB_false) | (with_reducible apply wB_not) | (with_reducible apply items_l) | (with_reducible apply items_t) | (with_reducible apply items_r) | (with_reducible apply mkQ_t) | (with_reducible apply mkQ_f) | (with_reducible apply o_neS) | (with_reducible apply o_eqS) | (with_reducible apply o_isn) | (with_reducible apply o_isnn) | (with_reducible apply wO_some) | ((with_reducible apply take_w); (· (repeat' (first | assumption | ((with_reducible apply Dr.app); rotate_left; (· exact rfl)) | ((with_reducible apply Dr.set); rotate_left; (· omega); (· exact rfl))))); (· omega); (· first | assumption | omega | decide); (· first | assumption | decide +kernel); (intro _ _ _ _ _ _)) | ((with_reducible apply pick_w); (· (repeat' (first | assumption | ((with_reducible apply Dr.app); rotate_left; (· exact rfl)) | ((with_reducible apply Dr.set); rotate_left; (· omega); (· exact rfl))))); (· omega); (· (first | (simp only [List.length_cons, List.length_nil, List.length_map, List.length_append, List.length_set, List.length_range, List.length_take, List.length_drop]; omega) | decide | omega)); (· (first | (simp only [List.length_cons, List.length_nil, List.length_map, List.length_append, List.length_set, List.length_range, List.length_take, List.length_drop]; omega) | decide | omega)); (intro _ _ _ _ _)) | ((with_reducible apply w_var); (· exact rfl)) | ((with_reducible apply w_gname); (· (simp only [List.set_cons_succ, List.set_cons_zero, wipeD]; exact rfl))) | ((with_reducible apply par2_i); (· (simp only [List.set_cons_succ, List.set_cons_zero, wipeD]; exact rfl))) | ((with_reducible apply par3_i); (· (simp only [List.set_cons_succ, List.set_cons_zero, wipeD]; exact rfl))) | ((with_reducible apply w_gtup); (· exact rfl)) | ((with_reducible apply len_and); (· exact rfl)) | ((with_reducible apply lim_and); (· (first | (simp only [List.length_cons, List.length_nil, List.length_map, List.length_append, List.length_set, List.length_range, List.length_take, List.length_drop]; omega) | decide | omega))) | ((with_reducible apply w_lcE); (· (simp only [List.set_cons_succ, List.set_cons_zero, wipeD]; exact rfl))) | ((with_reducible apply rng1_i); (· omega)) | ((with_reducible apply zip_i); (· exact rfl)) | ((with_reducible apply kw_i); (· exact rfl); (· first | exact p0 | exact p10 | exact p01 | exact p210 | exact p120 | exact p201 | exact p021 | exact p102); (· exact rfl)) | ((with_reducible apply wB_t); (· (first | assumption | (exact decide_eq_true (by omega)) | (exact decide_eq_false (by omega)) | decide))) | ((with_reducible apply wB_f); (· (first | assumption | (exact decide_eq_true (by omega)) | (exact decide_eq_false (by omega)) | decide))) | (with_reducible refine wO_eq (gMul_ok (by assumption)) ?_) | (with_reducible refine wO_eq (gAdd_ok) ?_) | (with_reducible refine wO_eq (gSub_ok) ?_) | (with_reducible refine wO_eq (gEqI) ?_) | (with_reducible refine wO_eq (gNeI) ?_) | (with_reducible refine wO_eq (gLt_ok) ?_) | (with_reducible refine wO_eq (gLe_ok) ?_) | (with_reducible refine wO_eq (gGt_ok) ?_) | (with_reducible refine wO_eq (gGe_ok) ?_) | (with_reducible refine wO_eq (gInt_ok) ?_) | (with_reducible refine wO_eq (gAddL (by rfl)) ?_) | (with_reducible refine wO_eq (gSumL) ?_) | (with_reducible refine wO_eq (gMax2) ?_) | (with_reducible refine wO_eq (gMin2) ?_) | (with_reducible refine wO_eq (gMaxP) ?_) | (with_reducible refine wO_eq (gMax0) ?_) | (with_reducible refine wO_eq (gAllL) ?_) | (with_reducible refine wO_eq (gTupL) ?_) | (with_reducible refine wO_eq (gTupT) ?_) | (with_reducible refine wO_eq (gListT) ?_) | (with_reducible refine wO_eq (gLenT) ?_) | (with_reducible refine wO_eq (gLenL) ?_) | (with_reducible refine wO_eq (gIsiT) ?_) | ((with_reducible apply o_append); (· (repeat' (first | assumption | exact c_last | (with_reducible apply c_app) | (with_reducible apply c_set) | ((with_reducible apply c_setne); (· omega)) | ((with_reducible apply c_ex); (· assumption); (· omega))))); (· (first | (simp only [List.length_cons, List.length_nil, List.length_map, List.length_append, List.length_set, List.length_range, List.length_take, List.length_drop]; omega) | decide | omega))) | ((with_reducible apply o_tupC); (· (repeat' (first | assumption | exact c_last | (with_reducible apply c_app) | (with_reducible apply c_set) | ((with_reducible apply c_setne); (· omega)) | ((with_reducible apply c_ex); (· assumption); (· omega)))))) | ((with_reducible apply o_lenC); (· (repeat' (first | assumption | exact c_last | (with_reducible apply c_app) | (with_reducible apply c_set) | ((with_reducible apply c_setne); (· omega)) | ((with_reducible apply c_ex); (· assumption); (· omega)))))) | ((with_reducible apply o_addL); (· (first | (simp only [List.length_cons, List.length_nil, List.length_map, List.length_append, List.length_set, List.length_range, List.length_take, List.length_drop]; omega) | decide | omega))) | ((with_reducible apply o_addT); (· (first | (simp only [List.length_cons, List.length_nil, List.length_map, List.length_append, List.length_set, List.length_range, List.length_take, List.length_drop]; omega) | decide | omega))) | ((with_reducible apply isl_c); (· (repeat' (first | assumption | exact c_last | (with_reducible apply c_app) | (with_reducible apply c_set) | ((with_reducible apply c_setne); (· omega)) | ((with_reducible apply c_ex); (· assumption); (· omega)))))) | (with_reducible apply isl_l) | ((with_reducible apply s_frz); (· exact rfl); (· (repeat' (first | assumption | exact c_last | (with_reducible apply c_app) | (with_reducible apply c_set) | ((with_reducible apply c_setne); (· omega)) | ((with_reducible apply c_ex); (· assumption); (· omega)))))) | ((with_reducible apply s_frz0); (· exact rfl); (· intro _ z; cases z)) | ((with_reducible apply wO_eq); (· exact rfl)) | (with_reducible exact rfl) | (with_reducible apply sameB_i) | (with_reducible apply j_and) | (with_reducible apply j_or) | (with_reducible apply j_tand) | (with_reducible apply j_tor)))
def KD (n e r i m t : Int) : List Str := if n = 1 then KD1 e r i m t else KD2 e r i m t
section
variable {A : Ad} {mu : Mu} {e r i m t : Int} {Q : D → Mu → Prop} {E : XD → Mu → Prop}
theorem e_kinds1 (a : Am e r i m t) : d_kinds A [.int 1, five e r i m t] mu = .ok (.lst ((KD1 e r i m t).map D.str)) mu := by
  refine denF_rt (env0 := [some (.int 1), some (five e r i m t), none]) rfl ?_
  have kw : d_kind_words A [.int 1] mu = .ok (.tup ((["one"] : List Str).map D.str)) mu := by
    refine denF_rt (env0 := [some (.int 1)]) rfl ?_
    unfold m_kind_words
    (repeat' (first | (with_reducible assumption) | (with_reducible apply mVar_ok) | (with_reducible apply mC_ok) | (with_reducible apply mOp_ok) | (with_reducible apply mTest_ok) | (with_reducible apply mCons_ok) | (with_reducible apply mNil_ok) | (with_reducible apply mCall_ok) | (with_reducible apply mCallF_ok) | (with_reducible apply mSeq_eq) | (with_reducible apply seqNx) | (with_reducible apply seqRt) | (with_reducible apply mSkip_ok) | (with_reducible apply mRet_ok) | (with_reducible apply mRetN_ok) | (with_reducible apply mExpr_ok) | (with_reducible apply mAsg_ok) | (with_reducible apply mGName_ok) | (with_reducible apply mIfS_ok) | (with_reducible apply mTAnd_ok) | (with_reducible apply mTOr_ok) | (with_reducible apply mTNot_ok) | (with_reducible apply mAnd_ok) | (with_reducible apply mOr_ok) | (with_reducible apply mNot_ok) | (with_reducible apply mIf_ok) | (with_reducible apply mChain_ok) | (with_reducible apply bindO_ok) | (with_reducible apply mTup_ok) | (with_reducible apply mLst_ok) | (with_reducible apply mLst_okC) | (with_reducible apply mUn_ok) | (with_reducible apply mMet_ok) | (with_reducible apply mMetC_ok) | (with_reducible apply mGTup_ok) | (with_reducible apply mGCons_ok) | (with_reducible apply mGNil_ok) | (with_reducible apply mPar_ok) | (with_reducible apply mPar3_ok) | (with_reducible apply mSet_ok) | (with_reducible apply mSeqI_ok) | (with_reducible apply mRange1_ok) | (with_reducible apply mZip_ok) | (with_reducible apply mFrz_ok) | (with_reducible apply mFor_ok) | (with_reducible apply mCallV_ok) | (with_reducible apply gAddL) | (with_reducible apply gSumL) | (with_reducible apply gMax0) | (with_reducible apply gMax2) | (with_reducible apply gMaxP) | (with_reducible apply gAllL) | (with_reducible apply gTupL) | (with_reducible apply gTupT) | (with_reducible apply gListT) | (with_reducible apply gLenT) | (with_reducible apply gIsiT) | (with_reducible apply gIsNT) | (with_reducible apply gEqL0) | (with_reducible apply gNeL0) | (with_reducible apply gMul_ok) | (with_reducible apply gAdd_ok) | (with_reducible apply gSub_ok) | (with_reducible apply gEqI) | (with_reducible apply gNeI) | (with_reducible apply gLt_ok) | (with_reducible apply gLe_ok) | (with_reducible apply gGt_ok) | (with_reducible apply gGe_ok) | (with_reducible apply gInt_ok) | (with_reducible apply mulB_ok) | (with_reducible apply lim_ok) | ((with_reducible apply ite_t); (first | assumption | (exact decide_eq_true (by omega)) | (exact decide_eq_false (by omega)) | (simp only [Bool.not_eq_true', Bool.not_eq_false', Bool.not_not, decide_eq_false_iff_not, decide_eq_true_eq, Bool.false_eq_true, if_true, if_false, Bool.not_false, Bool.not_true, reduceIte]; omega) | exact rfl)) | ((with_reducible apply ite_f); (first | assumption | (exact decide_eq_true (by omega)) | (exact decide_eq_false (by omega)) | (simp only [Bool.not_eq_true', Bool.not_eq_false', Bool.not_not, decide_eq_false_iff_not, decide_eq_true_eq, Bool.false_eq_true, if_true, if_false, Bool.not_false, Bool.not_true, reduceIte]; omega) | exact rfl)) | (simp only [List.set_cons_succ, List.set_cons_zero, wipeD]; exact rfl) | (simp only [List.length_cons, List.length_nil, List.length_map, List.length_append]; omega) | (exact rfl) | (omega)))
  have q1 : q_kinds_1 A [some (.int 1), some (five e r i m t), none] mu = .ok (.lst ((KD1 e r i m t).map D.str)) mu := by
    unfold q_kinds_1
    rw [mLc_filter (enc := D.str) (p := fun _ => B1 e r i m t) (f := D.str) ["one"] ?_ ?_ (by decide)]
    · congr 3
      unfold KD1
      cases B1 e r i m t <;> rfl
    · (repeat' (first | (with_reducible assumption) | (with_reducible apply mVar_ok) | (with_reducible apply mC_ok) | (with_reducible apply mOp_ok) | (with_reducible apply mTest_ok) | (with_reducible apply mCons_ok) | (with_reducible apply mNil_ok) | (with_reducible apply mCall_ok) | (with_reducible apply mCallF_ok) | (with_reducible apply mSeq_eq) | (with_reducible apply seqNx) | (with_reducible apply seqRt) | (with_reducible apply mSkip_ok) | (with_reducible apply mRet_ok) | (with_reducible apply mRetN_ok) | (with_reducible apply mExpr_ok) | (with_reducible apply mAsg_ok) | (with_reducible apply mGName_ok) | (with_reducible apply mIfS_ok) | (with_reducible apply mTAnd_ok) | (with_reducible apply mTOr_ok) | (with_reducible apply mTNot_ok) | (with_reducible apply mAnd_ok) | (with_reducible apply mOr_ok) | (with_reducible apply mNot_ok) | (with_reducible apply mIf_ok) | (with_reducible apply mChain_ok) | (with_reducible apply bindO_ok) | (with_reducible apply mTup_ok) | (with_reducible apply mLst_ok) | (with_reducible apply mLst_okC) | (with_reducible apply mUn_ok) | (with_reducible apply mMet_ok) | (with_reducible apply mMetC_ok) | (with_reducible apply mGTup_ok) | (with_reducible apply mGCons_ok) | (with_reducible apply mGNil_ok) | (with_reducible apply mPar_ok) | (with_reducible apply mPar3_ok) | (with_reducible apply mSet_ok) | (with_reducible apply mSeqI_ok) | (with_reducible apply mRange1_ok) | (with_reducible apply mZip_ok) | (with_reducible apply mFrz_ok) | (with_reducible apply mFor_ok) | (with_reducible apply mCallV_ok) | (with_reducible apply gAddL) | (with_reducible apply gSumL) | (with_reducible apply gMax0) | (with_reducible apply gMax2) | (with_reducible apply gMaxP) | (with_reducible apply gAllL) | (with_reducible apply gTupL) | (with_reducible apply gTupT) | (with_reducible apply gListT) | (with_reducible apply gLenT) | (with_reducible apply gIsiT) | (with_reducible apply gIsNT) | (with_reducible apply gEqL0) | (with_reducible apply gNeL0) | (with_reducible apply gMul_ok) | (with_reducible apply gAdd_ok) | (with_reducible apply gSub_ok) | (with_reducible apply gEqI) | (with_reducible apply gNeI) | (with_reducible apply gLt_ok) | (with_reducible apply gLe_ok) | (with_reducible apply gGt_ok) | (with_reducible apply gGe_ok) | (with_reducible apply gInt_ok) | (with_reducible apply mulB_ok) | (with_reducible apply lim_ok) | ((with_reducible apply ite_t); (first | assumption | (exact decide_eq_true (by omega)) | (exact decide_eq_false (by omega)) | (simp only [Bool.not_eq_true', Bool.not_eq_false', Bool.not_not, decide_eq_false_iff_not, decide_eq_true_eq, Bool.false_eq_true, if_true, if_false, Bool.not_false, Bool.not_true, reduceIte]; omega) | exact rfl)) | ((with_reducible apply ite_f); (first | assumption | (exact decide_eq_true (by omega)) | (exact decide_eq_false (by omega)) | (simp only [Bool.not_eq_true', Bool.not_eq_false', Bool.not_not, decide_eq_false_iff_not, decide_eq_true_eq, Bool.false_eq_true, if_true, if_false, Bool.not_false, Bool.not_true, reduceIte]; omega) | exact rfl)) | (simp only [List.set_cons_succ, List.set_cons_zero, wipeD]; exact rfl) | (simp only [List.length_cons, List.length_nil, List.length_map, List.length_append]; omega) | (exact rfl) | (omega)))
    · intro k hk
      have w := e_keeps (A := A) (mu := mu) a (n := 1) (k := k) (.inl rfl)
      have w : d_keeps A [.int 1, .str k, five e r i m t] mu = .ok (.bl (B1 e r i m t)) mu := w
      refine ⟨[some (.int 1), some (five e r i m t), some (.str k)], ?_, ?_, fun _ => ?_⟩
      · (repeat' (first | (with_reducible assumption) | (with_reducible apply mVar_ok) | (with_reducible apply mC_ok) | (with_reducible apply mOp_ok) | (with_reducible apply mTest_ok) | (with_reducible apply mCons_ok) | (with_reducible apply mNil_ok) | (with_reducible apply mCall_ok) | (with_reducible apply mCallF_ok) | (with_reducible apply mSeq_eq) | (with_reducible apply seqNx) | (with_reducible apply seqRt) | (with_reducible apply mSkip_ok) | (with_reducible apply mRet_ok) | (with_reducible apply mRetN_ok) | (with_reducible apply mExpr_ok) | (with_reducible apply mAsg_ok) | (with_reducible apply mGName_ok) | (with_reducible apply mIfS_ok) | (with_reducible apply mTAnd_ok) | (with_reducible apply mTOr_ok) | (with_reducible apply mTNot_ok) | (with_reducible apply mAnd_ok) | (with_reducible apply mOr_ok) | (with_reducible apply mNot_ok) | (with_reducible apply mIf_ok) | (with_reducible apply mChain_ok) | (with_reducible apply bindO_ok) | (with_reducible apply mTup_ok) | (with_reducible apply mLst_ok) | (with_reducible apply mLst_okC) | (with_reducible apply mUn_ok) | (with_reducible apply mMet_ok) | (with_reducible apply mMetC_ok) | (with_reducible apply mGTup_ok) | (with_reducible apply mGCons_ok) | (with_reducible apply mGNil_ok) | (with_reducible apply mPar_ok) | (with_reducible apply mPar3_ok) | (with_reducible apply mSet_ok) | (with_reducible apply mSeqI_ok) | (with_reducible apply mRange1_ok) | (with_reducible apply mZip_ok) | (with_reducible apply mFrz_ok) | (with_reducible apply mFor_ok) | (with_reducible apply mCallV_ok) | (with_reducible apply gAddL) | (with_reducible apply gSumL) | (with_reducible apply gMax0) | (with_reducible apply gMax2) | (with_reducible apply gMaxP) | (with_reducible apply gAllL) | (with_reducible apply gTupL) | (with_reducible apply gTupT) | (with_reducible apply gListT) | (with_reducible apply gLenT) | (with_reducible apply gIsiT) | (with_reducible apply gIsNT) | (with_reducible apply gEqL0) | (with_reducible apply gNeL0) | (with_reducible apply gMul_ok) | (with_reducible apply gAdd_ok) | (with_reducible apply gSub_ok) | (with_reducible apply gEqI) | (with_reducible apply gNeI) | (with_reducible apply gLt_ok) | (with_reducible apply gLe_ok) | (with_reducible apply gGt_ok) | (with_reducible apply gGe_ok) | (with_reducible apply gInt_ok) | (with_reducible apply mulB_ok) | (with_reducible apply lim_ok) | ((with_reducible apply ite_t); (first | assumption | (exact decide_eq_true (by omega)) | (exact decide_eq_false (by omega)) | (simp only [Bool.not_eq_true', Bool.not_eq_false', Bool.not_not, decide_eq_false_iff_not, decide_eq_true_eq, Bool.false_eq_true, if_true, if_false, Bool.not_false, Bool.not_true, reduceIte]; omega) | exact rfl)) | ((with_reducible apply ite_f); (first | assumption | (exact decide_eq_true (by omega)) | (exact decide_eq_false (by omega)) | (simp only [Bool.not_eq_true', Bool.not_eq_false', Bool.not_not, decide_eq_false_iff_not, decide_eq_true_eq, Bool.false_eq_true, if_true, if_false, Bool.not_false, Bool.not_true, reduceIte]; omega) | exact rfl)) | (simp only [List.set_cons_succ, List.set_cons_zero, wipeD]; exact rfl) | (simp only [List.length_cons, List.length_nil, List.length_map, List.length_append]; omega) | (exact rfl) | (omega)))
      · (repeat' (first | (with_reducible assumption) | (with_reducible apply mVar_ok) | (with_reducible apply mC_ok) | (with_reducible apply mOp_ok) | (with_reducible apply mTest_ok) | (with_reducible apply mCons_ok) | (with_reducible apply mNil_ok) | (with_reducible apply mCall_ok) | (with_reducible apply mCallF_ok) | (with_reducible apply mSeq_eq) | (with_reducible apply seqNx) | (with_reducible apply seqRt) | (with_reducible apply mSkip_ok) | (with_reducible apply mRet_ok) | (with_reducible apply mRetN_ok) | (with_reducible apply mExpr_ok) | (with_reducible apply mAsg_ok) | (with_reducible apply mGName_ok) | (with_reducible apply mIfS_ok) | (with_reducible apply mTAnd_ok) | (with_reducible apply mTOr_ok) | (with_reducible apply mTNot_ok) | (with_reducible apply mAnd_ok) | (with_reducible apply mOr_ok) | (with_reducible apply mNot_ok) | (with_reducible apply mIf_ok) | (with_reducible apply mChain_ok) | (with_reducible apply bindO_ok) | (with_reducible apply mTup_ok) | (with_reducible apply mLst_ok) | (with_reducible apply mLst_okC) | (with_reducible apply mUn_ok) | (with_reducible apply mMet_ok) | (with_reducible apply mMetC_ok) | (with_reducible apply mGTup_ok) | (with_reducible apply mGCons_ok) | (with_reducible apply mGNil_ok) | (with_reducible apply mPar_ok) | (with_reducible apply mPar3_ok) | (with_reducible apply mSet_ok) | (with_reducible apply mSeqI_ok) | (with_reducible apply mRange1_ok) | (with_reducible apply mZip_ok) | (with_reducible apply mFrz_ok) | (with_reducible apply mFor_ok) | (with_reducible apply mCallV_ok) | (with_reducible apply gAddL) | (with_reducible apply gSumL) | (with_reducible apply gMax0) | (with_reducible apply gMax2) | (with_reducible apply gMaxP) | (with_reducible apply gAllL) | (with_reducible apply gTupL) | (with_reducible apply gTupT) | (with_reducible apply gListT) | (with_reducible apply gLenT) | (with_reducible apply gIsiT) | (with_reducible apply gIsNT) | (with_reducible apply gEqL0) | (with_reducible apply gNeL0) | (with_reducible apply gMul_ok) | (with_reducible apply gAdd_ok) | (with_reducible apply gSub_ok) | (with_reducible apply gEqI) | (with_reducible apply gNeI) | (with_reducible apply gLt_ok) | (with_reducible apply gLe_ok) | (with_reducible apply gGt_ok) | (with_reducible apply gGe_ok) | (with_reducible apply gInt_ok) | (with_reducible apply mulB_ok) | (with_reducible apply lim_ok) | ((with_reducible apply ite_t); (first | assumption | (exact decide_eq_true (by omega)) | (exact decide_eq_false (by omega)) | (simp only [Bool.not_eq_true', Bool.not_eq_false', Bool.not_not, decide_eq_false_iff_not, decide_eq_true_eq, Bool.false_eq_true, if_true, if_false, Bool.not_false, Bool.not_true, reduceIte]; omega) | exact rfl)) | ((with_reducible apply ite_f); (first | assumption | (exact decide_eq_true (by omega)) | (exact decide_eq_false (by omega)) | (simp only [Bool.not_eq_true', Bool.not_eq_false', Bool.not_not, decide_eq_false_iff_not, decide_eq_true_eq, Bool.false_eq_true, if_true, if_false, Bool.not_false, Bool.not_true, reduceIte]; omega) | exact rfl)) | (simp only [List.set_cons_succ, List.set_cons_zero, wipeD]; exact rfl) | (simp only [List.length_cons, List.length_nil, List.length_map, List.length_append]; omega) | (exact rfl) | (omega)))
      · (repeat' (first | (with_reducible assumption) | (with_reducible apply mVar_ok) | (with_reducible apply mC_ok) | (with_reducible apply mOp_ok) | (with_reducible apply mTest_ok) | (with_reducible apply mCons_ok) | (with_reducible apply mNil_ok) | (with_reducible apply mCall_ok) | (with_reducible apply mCallF_ok) | (with_reducible apply mSeq_eq) | (with_reducible apply seqNx) | (with_reducible apply seqRt) | (with_reducible apply mSkip_ok) | (with_reducible apply mRet_ok) | (with_reducible apply mRetN_ok) | (with_reducible apply mExpr_ok) | (with_reducible apply mAsg_ok) | (with_reducible apply mGName_ok) | (with_reducible apply mIfS_ok) | (with_reducible apply mTAnd_ok) | (with_reducible apply mTOr_ok) | (with_reducible apply mTNot_ok) | (with_reducible apply mAnd_ok) | (with_reducible apply mOr_ok) | (with_reducible apply mNot_ok) | (with_reducible apply mIf_ok) | (with_reducible apply mChain_ok) | (with_reducible apply bindO_ok) | (with_reducible apply mTup_ok) | (with_reducible apply mLst_ok) | (with_reducible apply mLst_okC) | (with_reducible apply mUn_ok) | (with_reducible apply mMet_ok) | (with_reducible apply mMetC_ok) | (with_reducible apply mGTup_ok) | (with_reducible apply mGCons_ok) | (with_reducible apply mGNil_ok) | (with_reducible apply mPar_ok) | (with_reducible apply mPar3_ok) | (with_reducible apply mSet_ok) | (with_reducible apply mSeqI_ok) | (with_reducible apply mRange1_ok) | (with_reducible apply mZip_ok) | (with_reducible apply mFrz_ok) | (with_reducible apply mFor_ok) | (with_reducible apply mCallV_ok) | (with_reducible apply gAddL) | (with_reducible apply gSumL) | (with_reducible apply gMax0) | (with_reducible apply gMax2) | (with_reducible apply gMaxP) | (with_reducible apply gAllL) | (with_reducible apply gTupL) | (with_reducible apply gTupT) | (with_reducible apply gListT) | (with_reducible apply gLenT) | (with_reducible apply gIsiT) | (with_reducible apply gIsNT) | (with_reducible apply gEqL0) | (with_reducible apply gNeL0) | (with_reducible apply gMul_ok) | (with_reducible apply gAdd_ok) | (with_reducible apply gSub_ok) | (with_reducible apply gEqI) | (with_reducible apply gNeI) | (with_reducible apply gLt_ok) | (with_reducible apply gLe_ok) | (with_reducible apply gGt_ok) | (with_reducible apply gGe_ok) | (with_reducible apply gInt_ok) | (with_reducible apply mulB_ok) | (with_reducible apply lim_ok) | ((with_reducible apply ite_t); (first | assumption | (exact decide_eq_true (by omega)) | (exact decide_eq_false (by omega)) | (simp only [Bool.not_eq_true', Bool.not_eq_false', Bool.not_not, decide_eq_false_iff_not, decide_eq_true_eq, Bool.false_eq_true, if_true, if_false, Bool.not_false, Bool.not_true, reduceIte]; omega) | exact rfl)) | ((with_reducible apply ite_f); (first | assumption | (exact decide_eq_true (by omega)) | (exact decide_eq_false (by omega)) | (simp only [Bool.not_eq_true', Bool.not_eq_false', Bool.not_not, decide_eq_false_iff_not, decide_eq_true_eq, Bool.false_eq_true, if_true, if_false, Bool.not_false, Bool.not_true, reduceIte]; omega) | exact rfl)) | (simp only [List.set_cons_succ, List.set_cons_zero, wipeD]; exact rfl) | (simp only [List.length_cons, List.length_nil, List.length_map, List.length_append]; omega) | (exact rfl) | (omega)))
  have nd := e_need (A := A) (mu := mu) a (n := 1) (by decide) (by decide)
  unfold m_kinds
  (repeat' (first | (with_reducible assumption) | (with_reducible exact q1) | (with_reducible apply mVar_ok) | (with_reducible apply mC_ok) | (with_reducible apply mOp_ok) | (with_reducible apply mTest_ok) | (with_reducible apply mCons_ok) | (with_reducible apply mNil_ok) | (with_reducible apply mCall_ok) | (with_reducible apply mCallF_ok) | (with_reducible apply mSeq_eq) | (with_reducible apply seqNx) | (with_reducible apply seqRt) | (with_reducible apply mSkip_ok) | (with_reducible apply mRet_ok) | (with_reducible apply mRetN_ok) | (with_reducible apply mExpr_ok) | (with_reducible apply mAsg_ok) | (with_reducible apply mGName_ok) | (with_reducible apply mIfS_ok) | (with_reducible apply mTAnd_ok) | (with_reducible apply mTOr_ok) | (with_reducible apply mTNot_ok) | (with_reducible apply mAnd_ok) | (with_reducible apply mOr_ok) | (with_reducible apply mNot_ok) | (with_reducible apply mIf_ok) | (with_reducible apply mChain_ok) | (with_reducible apply bindO_ok) | (with_reducible apply mTup_ok) | (with_reducible apply mLst_ok) | (with_reducible apply mLst_okC) | (with_reducible apply mUn_ok) | (with_reducible apply mMet_ok) | (with_reducible apply mMetC_ok) | (with_reducible apply mGTup_ok) | (with_reducible apply mGCons_ok) | (with_reducible apply mGNil_ok) | (with_reducible apply mPar_ok) | (with_reducible apply mPar3_ok) | (with_reducible apply mSet_ok) | (with_reducible apply mSeqI_ok) | (with_reducible apply mRange1_ok) | (with_reducible apply mZip_ok) | (with_reducible apply mFrz_ok) | (with_reducible apply mFor_ok) | (with_reducible apply mCallV_ok) | (with_reducible apply gAddL) | (with_reducible apply gSumL) | (with_reducible apply gMax0) | (with_reducible apply gMax2) | (with_reducible apply gMaxP) | (with_reducible apply gAllL) | (with_reducible apply gTupL) | (with_reducible apply gTupT) | (with_reducible apply gListT) | (with_reducible apply gLenT) | (with_reducible apply gIsiT) | (with_reducible apply gIsNT) | (with_reducible apply gEqL0) | (with_reducible apply gNeL0) | (with_reducible apply gMul_ok) | (with_reducible apply gAdd_ok) | (with_reducible apply gSub_ok) | (with_reducible apply gEqI) | (with_reducible apply gNeI) | (with_reducible apply gLt_ok) | (with_reducible apply gLe_ok) | (with_reducible apply gGt_ok) | (with_reducible apply gGe_ok) | (with_reducible apply gInt_ok) | (with_reducible apply mulB_ok) | (with_reducible apply lim_ok) | ((with_reducible apply ite_t); (first | assumption | (exact decide_eq_true (by omega)) | (exact decide_eq_false (by omega)) | (simp only [Bool.not_eq_true', Bool.not_eq_false', Bool.not_not, decide_eq_false_iff_not, decide_eq_true_eq, Bool.false_eq_true, if_true, if_false, Bool.not_false, Bool.not_true, reduceIte]; omega) | exact rfl)) | ((with_reducible apply ite_f); (first | assumption | (exact decide_eq_true (by omega)) | (exact decide_eq_false (by omega)) | (simp only [Bool.not_eq_true', Bool.not_eq_false', Bool.not_not, decide_eq_false_iff_not, decide_eq_true_eq, Bool.false_eq_true, if_true, if_false, Bool.not_false, Bool.not_true, reduceIte]; omega) | exact rfl)) | (simp only [List.set_cons_succ, List.set_cons_zero, wipeD]; exact rfl) | (simp only [List.length_cons, List.length_nil, List.length_map, List.length_append]; omega) | (exact rfl) | (omega)))
theorem e_kinds2 (a : Am e r i m t) : d_kinds A [.int 2, five e r i m t] mu = .ok (.lst ((KD2 e r i m t).map D.str)) mu := by
  refine denF_rt (env0 := [some (.int 2), some (five e r i m t), none]) rfl ?_
  have kw : d_kind_words A [.int 2] mu = .ok (.tup ((["one", "two"] : List Str).map D.str)) mu := by
    refine denF_rt (env0 := [some (.int 2)]) rfl ?_
    unfold m_kind_words
    (repeat' (first | (with_reducible assumption) | (with_reducible apply mVar_ok) | (with_reducible apply mC_ok) | (with_reducible apply mOp_ok) | (with_reducible apply mTest_ok) | (with_reducible apply mCons_ok) | (with_reducible apply mNil_ok) | (with_reducible apply mCall_ok) | (with_reducible apply mCallF_ok) | (with_reducible apply mSeq_eq) | (with_reducible apply seqNx) | (with_reducible apply seqRt) | (with_reducible apply mSkip_ok) | (with_reducible apply mRet_ok) | (with_reducible apply mRetN_ok) | (with_reducible apply mExpr_ok) | (with_reducible apply mAsg_ok) | (with_reducible apply mGName_ok) | (with_reducible apply mIfS_ok) | (with_reducible apply mTAnd_ok) | (with_reducible apply mTOr_ok) | (with_reducible apply mTNot_ok) | (with_reducible apply mAnd_ok) | (with_reducible apply mOr_ok) | (with_reducible apply mNot_ok) | (with_reducible apply mIf_ok) | (with_reducible apply mChain_ok) | (with_reducible apply bindO_ok) | (with_reducible apply mTup_ok) | (with_reducible apply mLst_ok) | (with_reducible apply mLst_okC) | (with_reducible apply mUn_ok) | (with_reducible apply mMet_ok) | (with_reducible apply mMetC_ok) | (with_reducible apply mGTup_ok) | (with_reducible apply mGCons_ok) | (with_reducible apply mGNil_ok) | (with_reducible apply mPar_ok) | (with_reducible apply mPar3_ok) | (with_reducible apply mSet_ok) | (with_reducible apply mSeqI_ok) | (with_reducible apply mRange1_ok) | (with_reducible apply mZip_ok) | (with_reducible apply mFrz_ok) | (with_reducible apply mFor_ok) | (with_reducible apply mCallV_ok) | (with_reducible apply gAddL) | (with_reducible apply gSumL) | (with_reducible apply gMax0) | (with_reducible apply gMax2) | (with_reducible apply gMaxP) | (with_reducible apply gAllL) | (with_reducible apply gTupL) | (with_reducible apply gTupT) | (with_reducible apply gListT) | (with_reducible apply gLenT) | (with_reducible apply gIsiT) | (with_reducible apply gIsNT) | (with_reducible apply gEqL0) | (with_reducible apply gNeL0) | (with_reducible apply gMul_ok) | (with_reducible apply gAdd_ok) | (with_reducible apply gSub_ok) | (with_reducible apply gEqI) | (with_reducible apply gNeI) | (with_reducible apply gLt_ok) | (with_reducible apply gLe_ok) | (with_reducible apply gGt_ok) | (with_reducible apply gGe_ok) | (with_reducible apply gInt_ok) | (with_reducible apply mulB_ok) | (with_reducible apply lim_ok) | ((with_reducible apply ite_t); (first | assumption | (exact decide_eq_true (by omega)) | (exact decide_eq_false (by omega)) | (simp only [Bool.not_eq_true', Bool.not_eq_false', Bool.not_not, decide_eq_false_iff_not, decide_eq_true_eq, Bool.false_eq_true, if_true, if_false, Bool.not_false, Bool.not_true, reduceIte]; omega) | exact rfl)) | ((with_reducible apply ite_f); (first | assumption | (exact decide_eq_true (by omega)) | (exact decide_eq_false (by omega)) | (simp only [Bool.not_eq_true', Bool.not_eq_false', Bool.not_not, decide_eq_false_iff_not, decide_eq_true_eq, Bool.false_eq_true, if_true, if_false, Bool.not_false, Bool.not_true, reduceIte]; omega) | exact rfl)) | (simp only [List.set_cons_succ, List.set_cons_zero, wipeD]; exact rfl) | (simp only [List.length_cons, List.length_nil, List.length_map, List.length_append]; omega) | (exact rfl) | (omega)))
  have q1 : q_kinds_1 A [some (.int 2), some (five e r i m t), none] mu = .ok (.lst ((KD2 e r i m t).map D.str)) mu := by
    unfold q_kinds_1
    rw [mLc_filter (enc := D.str) (p := fun k => (factsOf 2 k).all (holdsF e r i m t)) (f := D.str) ["one", "two"] ?_ ?_ (by decide)]
    · have h1 : (factsOf 2 "one").all (holdsF e r i m t) = K1 e r i m t := rfl
      have h2 : (factsOf 2 "two").all (holdsF e r i m t) = K2 e r i m t := rfl
      congr 3
      simp only [List.filter_cons, List.filter_nil, h1, h2, KD2]
      cases K1 e r i m t <;> cases K2 e r i m t <;> rfl
    · (repeat' (first | (with_reducible assumption) | (with_reducible apply mVar_ok) | (with_reducible apply mC_ok) | (with_reducible apply mOp_ok) | (with_reducible apply mTest_ok) | (with_reducible apply mCons_ok) | (with_reducible apply mNil_ok) | (with_reducible apply mCall_ok) | (with_reducible apply mCallF_ok) | (with_reducible apply mSeq_eq) | (with_reducible apply seqNx) | (with_reducible apply seqRt) | (with_reducible apply mSkip_ok) | (with_reducible apply mRet_ok) | (with_reducible apply mRetN_ok) | (with_reducible apply mExpr_ok) | (with_reducible apply mAsg_ok) | (with_reducible apply mGName_ok) | (with_reducible apply mIfS_ok) | (with_reducible apply mTAnd_ok) | (with_reducible apply mTOr_ok) | (with_reducible apply mTNot_ok) | (with_reducible apply mAnd_ok) | (with_reducible apply mOr_ok) | (with_reducible apply mNot_ok) | (with_reducible apply mIf_ok) | (with_reducible apply mChain_ok) | (with_reducible apply bindO_ok) | (with_reducible apply mTup_ok) | (with_reducible apply mLst_ok) | (with_reducible apply mLst_okC) | (with_reducible apply mUn_ok) | (with_reducible apply mMet_ok) | (with_reducible apply mMetC_ok) | (with_reducible apply mGTup_ok) | (with_reducible apply mGCons_ok) | (with_reducible apply mGNil_ok) | (with_reducible apply mPar_ok) | (with_reducible apply mPar3_ok) | (with_reducible apply mSet_ok) | (with_reducible apply mSeqI_ok) | (with_reducible apply mRange1_ok) | (with_reducible apply mZip_ok) | (with_reducible apply mFrz_ok) | (with_reducible apply mFor_ok) | (with_reducible apply mCallV_ok) | (with_reducible apply gAddL) | (with_reducible apply gSumL) | (with_reducible apply gMax0) | (with_reducible apply gMax2) | (with_reducible apply gMaxP) | (with_reducible apply gAllL) | (with_reducible apply gTupL) | (with_reducible apply gTupT) | (with_reducible apply gListT) | (with_reducible apply gLenT) | (with_reducible apply gIsiT) | (with_reducible apply gIsNT) | (with_reducible apply gEqL0) | (with_reducible apply gNeL0) | (with_reducible apply gMul_ok) | (with_reducible apply gAdd_ok) | (with_reducible apply gSub_ok) | (with_reducible apply gEqI) | (with_reducible apply gNeI) | (with_reducible apply gLt_ok) | (with_reducible apply gLe_ok) | (with_reducible apply gGt_ok) | (with_reducible apply gGe_ok) | (with_reducible apply gInt_ok) | (with_reducible apply mulB_ok) | (with_reducible apply lim_ok) | ((with_reducible apply ite_t); (first | assumption | (exact decide_eq_true (by omega)) | (exact decide_eq_false (by omega)) | (simp only [Bool.not_eq_true', Bool.not_eq_false', Bool.not_not, decide_eq_false_iff_not, decide_eq_true_eq, Bool.false_eq_true, if_true, if_false, Bool.not_false, Bool.not_true, reduceIte]; omega) | exact rfl)) | ((with_reducible apply ite_f); (first | assumption | (exact decide_eq_true (by omega)) | (exact decide_eq_false (by omega)) | (simp only [Bool.not_eq_true', Bool.not_eq_false', Bool.not_not, decide_eq_false_iff_not, decide_eq_true_eq, Bool.false_eq_true, if_true, if_false, Bool.not_false, Bool.not_true, reduceIte]; omega) | exact rfl)) | (simp only [List.set_cons_succ, List.set_cons_zero, wipeD]; exact rfl) | (simp only [List.length_cons, List.length_nil, List.length_map, List.length_append]; omega) | (exact rfl) | (omega)))
    · intro k hk
      have hk' : k = "one" ∨ k = "two" := by simpa using hk
      have w := e_keeps (A := A) (mu := mu) a (n := 2) (k := k) (.inr ⟨rfl, hk'⟩)
      refine ⟨[some (.int 2), some (five e r i m t), some (.str k)], ?_, ?_, fun _ => ?_⟩
      · (repeat' (first | (with_reducible assumption) | (with_reducible apply mVar_ok) | (with_reducible apply mC_ok) | (with_reducible apply mOp_ok) | (with_reducible apply mTest_ok) | (with_reducible apply mCons_ok) | (with_reducible apply mNil_ok) | (with_reducible apply mCall_ok) | (with_reducible apply mCallF_ok) | (with_reducible apply mSeq_eq) | (with_reducible apply seqNx) | (with_reducible apply seqRt) | (with_reducible apply mSkip_ok) | (with_reducible apply mRet_ok) | (with_reducible apply mRetN_ok) | (with_reducible apply mExpr_ok) | (with_reducible apply mAsg_ok) | (with_reducible apply mGName_ok) | (with_reducible apply mIfS_ok) | (with_reducible apply mTAnd_ok) | (with_reducible apply mTOr_ok) | (with_reducible apply mTNot_ok) | (with_reducible apply mAnd_ok) | (with_reducible apply mOr_ok) | (with_reducible apply mNot_ok) | (with_reducible apply mIf_ok) | (with_reducible apply mChain_ok) | (with_reducible apply bindO_ok) | (with_reducible apply mTup_ok) | (with_reducible apply mLst_ok) | (with_reducible apply mLst_okC) | (with_reducible apply mUn_ok) | (with_reducible apply mMet_ok) | (with_reducible apply mMetC_ok) | (with_reducible apply mGTup_ok) | (with_reducible apply mGCons_ok) | (with_reducible apply mGNil_ok) | (with_reducible apply mPar_ok) | (with_reducible apply mPar3_ok) | (with_reducible apply mSet_ok) | (with_reducible apply mSeqI_ok) | (with_reducible apply mRange1_ok) | (with_reducible apply mZip_ok) | (with_reducible apply mFrz_ok) | (with_reducible apply mFor_ok) | (with_reducible apply mCallV_ok) | (with_reducible apply gAddL) | (with_reducible apply gSumL) | (with_reducible apply gMax0) | (with_reducible apply gMax2) | (with_reducible apply gMaxP) | (with_reducible apply gAllL) | (with_reducible apply gTupL) | (with_reducible apply gTupT) | (with_reducible apply gListT) | (with_reducible apply gLenT) | (with_reducible apply gIsiT) | (with_reducible apply gIsNT) | (with_reducible apply gEqL0) | (with_reducible apply gNeL0) | (with_reducible apply gMul_ok) | (with_reducible apply gAdd_ok) | (with_reducible apply gSub_ok) | (with_reducible apply gEqI) | (with_reducible apply gNeI) | (with_reducible apply gLt_ok) | (with_reducible apply gLe_ok) | (with_reducible apply gGt_ok) | (with_reducible apply gGe_ok) | (with_reducible apply gInt_ok) | (with_reducible apply mulB_ok) | (with_reducible apply lim_ok) | ((with_reducible apply ite_t); (first | assumption | (exact decide_eq_true (by omega)) | (exact decide_eq_false (by omega)) | (simp only [Bool.not_eq_true', Bool.not_eq_false', Bool.not_not, decide_eq_false_iff_not, decide_eq_true_eq, Bool.false_eq_true, if_true, if_false, Bool.not_false, Bool.not_true, reduceIte]; omega) | exact rfl)) | ((with_reducible apply ite_f); (first | assumption | (exact decide_eq_true (by omega)) | (exact decide_eq_false (by omega)) | (simp only [Bool.not_eq_true', Bool.not_eq_false', Bool.not_not, decide_eq_false_iff_not, decide_eq_true_eq, Bool.false_eq_true, if_true, if_false, Bool.not_false, Bool.not_true, reduceIte]; omega) | exact rfl)) | (simp only [List.set_cons_succ, List.set_cons_zero, wipeD]; exact rfl) | (simp only [List.length_cons, List.length_nil, List.length_map, List.length_append]; omega) | (exact rfl) | (omega)))
      · (repeat' (first | (with_reducible assumption) | (with_reducible apply mVar_ok) | (with_reducible apply mC_ok) | (with_reducible apply mOp_ok) | (with_reducible apply mTest_ok) | (with_reducible apply mCons_ok) | (with_reducible apply mNil_ok) | (with_reducible apply mCall_ok) | (with_reducible apply mCallF_ok) | (with_reducible apply mSeq_eq) | (with_reducible apply seqNx) | (with_reducible apply seqRt) | (with_reducible apply mSkip_ok) | (with_reducible apply mRet_ok) | (with_reducible apply mRetN_ok) | (with_reducible apply mExpr_ok) | (with_reducible apply mAsg_ok) | (with_reducible apply mGName_ok) | (with_reducible apply mIfS_ok) | (with_reducible apply mTAnd_ok) | (with_reducible apply mTOr_ok) | (with_reducible apply mTNot_ok) | (with_reducible apply mAnd_ok) | (with_reducible apply mOr_ok) | (with_reducible apply mNot_ok) | (with_reducible apply mIf_ok) | (with_reducible apply mChain_ok) | (with_reducible apply bindO_ok) | (with_reducible apply mTup_ok) | (with_reducible apply mLst_ok) | (with_reducible apply mLst_okC) | (with_reducible apply mUn_ok) | (with_reducible apply mMet_ok) | (with_reducible apply mMetC_ok) | (with_reducible apply mGTup_ok) | (with_reducible apply mGCons_ok) | (with_reducible apply mGNil_ok) | (with_reducible apply mPar_ok) | (with_reducible apply mPar3_ok) | (with_reducible apply mSet_ok) | (with_reducible apply mSeqI_ok) | (with_reducible apply mRange1_ok) | (with_reducible apply mZip_ok) | (with_reducible apply mFrz_ok) | (with_reducible apply mFor_ok) | (with_reducible apply mCallV_ok) | (with_reducible apply gAddL) | (with_reducible apply gSumL) | (with_reducible apply gMax0) | (with_reducible apply gMax2) | (with_reducible apply gMaxP) | (with_reducible apply gAllL) | (with_reducible apply gTupL) | (with_reducible apply gTupT) | (with_reducible apply gListT) | (with_reducible apply gLenT) | (with_reducible apply gIsiT) | (with_reducible apply gIsNT) | (with_reducible apply gEqL0) | (with_reducible apply gNeL0) | (with_reducible apply gMul_ok) | (with_reducible apply gAdd_ok) | (with_reducible apply gSub_ok) | (with_reducible apply gEqI) | (with_reducible apply gNeI) | (with_reducible apply gLt_ok) | (with_reducible apply gLe_ok) | (with_reducible apply gGt_ok) | (with_reducible apply gGe_ok) | (with_reducible apply gInt_ok) | (with_reducible apply mulB_ok) | (with_reducible apply lim_ok) | ((with_reducible apply ite_t); (first | assumption | (exact decide_eq_true (by omega)) | (exact decide_eq_false (by omega)) | (simp only [Bool.not_eq_true', Bool.not_eq_false', Bool.not_not, decide_eq_false_iff_not, decide_eq_true_eq, Bool.false_eq_true, if_true, if_false, Bool.not_false, Bool.not_true, reduceIte]; omega) | exact rfl)) | ((with_reducible apply ite_f); (first | assumption | (exact decide_eq_true (by omega)) | (exact decide_eq_false (by omega)) | (simp only [Bool.not_eq_true', Bool.not_eq_false', Bool.not_not, decide_eq_false_iff_not, decide_eq_true_eq, Bool.false_eq_true, if_true, if_false, Bool.not_false, Bool.not_true, reduceIte]; omega) | exact rfl)) | (simp only [List.set_cons_succ, List.set_cons_zero, wipeD]; exact rfl) | (simp only [List.length_cons, List.length_nil, List.length_map, List.length_append]; omega) | (exact rfl) | (omega)))
      · (repeat' (first | (with_reducible assumption) | (with_reducible apply mVar_ok) | (with_reducible apply mC_ok) | (with_reducible apply mOp_ok) | (with_reducible apply mTest_ok) | (with_reducible apply mCons_ok) | (with_reducible apply mNil_ok) | (with_reducible apply mCall_ok) | (with_reducible apply mCallF_ok) | (with_reducible apply mSeq_eq) | (with_reducible apply seqNx) | (with_reducible apply seqRt) | (with_reducible apply mSkip_ok) | (with_reducible apply mRet_ok) | (with_reducible apply mRetN_ok) | (with_reducible apply mExpr_ok) | (with_reducible apply mAsg_ok) | (with_reducible apply mGName_ok) | (with_reducible apply mIfS_ok) | (with_reducible apply mTAnd_ok) | (with_reducible apply mTOr_ok) | (with_reducible apply mTNot_ok) | (with_reducible apply mAnd_ok) | (with_reducible apply mOr_ok) | (with_reducible apply mNot_ok) | (with_reducible apply mIf_ok) | (with_reducible apply mChain_ok) | (with_reducible apply bindO_ok) | (with_reducible apply mTup_ok) | (with_reducible apply mLst_ok) | (with_reducible apply mLst_okC) | (with_reducible apply mUn_ok) | (with_reducible apply mMet_ok) | (with_reducible apply mMetC_ok) | (with_reducible apply mGTup_ok) | (with_reducible apply mGCons_ok) | (with_reducible apply mGNil_ok) | (with_reducible apply mPar_ok) | (with_reducible apply mPar3_ok) | (with_reducible apply mSet_ok) | (with_reducible apply mSeqI_ok) | (with_reducible apply mRange1_ok) | (with_reducible apply mZip_ok) | (with_reducible apply mFrz_ok) | (with_reducible apply mFor_ok) | (with_reducible apply mCallV_ok) | (with_reducible apply gAddL) | (with_reducible apply gSumL) | (with_reducible apply gMax0) | (with_reducible apply gMax2) | (with_reducible apply gMaxP) | (with_reducible apply gAllL) | (with_reducible apply gTupL) | (with_reducible apply gTupT) | (with_reducible apply gListT) | (with_reducible apply gLenT) | (with_reducible apply gIsiT) | (with_reducible apply gIsNT) | (with_reducible apply gEqL0) | (with_reducible apply gNeL0) | (with_reducible apply gMul_ok) | (with_reducible apply gAdd_ok) | (with_reducible apply gSub_ok) | (with_reducible apply gEqI) | (with_reducible apply gNeI) | (with_reducible apply gLt_ok) | (with_reducible apply gLe_ok) | (with_reducible apply gGt_ok) | (with_reducible apply gGe_ok) | (with_reducible apply gInt_ok) | (with_reducible apply mulB_ok) | (with_reducible apply lim_ok) | ((with_reducible apply ite_t); (first | assumption | (exact decide_eq_true (by omega)) | (exact decide_eq_false (by omega)) | (simp only [Bool.not_eq_true', Bool.not_eq_false', Bool.not_not, decide_eq_false_iff_not, decide_eq_true_eq, Bool.false_eq_true, if_true, if_false, Bool.not_false, Bool.not_true, reduceIte]; omega) | exact rfl)) | ((with_reducible apply ite_f); (first | assumption | (exact decide_eq_true (by omega)) | (exact decide_eq_false (by omega)) | (simp only [Bool.not_eq_true', Bool.not_eq_false', Bool.not_not, decide_eq_false_iff_not, decide_eq_true_eq, Bool.false_eq_true, if_true, if_false, Bool.not_false, Bool.not_true, reduceIte]; omega) | exact rfl)) | (simp only [List.set_cons_succ, List.set_cons_zero, wipeD]; exact rfl) | (simp only [List.length_cons, List.length_nil, List.length_map, List.length_append]; omega) | (exact rfl) | (omega)))
  have nd := e_need (A := A) (mu := mu) a (n := 2) (by decide) (by decide)
  unfold m_kinds
  (repeat' (first | (with_reducible assumption) | (with_reducible exact q1) | (with_reducible apply mVar_ok) | (with_reducible apply mC_ok) | (with_reducible apply mOp_ok) | (with_reducible apply mTest_ok) | (with_reducible apply mCons_ok) | (with_reducible apply mNil_ok) | (with_reducible apply mCall_ok) | (with_reducible apply mCallF_ok) | (with_reducible apply mSeq_eq) | (with_reducible apply seqNx) | (with_reducible apply seqRt) | (with_reducible apply mSkip_ok) | (with_reducible apply mRet_ok) | (with_reducible apply mRetN_ok) | (with_reducible apply mExpr_ok) | (with_reducible apply mAsg_ok) | (with_reducible apply mGName_ok) | (with_reducible apply mIfS_ok) | (with_reducible apply mTAnd_ok) | (with_reducible apply mTOr_ok) | (with_reducible apply mTNot_ok) | (with_reducible apply mAnd_ok) | (with_reducible apply mOr_ok) | (with_reducible apply mNot_ok) | (with_reducible apply mIf_ok) | (with_reducible apply mChain_ok) | (with_reducible apply bindO_ok) | (with_reducible apply mTup_ok) | (with_reducible apply mLst_ok) | (with_reducible apply mLst_okC) | (with_reducible apply mUn_ok) | (with_reducible apply mMet_ok) | (with_reducible apply mMetC_ok) | (with_reducible apply mGTup_ok) | (with_reducible apply mGCons_ok) | (with_reducible apply mGNil_ok) | (with_reducible apply mPar_ok) | (with_reducible apply mPar3_ok) | (with_reducible apply mSet_ok) | (with_reducible apply mSeqI_ok) | (with_reducible apply mRange1_ok) | (with_reducible apply mZip_ok) | (with_reducible apply mFrz_ok) | (with_reducible apply mFor_ok) | (with_reducible apply mCallV_ok) | (with_reducible apply gAddL) | (with_reducible apply gSumL) | (with_reducible apply gMax0) | (with_reducible apply gMax2) | (with_reducible apply gMaxP) | (with_reducible apply gAllL) | (with_reducible apply gTupL) | (with_reducible apply gTupT) | (with_reducible apply gListT) | (with_reducible apply gLenT) | (with_reducible apply gIsiT) | (with_reducible apply gIsNT) | (with_reducible apply gEqL0) | (with_reducible apply gNeL0) | (with_reducible apply gMul_ok) | (with_reducible apply gAdd_ok) | (with_reducible apply gSub_ok) | (with_reducible apply gEqI) | (with_reducible apply gNeI) | (with_reducible apply gLt_ok) | (with_reducible apply gLe_ok) | (with_reducible apply gGt_ok) | (with_reducible apply gGe_ok) | (with_reducible apply gInt_ok) | (with_reducible apply mulB_ok) | (with_reducible apply lim_ok) | ((with_reducible apply ite_t); (first | assumption | (exact decide_eq_true (by omega)) | (exact decide_eq_false (by omega)) | (simp only [Bool.not_eq_true', Bool.not_eq_false', Bool.not_not, decide_eq_false_iff_not, decide_eq_true_eq, Bool.false_eq_true, if_true, if_false, Bool.not_false, Bool.not_true, reduceIte]; omega) | exact rfl)) | ((with_reducible apply ite_f); (first | assumption | (exact decide_eq_true (by omega)) | (exact decide_eq_false (by omega)) | (simp only [Bool.not_eq_true', Bool.not_eq_false', Bool.not_not, decide_eq_false_iff_not, decide_eq_true_eq, Bool.false_eq_true, if_true, if_false, Bool.not_false, Bool.not_true, reduceIte]; omega) | exact rfl)) | (simp only [List.set_cons_succ, List.set_cons_zero, wipeD]; exact rfl) | (simp only [List.length_cons, List.length_nil, List.length_map, List.length_append]; omega) | (exact rfl) | (omega)))
theorem kinds_ok (a : Am e r i m t) {n : Int} (h1 : 1 ≤ n) (h2 : n ≤ 2) : d_kinds A [.int n, five e r i m t] mu = .ok (.lst ((KD n e r i m t).map D.str)) mu := by
  have : n = 1 ∨ n = 2 := by omega
  rcases this with rfl | rfl
  · exact e_kinds1 a
  · exact e_kinds2 a
/-! the law's own look -/
theorem rep1 {s : Str} {c : Bool} : gMul false mu (.lst [.str s]) (.int (if c then 1 else 0)) = some (.lst ((if c then [s] else []).map D.str), mu) := by
  cases c <;> kernel_rfl
theorem intB {c : Bool} : gInt mu [.bl c] = some (.int (if c then 1 else 0), mu) := rfl
theorem dec_and {p q : Prop} [Decidable p] [Decidable q] : (if decide p = true then decide q else false) = decide (p ∧ q) := by
  by_cases h : p <;> simp [h]
theorem lawkinds (a : Am e r i m t) {n : Int} (h1 : 1 ≤ n) (h2 : n ≤ 2) : wR (d__law_kinds A [.int n, five e r i m t] mu) (fun d m' => d = .lst ((KD n e r i m t).map D.str) ∧ m' = mu) no2 := by
  refine w_den ?_
  show wS (m__law_kinds A [some (.int n), some (five e r i m t), none, none, none, none, none, none, none] mu) _ _ _ _ _
  have m1 : mulB 2 m = true := mulB_ok (by have := bits2; omega) (by have := a.bm; omega)
  have m2 : mulB 2 r = true := mulB_ok (by have := bits2; omega) (by have := a.br; omega)
  have m3 : mulB 2 t = true := mulB_ok (by have := bits2; omega) (by have := a.bt; omega)
  have m4 : mulB 2 i = true := mulB_ok (by have := bits2; omega) (by have := a.bi; omega)
  have hn : n = 1 ∨ n = 2 := by omega
  unfold m__law_kinds
  rcases hn with rfl | rfl
  · have hb : (decide (r = e) && (decide (i = m) && (decide (t = m) && decide (m ≤ e)))) = B1 e r i m t := Bool.eq_iff_iff.mpr (by rw [b1_iff]; simp only [Bool.and_eq_true, decide_eq_true_eq]; omega)
    (repeat' (first | (refine go1 ?_) | (with_reducible refine w_eq (intB) ?_) | (with_reducible refine wO_eq (intB) ?_) | (with_reducible refine w_eq (rep1) ?_) | (with_reducible refine wO_eq (rep1) ?_) | fail "wj"))
    rw [hb]
    exact ⟨rfl, rfl⟩
  · have h1 : ((decide (i = t) && (decide (m ≤ t) && (decide (t ≤ 2 * m) && decide (m ≤ r)))) && (decide (r + t ≤ e + m) && decide (e + 2 * m ≤ 2 * r + t))) = K1 e r i m t := Bool.eq_iff_iff.mpr (by rw [k1_iff]; simp only [Bool.and_eq_true, decide_eq_true_eq]; omega)
    have h2 : (((decide (m ≤ i) && (decide (i ≤ t) && (decide (t ≤ 2 * m) && decide (t ≤ r)))) && (decide (i + r ≤ e + m) && decide (e + 2 * m ≤ i + 2 * r))) && decide (e + 2 * t ≤ 2 * i + 2 * r)) = K2 e r i m t := Bool.eq_iff_iff.mpr (by rw [k2_iff]; simp only [Bool.and_eq_true, decide_eq_true_eq]; omega)
    (repeat' (first | (refine go1 ?_) | (with_reducible refine w_eq (intB) ?_) | (with_reducible refine wO_eq (intB) ?_) | (with_reducible refine w_eq (rep1) ?_) | (with_reducible refine wO_eq (rep1) ?_) | fail "wj"))
    rw [h1, h2]
    refine o_addL ?_ ?_
    · cases K1 e r i m t <;> cases K2 e r i m t <;> decide
    · rw [← List.map_append]; exact ⟨rfl, rfl⟩
theorem lk_eq (a : Am e r i m t) {n : Int} (h1 : 1 ≤ n) (h2 : n ≤ 2) : d__law_kinds A [.int n, five e r i m t] mu = .ok (.lst ((KD n e r i m t).map D.str)) mu := w_eqO (lawkinds a h1 h2)
end
/-! what is refused -/
def numv : D → Option Bool
  | .int _ => some true
  | .bl _ => some false
  | .non => some false
  | .str _ => some false
  | .tup _ => some false
  | .lst _ => some false
  | _ => none
def fzv : D → Option Bool
  | .int x => some (decide (0 ≤ x))
  | .bl _ => some false
  | .non => some false
  | .str _ => some false
  | .tup _ => some false
  | .lst _ => some false
  | _ => none
section
variable {A : Ad} {mu : Mu} {e r i m t : Int} {Q : D → Mu → Prop} {E : XD → Mu → Prop} {d : D} {c : Bool} {n : Int}
theorem num_eq (h : numv d = some c) : d_is_number A [d] mu = .ok (.bl c) mu := by
  cases d with
  | int x => cases h; refine denF_rt (env0 := [some (.int x)]) rfl ?_; rfl
  | bl x => cases h; rfl
  | non => cases h; rfl
  | str x => cases h; rfl
  | tup x => cases h; rfl
  | lst x => cases h; rfl
  | _ => cases h
theorem fz_eq (h : fzv d = some c) : d_is_from_zero A [d] mu = .ok (.bl c) mu := by
  cases d with
  | int x => cases h; rfl
  | bl x => cases h; rfl
  | non => cases h; rfl
  | str x => cases h; rfl
  | tup x => cases h; rfl
  | lst x => cases h; rfl
  | _ => cases h
def BadMany (d : D) : Prop := numv d = some false ∨ ∃ x : Int, d = .int x ∧ (x < 1 ∨ 2 < x)
def bad (A : Ad) (mu : Mu) (x : XD) (m : Mu) : Prop := x = ⟨.ref A.BadAmounts, none⟩ ∧ m = mu
theorem many_w {y : D} (h : BadMany d) : wR (d_need_told A [d, y] mu) Q (bad A mu) := by
  refine w_den ?_
  show wS (m_need_told A [some d, some y, none] mu) _ _ _ _ _
  unfold m_need_told
  rcases h with h | ⟨x, rfl, h⟩
  · (repeat' (first | (refine go1 ?_) | (with_reducible refine w_eq (num_eq h) ?_) | (with_reducible refine wO_eq (num_eq h) ?_) | (with_reducible apply s_raise) | fail "wp"))
    exact ⟨rfl, rfl⟩
  · have h0 : numv (.int x) = some true := rfl
    (repeat' (first | (refine go1 ?_) | (with_reducible refine w_eq (num_eq h0) ?_) | (with_reducible refine wO_eq (num_eq h0) ?_) | (with_reducible apply s_raise) | fail "wp"))
    all_goals first | exact ⟨rfl, rfl⟩ | omega
def BadT (mu : Mu) (d : D) : Prop := gIsi mu [d, .ty "tuple"] = some (.bl false, mu) ∨ ∃ xs, d = .tup xs ∧ xs.length ≤ 1000000 ∧ (∀ x ∈ xs, (fzv x).isSome = true) ∧ (xs.length ≠ 5 ∨ ∃ x ∈ xs, fzv x = some false)
theorem told_bad (h1 : 1 ≤ n) (h2 : n ≤ 2) (h : BadT mu d) : wR (d_need_told A [.int n, d] mu) Q (bad A mu) := by
  refine w_den ?_
  show wS (m_need_told A [some (.int n), some d, none] mu) _ _ _ _ _
  unfold m_need_told q_need_told_1
  have h0 : numv (.int n) = some true := rfl
  rcases h with h | ⟨xs, rfl, hl, hs, h⟩
  · (repeat' (first | (refine go1 ?_) | (with_reducible refine w_eq (num_eq h0) ?_) | (with_reducible refine wO_eq (num_eq h0) ?_) | (with_reducible apply s_raise) | (with_reducible refine w_eq (h) ?_) | (with_reducible refine wO_eq (h) ?_) | fail "wn"))
    exact ⟨rfl, rfl⟩
  · (repeat' (first | (refine go1 ?_) | (with_reducible refine w_eq (num_eq h0) ?_) | (with_reducible refine wO_eq (num_eq h0) ?_) | (with_reducible apply s_raise) | fail "wn"))
    by_cases h5 : xs.length = 5
    · rcases h with h | ⟨y, hy, ey⟩
      · exact absurd h5 h
      refine wB_t (decide_eq_true (by omega)) ?_
      (repeat' (first | (refine go1 ?_) | fail "wn"))
      refine w_lcId (fun x => D.bl ((fzv x).getD false)) xs (fun x hx => ?_) hl ?_
      · obtain ⟨c, ec⟩ := Option.isSome_iff_exists.mp (hs x hx)
        (repeat' (first | (refine go1 ?_) | (with_reducible refine w_eq (fz_eq ec) ?_) | (with_reducible refine wO_eq (fz_eq ec) ?_) | fail "wn"))
        rw [ec]
        exact ⟨rfl, rfl⟩
      · have e1 : gBL (fun l => l.all id) mu [.lst (xs.map fun x => D.bl ((fzv x).getD false))] = some (.bl false, mu) := by
          have e2 : xs.map (fun x => D.bl ((fzv x).getD false)) = (xs.map fun x => (fzv x).getD false).map D.bl := by rw [List.map_map]; rfl
          rw [e2, gAllL]
          have e3 : (xs.map fun x => (fzv x).getD false).all id = false := by
            rw [List.all_eq_false]
            exact ⟨false, List.mem_map.mpr ⟨y, hy, by rw [ey]; rfl⟩, by decide⟩
          rw [e3]
        (repeat' (first | (refine go1 ?_) | (with_reducible refine w_eq (e1) ?_) | (with_reducible refine wO_eq (e1) ?_) | (with_reducible apply s_raise) | fail "wn"))
        exact ⟨rfl, rfl⟩
    · refine wB_f (decide_eq_false (by omega)) ?_
      (repeat' (first | (refine go1 ?_) | (with_reducible apply s_raise) | fail "wn"))
      exact ⟨rfl, rfl⟩
theorem kinds_bad {y : D} (h : wR (d_need_told A [d, y] mu) (fun _ _ => False) (bad A mu)) : wR (d_kinds A [d, y] mu) Q (bad A mu) := by
  refine w_den ?_
  show wS (m_kinds A [some d, some y, none] mu) _ _ _ _ _
  unfold m_kinds
  (repeat' (first | (refine go1 ?_) | fail "wn"))
  exact w_mono h fun _ _ h => h.elim
theorem isx_eq {ex : Addr → Bool} {isx : Value → Value → Option Bool} {a : Addr} {c : D} {u : Value} {b : Bool} (h1 : clsV c = some u) (h2 : ex a = true) (h3 : isx (.ref a) u = some b) : gIsx ex isx mu [.exn (.ref a), c] = some (.bl b, mu) := by
  unfold gIsx
  simp only [h1, h2, h3, if_true]
  rfl
end
end K24

namespace K24
open PySem L2 DL
local macro_rules | `(tactic| fail "wn") => `(tactic| (first | (with_reducible apply w_ok) | (with_reducible apply w_C) | (with_reducible apply w_op) | (with_reducible apply w_un) | (with_reducible apply w_test) | (with_reducible apply w_tand) | (with_reducible apply w_tor) | (with_reducible apply w_tnot) | (with_reducible apply w_and) | (with_reducible apply w_or) | (with_reducible apply w_not) | (with_reducible apply w_if) | (with_reducible apply w_chain) | (with_reducible apply w_nil) | (with_reducible apply w_cons) | (with_reducible apply w_tup) | (with_reducible apply w_lst) | (with_reducible apply w_lstC) | (with_reducible apply w_newD) | (with_reducible apply w_call) | (with_reducible apply w_met) | (with_reducible apply w_metC) | (with_reducible apply w_callF) | (with_reducible apply w_callKw) | (with_reducible apply w_sl) | (with_reducible apply w_oN) | (with_reducible apply w_oS) | (with_reducible apply w_disp) | (with_reducible apply w_prN) | (with_reducible apply w_prC) | (with_reducible apply w_gcons) | (with_reducible apply w_gnil) | (with_reducible apply w_seqI) | (with_reducible apply w_rng1) | (with_reducible apply w_zip) | (with_reducible apply w_yes) | (with_reducible apply s_seq) | (with_reducible apply s_skip) | (with_reducible apply s_brk) | (with_reducible apply s_cont) | (with_reducible apply s_retN) | (with_reducible apply s_ret) | (with_reducible apply s_expr) | (with_reducible apply s_asg) | (with_reducible apply s_par) | (with_reducible apply s_par3) | (with_reducible apply s_if) | (with_reducible apply s_for) | (with_reducible apply s_raise) | (with_reducible apply s_set) | (with_reducible apply isBl_i) | (with_reducible apply isInt_i) | (with_reducible apply wB_true) | (with_reducible apply wB_false) | (with_reducible apply wB_not) | (with_reducible apply items_l) | (with_reducible apply items_t) | (with_reducible apply items_r) | (with_reducible apply mkQ_t) | (with_reducible apply mkQ_f) | (with_reducible apply o_neS) | (with_reducible apply o_eqS) | (with_reducible apply o_isn) | (with_reducible apply o_isnn) | (with_reducible apply wO_some) | ((with_reducible apply take_w); (· (repeat' (first | assumption | ((with_reducible apply Dr.app); rotate_left; (· exact rfl)) | ((with_reducible apply Dr.set); rotate_left; (· omega); (· exact rfl))))); (· omega); (· first | assumption | omega | decide); (· first | assumption | decide +kernel); (intro _ _ _ _ _ _)) | ((with_reducible apply pick_w); (· (repeat' (first | assumption | ((with_reducible apply Dr.app); rotate_left; (· exact rfl)) | ((with_reducible apply Dr.set); rotate_left; (· omega); (· exact rfl))))); (· omega); (· (first | (simp only [List.length_cons, List.length_nil, List.length_map, List.length_append, List.length_set, List.length_range, List.length_take, List.length_drop]; omega) | decide | omega)); (· (first | (simp only [List.length_cons, List.length_nil, List.length_map, List.length_append, List.length_set, List.length_range, List.length_take, List.length_drop]; omega) | decide | omega)); (intro _ _ _ _ _)) | ((with_reducible apply w_var); (· exact rfl)) | ((with_reducible apply w_gname); (· (simp only [List.set_cons_succ, List.set_cons_zero, wipeD]; exact rfl))) | ((with_reducible apply par2_i); (· (simp only [List.set_cons_succ, List.set_cons_zero, wipeD]; exact rfl))) | ((with_reducible apply par3_i); (· (simp only [List.set_cons_succ, List.set_cons_zero, wipeD]; exact rfl))) | ((with_reducible apply w_gtup); (· exact rfl)) | ((with_reducible apply len_and); (· exact rfl)) | ((with_reducible apply lim_and); (· (first | (simp only [List.length_cons, List.length_nil, List.length_map, List.length_append, List.length_set, List.length_range, List.length_take, List.length_drop]; omega) | decide | omega))) | ((with_reducible apply w_lcE); (· (simp only [List.set_cons_succ, List.set_cons_zero, wipeD]; exact rfl))) | ((with_reducible apply rng1_i); (· omega)) | ((with_reducible apply zip_i); (· exact rfl)) | ((with_reducible apply kw_i); (· exact rfl); (· first | exact p0 | exact p10 | exact p01 | exact p210 | exact p120 | exact p201 | exact p021 | exact p102); (· exact rfl)) | ((with_reducible apply wB_t); (· (first | assumption | (exact decide_eq_true (by omega)) | (exact decide_eq_false (by omega)) | decide))) | ((with_reducible apply wB_f); (· (first | assumption | (exact decide_eq_true (by omega)) | (exact decide_eq_false (by omega)) | decide))) | (with_reducible refine wO_eq (gMul_ok (by assumption)) ?_) | (with_reducible refine wO_eq (gAdd_ok) ?_) | (with_reducible refine wO_eq (gSub_ok) ?_) | (with_reducible refine wO_eq (gEqI) ?_) | (with_reducible refine wO_eq (gNeI) ?_) | (with_reducible refine wO_eq (gLt_ok) ?_) | (with_reducible refine wO_eq (gLe_ok) ?_) | (with_reducible refine wO_eq (gGt_ok) ?_) | (with_reducible refine wO_eq (gGe_ok) ?_) | (with_reducible refine wO_eq (gInt_ok) ?_) | (with_reducible refine wO_eq (gAddL (by rfl)) ?_) | (with_reducible refine wO_eq (gSumL) ?_) | (with_reducible refine wO_eq (gMax2) ?_) | (with_reducible refine wO_eq (gMin2) ?_) | (with_reducible refine wO_eq (gMaxP) ?_) | (with_reducible refine wO_eq (gMax0) ?_) | (with_reducible refine wO_eq (gAllL) ?_) | (with_reducible refine wO_eq (gTupL) ?_) | (with_reducible refine wO_eq (gTupT) ?_) | (with_reducible refine wO_eq (gListT) ?_) | (with_reducible refine wO_eq (gLenT) ?_) | (with_reducible refine wO_eq (gLenL) ?_) | (with_reducible refine wO_eq (gIsiT) ?_) | ((with_reducible apply o_append); (· (repeat' (first | assumption | exact c_last | (with_reducible apply c_app) | (with_reducible apply c_set) | ((with_reducible apply c_setne); (· omega)) | ((with_reducible apply c_ex); (· assumption); (· omega))))); (· (first | (simp only [List.length_cons, List.length_nil, List.length_map, List.length_append, List.length_set, List.length_range, List.length_take, List.length_drop]; omega) | decide | omega))) | ((with_reducible apply o_tupC); (· (repeat' (first | assumption | exact c_last | (with_reducible apply c_app) | (with_reducible apply c_set) | ((with_reducible apply c_setne); (· omega)) | ((with_reducible apply c_ex); (· assumption); (· omega)))))) | ((with_reducible apply o_lenC); (· (repeat' (first | assumption | exact c_last | (with_reducible apply c_app) | (with_reducible apply c_set) | ((with_reducible apply c_setne); (· omega)) | ((with_reducible apply c_ex); (· assumption); (· omega)))))) | ((with_reducible apply o_addL); (· (first | (simp only [List.length_cons, List.length_nil, List.length_map, List.length_append, List.length_set, List.length_range, List.length_take, List.length_drop]; omega) | decide | omega))) | ((with_reducible apply o_addT); (· (first | (simp only [List.length_cons, List.length_nil, List.length_map, List.length_append, List.length_set, List.length_range, List.length_take, List.length_drop]; omega) | decide | omega))) | ((with_reducible apply isl_c); (· (repeat' (first | assumption | exact c_last | (with_reducible apply c_app) | (with_reducible apply c_set) | ((with_reducible apply c_setne); (· omega)) | ((with_reducible apply c_ex); (· assumption); (· omega)))))) | (with_reducible apply isl_l) | ((with_reducible apply s_frz); (· exact rfl); (· (repeat' (first | assumption | exact c_last | (with_reducible apply c_app) | (with_reducible apply c_set) | ((with_reducible apply c_setne); (· omega)) | ((with_reducible apply c_ex); (· assumption); (· omega)))))) | ((with_reducible apply s_frz0); (· exact rfl); (· intro _ z; cases z)) | ((with_reducible apply wO_eq); (· exact rfl)) | (with_reducible exact rfl)))
section
variable {N B C : DEnv → Mu → Prop} {R : D → Mu → Prop} {E : XD → Mu → Prop} {env : DEnv} {mu : Mu} {mg : DenG} {sb : DenS} {p : Its}
theorem s_forAE {α : Type} (enc : α → D) (I : List α → DEnv → Mu → Prop) (hH : ∀ xs env mu, I xs env mu → heldI p mu) (xs : List α) (h0 : I xs env mu) (hI : ∀ a rest env mu, I (a :: rest) env mu → wR (mg (enc a) env mu) (fun e m => wS (sb e m) (I rest) R N (I rest) E) E) (hN : ∀ env mu, I [] env mu → N env mu) : wS (forA p mg sb (xs.map enc) env mu) N R B C E :=
  s_forAL (fun ds env mu => ∃ l, ds = l.map enc ∧ I l env mu) (fun ds env mu ⟨l, _, h⟩ => hH l env mu h) (fun d rest env mu ⟨l, e, h⟩ => by
    cases l with
    | nil => cases e
    | cons a l =>
      cases e
      refine w_mono (hI a l env mu h) fun e m h => ?_
      cases q : sb e m with
      | nx e2 m2 => rw [q] at h; exact ⟨l, rfl, h⟩
      | ct e2 m2 => rw [q] at h; exact ⟨l, rfl, h⟩
      | bk e2 m2 => rw [q] at h; exact h
      | rt d2 m2 => rw [q] at h; exact h
      | exc x2 e2 m2 => rw [q] at h; exact h
      | stuck => rw [q] at h; exact h) (fun env mu ⟨l, e, h⟩ => by
    cases l with
    | nil => exact hN env mu h
    | cons a l => cases e) _ env mu ⟨xs, rfl, h0⟩
end
/-! runs, and what they come to -/
abbrev Run := Int × Int × Option Int
def encPart (p : Int × Option Int) : D := match p.2 with
  | none => .int p.1
  | some b => .tup [.int p.1, .int b]
abbrev encR (r : Run) : D := .tup [.int r.1, encPart r.2]
abbrev rb (r : Run) : Int := r.2.2.getD 0
structure OkRun (w : Bool) (r : Run) : Prop where
  c1 : 1 ≤ r.1
  cb : Builtin.Int.intBits r.1 ≤ 100
  a0 : 0 ≤ r.2.1
  ab : Builtin.Int.intBits r.2.1 ≤ 1000
  w : r.2.2.isSome = w
  b0 : 0 ≤ rb r
  bb : Builtin.Int.intBits (rb r) ≤ 1000
structure Rb (r : Run) : Prop where
  cb : Builtin.Int.intBits r.1 ≤ 5000
  ab : Builtin.Int.intBits r.2.1 ≤ 5000
  bb : Builtin.Int.intBits (rb r) ≤ 5000
theorem OkRun.rb {w : Bool} {r : Run} (h : OkRun w r) : Rb r := ⟨by have := h.cb; omega, by have := h.ab; omega, by have := h.bb; omega⟩
def Ok (w : Bool) (l : List Run) : Prop := ∀ r ∈ l, OkRun w r
abbrev gE (r : Run) : Int := r.1 * (r.2.1 + rb r)
abbrev gR (r : Run) : Int := r.1 * max r.2.1 (rb r)
abbrev gS (r : Run) : Int := r.2.1 + rb r
abbrev gA (r : Run) : Int := r.2.1
def tot (g : Run → Int) (l : List Run) : Int := (l.map g).sum
def top_ (g : Run → Int) (l : List Run) : Int := maxI (0 :: l.map g)
def FV (l : List Run) : D := five (tot gE l) (tot gR l) (top_ gS l) (max (top_ gA l) (top_ rb l)) (top_ gA l + top_ rb l)
theorem tot_cons {g : Run → Int} {r : Run} {l : List Run} : tot g (r :: l) = g r + tot g l := by unfold tot; simp
theorem tot_app {g : Run → Int} {l k : List Run} : tot g (l ++ k) = tot g l + tot g k := by
  induction l with
  | nil => simp [tot]
  | cons r l ih => rw [List.cons_append, tot_cons, tot_cons, ih, Int.add_assoc]
theorem top_le {g : Run → Int} {l : List Run} {b : Int} : top_ g l ≤ b ↔ 0 ≤ b ∧ ∀ r ∈ l, g r ≤ b := by
  unfold top_
  induction l with
  | nil => simp [maxI]
  | cons r l ih =>
    have key : maxI (0 :: (r :: l).map g) = max (g r) (maxI (0 :: l.map g)) := by
      cases l with
      | nil => show max 0 (g r) = max (g r) 0; omega
      | cons s l => show max 0 (max (g r) (maxI ((s :: l).map g))) = max (g r) (max 0 (maxI ((s :: l).map g))); omega
    rw [key]
    simp only [List.mem_cons, forall_eq_or_imp]
    constructor
    · intro h
      have := ih.mp (by omega)
      exact ⟨this.1, by omega, this.2⟩
    · rintro ⟨h1, h2, h3⟩
      have := ih.mpr ⟨h1, h3⟩
      omega
theorem top_ext {g : Run → Int} {l k : List Run} (h : ∀ b : Int, 0 ≤ b → ((∀ r ∈ l, g r ≤ b) ↔ ∀ r ∈ k, g r ≤ b)) : top_ g l = top_ g k := by
  have h1 : top_ g l ≤ top_ g k := by
    have := (top_le (g := g) (l := k) (b := top_ g k)).mp (Int.le_refl _)
    exact top_le.mpr ⟨this.1, (h _ this.1).mpr this.2⟩
  have h2 : top_ g k ≤ top_ g l := by
    have := (top_le (g := g) (l := l) (b := top_ g l)).mp (Int.le_refl _)
    exact top_le.mpr ⟨this.1, (h _ this.1).mp this.2⟩
  omega
theorem top_nn {g : Run → Int} {l : List Run} : 0 ≤ top_ g l := ((top_le (g := g) (l := l) (b := top_ g l)).mp (Int.le_refl _)).1
theorem top_snoc {g : Run → Int} {l : List Run} {r : Run} : top_ g (l ++ [r]) = max (top_ g l) (g r) := by
  have a := (top_le (g := g) (l := l ++ [r]) (b := top_ g (l ++ [r]))).mp (Int.le_refl _)
  have b := (top_le (g := g) (l := l) (b := top_ g l)).mp (Int.le_refl _)
  have h1 : top_ g (l ++ [r]) ≤ max (top_ g l) (g r) := by
    refine top_le.mpr ⟨by have := b.1; omega, fun s hs => ?_⟩
    rcases List.mem_append.mp hs with hs | hs
    · have := b.2 s hs; omega
    · rw [List.mem_singleton.mp hs]; omega
  have h2 : top_ g l ≤ top_ g (l ++ [r]) := top_le.mpr ⟨a.1, fun s hs => a.2 s (List.mem_append.mpr (.inl hs))⟩
  have h3 := a.2 r (by simp)
  omega
theorem tot_snoc {g : Run → Int} {l : List Run} {r : Run} : tot g (l ++ [r]) = tot g l + g r := by
  rw [tot_app, tot_cons]; simp [tot]
theorem top_eq {g h : Run → Int} {l : List Run} (e : ∀ r ∈ l, g r = h r) : top_ g l = top_ h l := by
  unfold top_; rw [List.map_congr_left e]
theorem tot_eq {g h : Run → Int} {l : List Run} (e : ∀ r ∈ l, g r = h r) : tot g l = tot h l := by
  unfold tot; rw [List.map_congr_left e]
theorem top_zero {g : Run → Int} {l : List Run} (e : ∀ r ∈ l, g r = 0) : top_ g l = 0 := by
  have := top_nn (g := g) (l := l)
  have : top_ g l ≤ 0 := top_le.mpr ⟨Int.le_refl _, fun r hr => by rw [e r hr]; exact Int.le_refl _⟩
  omega
section
variable {A : Ad} {mu : Mu} {Q : D → Mu → Prop} {E : XD → Mu → Prop} {d : D} {n : Int} {w : Bool} {l : List Run}
theorem sum_map {α : Type} {g : α → Int} {l : List α} : gIL (fun ns => some (.int ns.sum)) mu [.lst (l.map fun r => D.int (g r))] = some (.int (l.map g).sum, mu) := by
  have e : (l.map fun r => D.int (g r)) = (l.map g).map D.int := by rw [List.map_map]; rfl
  rw [e, gSumL]
theorem max_map {α : Type} {g : α → Int} {l : List α} : gMax mu [.lst ([.int 0] ++ l.map fun r => D.int (g r))] = some (.int (maxI (0 :: l.map g)), mu) := by
  have e : (l.map fun r => D.int (g r)) = (l.map g).map D.int := by rw [List.map_map]; rfl
  rw [e]
  exact gMax0
/-- a list of runs, as data or in a cell -/
def Sc (mu : Mu) (v : D) (l : List Run) : Prop := v = .lst (l.map encR) ∨ ∃ n, v = .cell n ∧ mu[n]? = some (.lst (l.map encR))
theorem five_ok {v : D} (hv : Sc mu v l) (h : ∀ r ∈ l, Rb r) (hl : l.length ≤ 1000) : d__law_five A [v] mu = .ok (FV l) mu := by
  refine w_eqO (w_den ?_)
  show wS (m__law_five A [some v, none, none, none, none, none, none, none, none, none] mu) _ _ _ _ _
  unfold m__law_five
  have go : ∀ p0 : Its, heldI p0 mu → ∀ N : DEnv → Mu → Prop, ∀ R : D → Mu → Prop, (∀ x6 x7 x8 x9, N [some v, some (.int (tot gE l)), some (.int (tot gR l)), some (.int (top_ gS l)), some (.int (top_ gA l)), some (.int (top_ rb l)), x6, x7, x8, x9] mu) →
      wS (forA p0 (mGTup 2 (mGCons (mGName 6) (mGCons (mGName 7) mGNil))) (b__law_five_1 A) (l.map encR) [some v, some (.int 0), some (.int 0), some (.int 0), some (.int 0), some (.int 0), none, none, none, none] mu) N R no2 no2 no2 := by
    intro p0 hp0 N R hN
    refine s_forAE encR (fun xs env m => m = mu ∧ ∃ (p : List Run) (x6 x7 x8 x9 : Option D), l = p ++ xs ∧ env = [some v, some (.int (tot gE p)), some (.int (tot gR p)), some (.int (top_ gS p)), some (.int (top_ gA p)), some (.int (top_ rb p)), x6, x7, x8, x9]) (fun _ _ _ h => by rw [h.1]; exact hp0) l ?_ ?_ ?_
    · exact ⟨rfl, [], none, none, none, none, rfl, rfl⟩
    · rintro ⟨c, a, o⟩ rest env m ⟨rfl, p, x6, x7, x8, x9, e, rfl⟩
      have ok := h (c, a, o) (by rw [e]; simp)
      have h1 : Builtin.Int.intBits c ≤ 5000 := ok.cb
      have h2 : Builtin.Int.intBits a ≤ 5000 := ok.ab
      have h3 : Builtin.Int.intBits (o.getD 0) ≤ 5000 := ok.bb
      have h4 := intBits_add_le h2 h3
      have h5 : Builtin.Int.intBits (max a (o.getD 0)) ≤ 5000 := by
        have : max a (o.getD 0) = a ∨ max a (o.getD 0) = o.getD 0 := by omega
        rcases this with e | e <;> rw [e] <;> assumption
      have m1 : mulB c (a + o.getD 0) = true := mulB_ok (by omega) (by omega)
      have m2 : mulB c (max a (o.getD 0)) = true := mulB_ok (by omega) (by omega)
      have fin : ∀ y6 y7 y8 y9 : Option D, m = m ∧ ∃ (q : List Run) (x6 x7 x8 x9 : Option D), l = q ++ rest ∧ [some v, some (.int (tot gE p + c * (a + o.getD 0))), some (.int (tot gR p + c * max a (o.getD 0))), some (.int (max (top_ gS p) (a + o.getD 0))), some (.int (max (top_ gA p) a)), some (.int (max (top_ rb p) (o.getD 0))), y6, y7, y8, y9] = [some v, some (.int (tot gE q)), some (.int (tot gR q)), some (.int (top_ gS q)), some (.int (top_ gA q)), some (.int (top_ rb q)), x6, x7, x8, x9] := by
        intro y6 y7 y8 y9
        refine ⟨rfl, p ++ [(c, a, o)], y6, y7, y8, y9, by rw [e]; simp, ?_⟩
        rw [tot_snoc, tot_snoc, top_snoc, top_snoc, top_snoc]
      unfold b__law_five_1
      cases o with
      | none =>
        show wR (mGTup 2 _ (.tup [.int c, .int a]) _ m) _ _
        have m1 : mulB c (a + 0) = true := m1
        have m2 : mulB c (max a 0) = true := m2
        (repeat' (first | (refine go1 ?_) | fail "wn"))
        exact (fin _ _ _ _).2
      | some b =>
        show wR (mGTup 2 _ (.tup [.int c, .tup [.int a, .int b]]) _ m) _ _
        have m1 : mulB c (a + b) = true := m1
        have m2 : mulB c (max a b) = true := m2
        (repeat' (first | (refine go1 ?_) | fail "wn"))
        exact (fin _ _ _ _).2
    · rintro env m ⟨rfl, p, x6, x7, x8, x9, e, rfl⟩
      rw [List.append_nil] at e
      subst e
      exact hN _ _ _ _
  rcases hv with rfl | ⟨k, rfl, hk⟩
  · (repeat' (first | (refine go1 ?_) | fail "wn"))
    rw [← forA_none (l0 := l.map encR)]
    refine go _ (fun _ e => by cases e) _ _ ?_
    intro x6 x7 x8 x9
    (repeat' (first | (refine go1 ?_) | fail "wn"))
    try exact ⟨rfl, rfl⟩
  · (repeat' (first | (refine go1 ?_) | fail "wn"))
    refine its_c hk ?_
    refine go (some k, l.map encR) (fun n e => by cases e; exact hk) _ _ ?_
    intro x6 x7 x8 x9
    (repeat' (first | (refine go1 ?_) | fail "wn"))
    try exact ⟨rfl, rfl⟩
end
end K24

namespace K24
open PySem L2 DL
section
variable {A : Ad} {mu : Mu} {Q : D → Mu → Prop} {E : XD → Mu → Prop} {T : List (Addr × Str)} {n : Nat} {l : List Run}
theorem sum_bits {g : Run → Int} {B : Nat} : ∀ {l : List Run}, (∀ x ∈ l, Builtin.Int.intBits (g x) ≤ B) → Builtin.Int.intBits (tot g l) ≤ B + l.length
  | [], _ => by simp [tot, Builtin.Int.intBits]
  | x :: l, h => by
    have h1 := h x List.mem_cons_self
    have h2 := sum_bits (fun y hy => h y (List.mem_cons_of_mem _ hy))
    have := intBits_add_le h1 h2
    rw [tot_cons]
    simp only [List.length_cons]
    omega
theorem top_in {g : Run → Int} {l : List Run} : top_ g l = 0 ∨ ∃ r ∈ l, top_ g l = g r := by
  induction l with
  | nil => exact .inl rfl
  | cons r l ih =>
    have key : top_ g (r :: l) = max (g r) (top_ g l) := by
      have h1 : top_ g (r :: l) ≤ max (g r) (top_ g l) := by
        have b := (top_le (g := g) (l := l) (b := top_ g l)).mp (Int.le_refl _)
        refine top_le.mpr ⟨by have := b.1; omega, fun s hs => ?_⟩
        rcases List.mem_cons.mp hs with rfl | hs
        · omega
        · have := b.2 s hs; omega
      have a := (top_le (g := g) (l := r :: l) (b := top_ g (r :: l))).mp (Int.le_refl _)
      have h2 : top_ g l ≤ top_ g (r :: l) := top_le.mpr ⟨a.1, fun s hs => a.2 s (List.mem_cons_of_mem _ hs)⟩
      have h3 := a.2 r List.mem_cons_self
      omega
    have : max (g r) (top_ g l) = g r ∨ max (g r) (top_ g l) = top_ g l := by omega
    rw [key]
    rcases this with e | e
    · exact .inr ⟨r, List.mem_cons_self, e⟩
    · rw [e]
      rcases ih with e | ⟨s, hs, e⟩
      · exact .inl e
      · exact .inr ⟨s, List.mem_cons_of_mem _ hs, e⟩
theorem top_bits {g : Run → Int} {B : Nat} (h : ∀ x ∈ l, Builtin.Int.intBits (g x) ≤ B) : Builtin.Int.intBits (top_ g l) ≤ B := by
  rcases top_in (g := g) (l := l) with e | ⟨r, hr, e⟩
  · rw [e]; exact Nat.zero_le _
  · rw [e]; exact h r hr
end
theorem p10_20 {mu : Mu} : gPow mu (.int 10) (.int 20) = some (.int (10 ^ 20), mu) := by kernel_rfl
theorem p10_25 {mu : Mu} : gPow mu (.int 10) (.int 25) = some (.int (10 ^ 25), mu) := by kernel_rfl
theorem p10_60 {mu : Mu} : gPow mu (.int 10) (.int 60) = some (.int (10 ^ 60), mu) := by kernel_rfl
theorem p60_5 {mu : Mu} : gPow mu (.int (10 ^ 60)) (.int 5) = some (.int (10 ^ 300), mu) := by kernel_rfl
theorem bits_take {r m : Int} {n : Nat} (h0 : 0 ≤ r) (h1 : r < m) (hm : m.natAbs < 2 ^ n) : Builtin.Int.intBits r ≤ n := bits_of (Nat.lt_of_le_of_lt (by omega) hm)
/-- an int between, from a written list -/
def intIn (lo hi : Int) : D → Bool
  | .int i => decide (lo ≤ i ∧ i ≤ hi)
  | _ => false
theorem pint {lo hi : Int} {d : D} {ds : List D} (h : d ∈ ds) (hb : ds.all (intIn lo hi) = true) : ∃ i, d = .int i ∧ lo ≤ i ∧ i ≤ hi := by
  have := List.all_eq_true.mp hb d h
  cases d with
  | int i => exact ⟨i, rfl, of_decide_eq_true this⟩
  | _ => cases this
def big : Int := 10 ^ 300
theorem log_of {t : Int} {n : Nat} (h : t.natAbs < 2 ^ n) (hn : n ≤ 8999) : t.natAbs.log2 < 9000 := by
  by_cases z : t.natAbs = 0
  · rw [z]; decide
  · have := (Nat.log2_lt z).mpr h; omega
theorem natAbs_lt {t hi : Int} {n : Nat} (h0 : 0 ≤ t) (h1 : t ≤ hi) (hh : hi.natAbs < 2 ^ n) : t.natAbs < 2 ^ n := Nat.lt_of_le_of_lt (by omega) hh
theorem big_lt : (10 ^ 300 : Int).natAbs < 2 ^ 1000 := by decide +kernel
def Top (t : Int) : Prop := t.natAbs < 2 ^ 1000
theorem e20_lt : (10 ^ 20 : Int).natAbs < 2 ^ 70 := by decide +kernel
def Cnt (t : Int) : Prop := t.natAbs < 2 ^ 70
theorem cnt_of {d : D} (h : d ∈ ([.int 1, .int 1, .int 3, .int (10 ^ 20)] : List D)) : ∃ c, d = .int c ∧ 0 < c ∧ Cnt c ∧ c.natAbs.log2 < 9000 := by
  simp only [List.mem_cons, List.not_mem_nil, or_false] at h
  rcases h with rfl | rfl | rfl | rfl
  all_goals exact ⟨_, rfl, by decide +kernel, by unfold Cnt; decide +kernel, by decide +kernel⟩
theorem okrun {a b c t : Int} {o : Option Int} {w : Bool} (b0 : 0 ≤ b) (b1 : b < c) (hc : Cnt c) (a0 : 0 ≤ a) (a1 : a < t) (ht : Top t) (hw : o.isSome = w) (ho : ∀ z, o = some z → 0 ≤ z ∧ z < t) : OkRun w (1 + b, a, o) where
  c1 := by show 1 ≤ 1 + b; omega
  cb := by
    have := intBits_add_le (show Builtin.Int.intBits 1 ≤ 1 by decide) (bits_take b0 b1 hc)
    show Builtin.Int.intBits (1 + b) ≤ 100
    omega
  a0 := a0
  ab := bits_take a0 a1 ht
  w := hw
  b0 := by
    cases o with
    | none => exact Int.le_refl _
    | some z => exact (ho z rfl).1
  bb := by
    cases o with
    | none => exact Nat.zero_le _
    | some z => exact bits_take (ho z rfl).1 (ho z rfl).2 ht
section
variable {A : Ad} {mu : Mu} {Q : D → Mu → Prop} {E : XD → Mu → Prop} {T : List (Addr × Str)} {n : Nat}
end
structure Bd (B : Nat) (x : Int) : Prop where
  p : 0 ≤ x
  b : Builtin.Int.intBits x ≤ B
theorem Bd.mono {B C : Nat} {x : Int} (h : Bd B x) (l : B ≤ C) : Bd C x := ⟨h.p, Nat.le_trans h.b l⟩
theorem Bd.add {B C : Nat} {x y : Int} (h : Bd B x) (k : Bd C y) : Bd (max B C + 1) (x + y) := ⟨Int.add_nonneg h.p k.p, intBits_add_le h.b k.b⟩
theorem Bd.mul {B C : Nat} {x y : Int} (h : Bd B x) (k : Bd C y) : Bd (B + C) (x * y) := ⟨Int.mul_nonneg h.p k.p, intBits_mul_le h.b k.b⟩
theorem Bd.max {B : Nat} {x y : Int} (h : Bd B x) (k : Bd B y) : Bd B (Max.max x y) := by
  have : Max.max x y = x ∨ Max.max x y = y := by omega
  rcases this with e | e <;> rw [e] <;> assumption
theorem Bd.zero {B : Nat} : Bd B 0 := ⟨by decide, Nat.zero_le _⟩
theorem Bd.am {B : Nat} {e r i m t : Int} (hB : B ≤ 10000000) (h1 : Bd B e) (h2 : Bd B r) (h3 : Bd B i) (h4 : Bd B m) (h5 : Bd B t) : Am e r i m t :=
  ⟨h1.p, h2.p, h3.p, h4.p, h5.p, by have := h1.b; omega, by have := h2.b; omega, by have := h3.b; omega, by have := h4.b; omega, by have := h5.b; omega⟩
theorem Bd.mulB {B C : Nat} {x y : Int} (h : Bd B x) (k : Bd C y) (hB : B ≤ 60000000) (hC : C ≤ 60000000) : mulB x y = true := mulB_ok (by have := h.b; omega) (by have := k.b; omega)
structure FvD (l : List Run) : Prop where
  e : Bd 1200 (tot gE l)
  r : Bd 1200 (tot gR l)
  i : Bd 1200 (top_ gS l)
  m : Bd 1200 (max (top_ gA l) (top_ rb l))
  t : Bd 1200 (top_ gA l + top_ rb l)
theorem tot_nn {g : Run → Int} {l : List Run} (h : ∀ r ∈ l, 0 ≤ g r) : 0 ≤ tot g l := by
  induction l with
  | nil => exact Int.le_refl _
  | cons r l ih =>
    rw [tot_cons]
    have := h r List.mem_cons_self
    have := ih fun s hs => h s (List.mem_cons_of_mem _ hs)
    omega
theorem fv_bd {w : Bool} {l : List Run} (h : Ok w l) (hl : l.length ≤ 40) : FvD l := by
  have bS : ∀ r ∈ l, Builtin.Int.intBits (gS r) ≤ 1001 := fun r hr => by
    have := intBits_add_le (h r hr).ab (h r hr).bb
    show Builtin.Int.intBits (r.2.1 + rb r) ≤ 1001; omega
  have bM : ∀ r ∈ l, Builtin.Int.intBits (max r.2.1 (rb r)) ≤ 1001 := fun r hr => by
    have h1 := (h r hr).ab
    have h2 := (h r hr).bb
    have : max r.2.1 (rb r) = r.2.1 ∨ max r.2.1 (rb r) = rb r := by omega
    rcases this with e | e <;> rw [e] <;> omega
  have bA := top_bits (g := gA) (l := l) (B := 1000) fun r hr => (h r hr).ab
  have bB := top_bits (g := rb) (l := l) (B := 1000) fun r hr => (h r hr).bb
  have nA := top_nn (g := gA) (l := l)
  have nB := top_nn (g := rb) (l := l)
  constructor
  · refine ⟨tot_nn fun r hr => Int.mul_nonneg (by have := (h r hr).c1; omega) (by have := (h r hr).a0; have := (h r hr).b0; omega), ?_⟩
    have := sum_bits (g := gE) (l := l) (B := 1101) fun r hr => intBits_mul_le (h r hr).cb (bS r hr)
    omega
  · refine ⟨tot_nn fun r hr => Int.mul_nonneg (by have := (h r hr).c1; omega) (by have := (h r hr).a0; have := (h r hr).b0; omega), ?_⟩
    have := sum_bits (g := gR) (l := l) (B := 1101) fun r hr => intBits_mul_le (h r hr).cb (bM r hr)
    omega
  · exact ⟨top_nn, by have := top_bits (g := gS) bS; omega⟩
  · refine ⟨by omega, ?_⟩
    have : max (top_ gA l) (top_ rb l) = top_ gA l ∨ max (top_ gA l) (top_ rb l) = top_ rb l := by omega
    rcases this with e | e <;> rw [e] <;> omega
  · exact ⟨by omega, by have := intBits_add_le bA bB; omega⟩
section
variable {A : Ad} {mu : Mu} {Q : D → Mu → Prop} {E : XD → Mu → Prop} {T : List (Addr × Str)} {n : Nat} {l : List Run}
theorem ix_ints {xs : List Int} {i : Int} (h0 : 0 ≤ i) (h1 : i < xs.length) : ∃ x ∈ xs, atI (xs.map D.int) i = some (.int x) := by
  have hi : i.toNat < xs.length := by omega
  exact ⟨xs[i.toNat], List.getElem_mem hi, atI_get (k := 0) h0 (by rw [List.getElem?_map, List.getElem?_eq_getElem hi]; rfl)⟩
theorem ixN_ok {n : Nat} {i : Int} (h0 : 0 ≤ i) (h1 : i < n) : ixN n i = some i.toNat := by
  unfold ixN
  rw [if_pos h0, if_pos h1]
theorem five_of {v : List Int} (h : v.length = 5) : ∃ e r i m t, v = [e, r, i, m, t] := by
  match v, h with
  | [e, r, i, m, t], _ => exact ⟨e, r, i, m, t, rfl⟩
theorem Bd.pos {B : Nat} {x z : Int} (h : Bd B x) (hz : Builtin.Int.intBits z ≤ B) : Bd (B + 1) (Max.max 0 (x + z)) := by
  have hb := intBits_add_le h.b hz
  have : Max.max 0 (x + z) = 0 ∨ Max.max 0 (x + z) = x + z := by omega
  refine ⟨by omega, ?_⟩
  rcases this with e | e
  · rw [e]; exact Nat.zero_le _
  · rw [e]; omega
end
end K24

namespace K24
open PySem L2 DL
local macro_rules | `(tactic| fail "wn") => `(tactic| (first | (with_reducible apply w_ok) | (with_reducible apply w_C) | (with_reducible apply w_op) | (with_reducible apply w_un) | (with_reducible apply w_test) | (with_reducible apply w_tand) | (with_reducible apply w_tor) | (with_reducible apply w_tnot) | (with_reducible apply w_and) | (with_reducible apply w_or) | (with_reducible apply w_not) | (with_reducible apply w_if) | (with_reducible apply w_chain) | (with_reducible apply w_nil) | (with_reducible apply w_cons) | (with_reducible apply w_tup) | (with_reducible apply w_lst) | (with_reducible apply w_lstC) | (with_reducible apply w_newD) | (with_reducible apply w_call) | (with_reducible apply w_met) | (with_reducible apply w_metC) | (with_reducible apply w_callF) | (with_reducible apply w_callKw) | (with_reducible apply w_sl) | (with_reducible apply w_oN) | (with_reducible apply w_oS) | (with_reducible apply w_disp) | (with_reducible apply w_prN) | (with_reducible apply w_prC) | (with_reducible apply w_gcons) | (with_reducible apply w_gnil) | (with_reducible apply w_seqI) | (with_reducible apply w_rng1) | (with_reducible apply w_zip) | (with_reducible apply w_yes) | (with_reducible apply s_seq) | (with_reducible apply s_skip) | (with_reducible apply s_brk) | (with_reducible apply s_cont) | (with_reducible apply s_retN) | (with_reducible apply s_ret) | (with_reducible apply s_expr) | (with_reducible apply s_asg) | (with_reducible apply s_par) | (with_reducible apply s_par3) | (with_reducible apply s_if) | (with_reducible apply s_for) | (with_reducible apply s_raise) | (with_reducible apply s_set) | (with_reducible apply isBl_i) | (with_reducible apply isInt_i) | (with_reducible apply wB_true) | (with_reducible apply wB_false) | (with_reducible apply wB_not) | (with_reducible apply items_l) | (with_reducible apply items_t) | (with_reducible apply items_r) | (with_reducible apply mkQ_t) | (with_reducible apply mkQ_f) | (with_reducible apply o_neS) | (with_reducible apply o_eqS) | (with_reducible apply o_isn) | (with_reducible apply o_isnn) | (with_reducible apply wO_some) | ((with_reducible apply take_w); (· (repeat' (first | assumption | ((with_reducible apply Dr.app); rotate_left; (· exact rfl)) | ((with_reducible apply Dr.set); rotate_left; (· omega); (· exact rfl))))); (· omega); (· first | assumption | omega | decide); (· first | assumption | decide +kernel); (intro _ _ _ _ _ _)) | ((with_reducible apply pick_w); (· (repeat' (first | assumption | ((with_reducible apply Dr.app); rotate_left; (· exact rfl)) | ((with_reducible apply Dr.set); rotate_left; (· omega); (· exact rfl))))); (· omega); (· (first | (simp only [List.length_cons, List.length_nil, List.length_map, List.length_append, List.length_set, List.length_range, List.length_take, List.length_drop]; omega) | decide | omega)); (· (first | (simp only [List.length_cons, List.length_nil, List.length_map, List.length_append, List.length_set, List.length_range, List.length_take, List.length_drop]; omega) | decide | omega)); (intro _ _ _ _ _)) | ((with_reducible apply w_var); (· exact rfl)) | ((with_reducible apply w_gname); (· (simp only [List.set_cons_succ, List.set_cons_zero, wipeD]; exact rfl))) | ((with_reducible apply par2_i); (· (simp only [List.set_cons_succ, List.set_cons_zero, wipeD]; exact rfl))) | ((with_reducible apply par3_i); (· (simp only [List.set_cons_succ, List.set_cons_zero, wipeD]; exact rfl))) | ((with_reducible apply w_gtup); (· exact rfl)) | ((with_reducible apply len_and); (· exact rfl)) | ((with_reducible apply lim_and); (· (first | (simp only [List.length_cons, List.length_nil, List.length_map, List.length_append, List.length_set, List.length_range, List.length_take, List.length_drop]; omega) | decide | omega))) | ((with_reducible apply w_lcE); (· (simp only [List.set_cons_succ, List.set_cons_zero, wipeD]; exact rfl))) | ((with_reducible apply rng1_i); (· omega)) | ((with_reducible apply zip_i); (· exact rfl)) | ((with_reducible apply kw_i); (· exact rfl); (· first | exact p0 | exact p10 | exact p01 | exact p210 | exact p120 | exact p201 | exact p021 | exact p102); (· exact rfl)) | ((with_reducible apply wB_t); (· (first | assumption | (exact decide_eq_true (by omega)) | (exact decide_eq_false (by omega)) | decide))) | ((with_reducible apply wB_f); (· (first | assumption | (exact decide_eq_true (by omega)) | (exact decide_eq_false (by omega)) | decide))) | (with_reducible refine wO_eq (gMul_ok (by assumption)) ?_) | (with_reducible refine wO_eq (gAdd_ok) ?_) | (with_reducible refine wO_eq (gSub_ok) ?_) | (with_reducible refine wO_eq (gEqI) ?_) | (with_reducible refine wO_eq (gNeI) ?_) | (with_reducible refine wO_eq (gLt_ok) ?_) | (with_reducible refine wO_eq (gLe_ok) ?_) | (with_reducible refine wO_eq (gGt_ok) ?_) | (with_reducible refine wO_eq (gGe_ok) ?_) | (with_reducible refine wO_eq (gInt_ok) ?_) | (with_reducible refine wO_eq (gAddL (by rfl)) ?_) | (with_reducible refine wO_eq (gSumL) ?_) | (with_reducible refine wO_eq (gMax2) ?_) | (with_reducible refine wO_eq (gMin2) ?_) | (with_reducible refine wO_eq (gMaxP) ?_) | (with_reducible refine wO_eq (gMax0) ?_) | (with_reducible refine wO_eq (gAllL) ?_) | (with_reducible refine wO_eq (gTupL) ?_) | (with_reducible refine wO_eq (gTupT) ?_) | (with_reducible refine wO_eq (gListT) ?_) | (with_reducible refine wO_eq (gLenT) ?_) | (with_reducible refine wO_eq (gLenL) ?_) | (with_reducible refine wO_eq (gIsiT) ?_) | ((with_reducible apply o_append); (· (repeat' (first | assumption | exact c_last | (with_reducible apply c_app) | (with_reducible apply c_set) | ((with_reducible apply c_setne); (· omega)) | ((with_reducible apply c_ex); (· assumption); (· omega))))); (· (first | (simp only [List.length_cons, List.length_nil, List.length_map, List.length_append, List.length_set, List.length_range, List.length_take, List.length_drop]; omega) | decide | omega))) | ((with_reducible apply o_tupC); (· (repeat' (first | assumption | exact c_last | (with_reducible apply c_app) | (with_reducible apply c_set) | ((with_reducible apply c_setne); (· omega)) | ((with_reducible apply c_ex); (· assumption); (· omega)))))) | ((with_reducible apply o_lenC); (· (repeat' (first | assumption | exact c_last | (with_reducible apply c_app) | (with_reducible apply c_set) | ((with_reducible apply c_setne); (· omega)) | ((with_reducible apply c_ex); (· assumption); (· omega)))))) | ((with_reducible apply o_addL); (· (first | (simp only [List.length_cons, List.length_nil, List.length_map, List.length_append, List.length_set, List.length_range, List.length_take, List.length_drop]; omega) | decide | omega))) | ((with_reducible apply o_addT); (· (first | (simp only [List.length_cons, List.length_nil, List.length_map, List.length_append, List.length_set, List.length_range, List.length_take, List.length_drop]; omega) | decide | omega))) | ((with_reducible apply isl_c); (· (repeat' (first | assumption | exact c_last | (with_reducible apply c_app) | (with_reducible apply c_set) | ((with_reducible apply c_setne); (· omega)) | ((with_reducible apply c_ex); (· assumption); (· omega)))))) | (with_reducible apply isl_l) | ((with_reducible apply s_frz); (· exact rfl); (· (repeat' (first | assumption | exact c_last | (with_reducible apply c_app) | (with_reducible apply c_set) | ((with_reducible apply c_setne); (· omega)) | ((with_reducible apply c_ex); (· assumption); (· omega)))))) | ((with_reducible apply s_frz0); (· exact rfl); (· intro _ z; cases z)) | ((with_reducible apply wO_eq); (· exact rfl)) | (with_reducible exact rfl)))
/-! items for five amounts -/
def posR (l : List Run) : List Run := l.filter fun r => decide (0 < r.1)
def P1 (E R M T : Int) : List Run := [(1, M, some (T - M)), (2 * (R - M) - (E - T), 1, some 0), ((E - T) - (R - M), 1, some 1)]
def P2f (E R I M T : Int) : Int := max 0 (E - I - (T - M) - 2 * R + 2 * T)
def P2 (E R I M T : Int) : List Run := [(1, M, some (I - M)), (1, P2f E R I M T, some (T - M)), (2 * (R - T) - (E - I - (T - M) - P2f E R I M T), 1, some 0), ((E - I - (T - M) - P2f E R I M T) - (R - T), 1, some 1)]
def tms (i : Int) : Int := if i = 1 then 2 else 1
def has (n e r i m t : Int) : Bool := !((KD n e r i m t).isEmpty || ((decide (m = 0) && decide (0 < e)) || (decide (n = 2) && (decide (t = m) && !decide (r = e)))))
def ITk (n i m : Int) : Int := if m = 0 ∨ n = 1 then 1 else tms i
def ITl (n e r i m t : Int) : List Run := if m = 0 then [] else if n = 1 then posR [(1, m, none), (e - m, 1, none)] else
  if K1 e r i m t = true then posR (P1 (tms i * e) (tms i * r) (tms i * m) (tms i * t)) else posR (P2 (tms i * e) (tms i * r) (tms i * i) (tms i * m) (tms i * t))
section
variable {A : Ad} {mu : Mu} {Q : D → Mu → Prop} {E : XD → Mu → Prop} {e r i m t n : Int}
def KO (l : List Str) : Prop := l = [] ∨ l = (["one"] : List Str) ∨ l = (["two"] : List Str) ∨ l = (["one", "two"] : List Str)
theorem kd_ko : KO (KD n e r i m t) := by
  unfold KD KD1 KD2 KO
  cases B1 e r i m t <;> cases K1 e r i m t <;> cases K2 e r i m t <;> by_cases h : n = 1 <;> simp [h]
theorem kd_e : gEq false mu (.lst ((KD n e r i m t).map D.str)) (.lst []) = some (.bl (KD n e r i m t).isEmpty, mu) := by
  rcases (kd_ko : KO (KD n e r i m t)) with h | h | h | h <;> rw [h] <;> kernel_rfl
theorem items_no (a : Am e r i m t) (h1 : 1 ≤ n) (h2 : n ≤ 2) (h : has n e r i m t = false) : d_items_for A [.int n, five e r i m t] mu = .ok .non mu := by
  refine w_eqO (w_den ?_)
  show wS (m_items_for A [some (.int n), some (five e r i m t), none, none, none, none, none, none, none, none, none, none, none] mu) _ _ _ _ _
  unfold m_items_for
  cases hk : (KD n e r i m t).isEmpty with
  | true =>
    have ke := kd_e (mu := mu) (n := n) (e := e) (r := r) (i := i) (m := m) (t := t)
    rw [hk] at ke
    (repeat' (first | (refine go1 ?_) | (with_reducible refine w_eq (kinds_ok a h1 h2) ?_) | (with_reducible refine wO_eq (kinds_ok a h1 h2) ?_) | (with_reducible refine w_eq (ke) ?_) | (with_reducible refine wO_eq (ke) ?_) | fail "wn"))
  | false =>
    have ke := kd_e (mu := mu) (n := n) (e := e) (r := r) (i := i) (m := m) (t := t)
    rw [hk] at ke
    have hh : (m = 0 ∧ 0 < e) ∨ (n = 2 ∧ t = m ∧ ¬ r = e) := by
      unfold has at h
      rw [hk] at h
      have hz : ¬m = 0 ∨ e ≤ 0 → n = 2 ∧ t = m ∧ ¬r = e := by simpa using h
      by_cases z : ¬m = 0 ∨ e ≤ 0
      · exact .inr (hz z)
      · exact .inl (by omega)
    by_cases hm : m = 0
    · by_cases he : 0 < e
      · (repeat' (first | (refine go1 ?_) | (with_reducible refine w_eq (kinds_ok a h1 h2) ?_) | (with_reducible refine wO_eq (kinds_ok a h1 h2) ?_) | (with_reducible refine w_eq (ke) ?_) | (with_reducible refine wO_eq (ke) ?_) | fail "wn"))
      · have h3 : n = 2 ∧ t = m ∧ ¬ r = e := by omega
        obtain ⟨x1, x2, x3⟩ := h3
        (repeat' (first | (refine go1 ?_) | (with_reducible refine w_eq (kinds_ok a h1 h2) ?_) | (with_reducible refine wO_eq (kinds_ok a h1 h2) ?_) | (with_reducible refine w_eq (ke) ?_) | (with_reducible refine wO_eq (ke) ?_) | fail "wn"))
    · have h3 : n = 2 ∧ t = m ∧ ¬ r = e := by omega
      obtain ⟨x1, x2, x3⟩ := h3
      (repeat' (first | (refine go1 ?_) | (with_reducible refine w_eq (kinds_ok a h1 h2) ?_) | (with_reducible refine wO_eq (kinds_ok a h1 h2) ?_) | (with_reducible refine w_eq (ke) ?_) | (with_reducible refine wO_eq (ke) ?_) | fail "wn"))
theorem num_for : d_numbers_for A [five e r i m t] mu = .ok (.lst (([(1, m, none), (e - m, 1, none)] : List Run).map encR)) mu := by
  refine w_eqO (w_den ?_)
  show wS (m_numbers_for A [some (five e r i m t), none, none] mu) _ _ _ _ _
  unfold m_numbers_for
  (repeat' (first | (refine go1 ?_) | fail "wn"))
  try exact ⟨rfl, rfl⟩
theorem one_for (be : Bd 3000 e) (br : Bd 3000 r) (bm : Bd 3000 m) : d_pairs_for_one A [five e r i m t] mu = .ok (.lst ((P1 e r m t).map encR)) mu := by
  refine w_eqO (w_den ?_)
  show wS (m_pairs_for_one A [some (five e r i m t), none, none, none, none, none, none, none] mu) _ _ _ _ _
  have m2 : mulB 2 (r - m) = true := mulB_ok (by have := bits2; omega) (by have := intBits_add_le br.b (show Builtin.Int.intBits (-m) ≤ 3000 by have := bm.b; unfold Builtin.Int.intBits at this ⊢; simpa using this); rw [← Int.sub_eq_add_neg] at this; omega)
  unfold m_pairs_for_one
  (repeat' (first | (refine go1 ?_) | fail "wn"))
  try exact ⟨rfl, rfl⟩
theorem fil_pos (xs : List Run) (hl : xs.length ≤ 10) {env0 : DEnv} {b : Bool} (he : ∃ x0 x1 x2 x3 x4 x5 x6 x7 x9 x10 x11 x12, env0 = [x0, x1, x2, x3, x4, x5, x6, x7, none, x9, x10, x11, x12]) (q : mkQ b Q ((posR xs).map encR) mu) :
    wR (lcL (mGName 8) (mTest (mOp gGt (mOp gIx (mVar 8) (mC (.int 0))) (mC (.int 0)))) (mVar 8) env0 (xs.map encR) [] mu) (mkQ b Q) E := by
  obtain ⟨x0, x1, x2, x3, x4, x5, x6, x7, x9, x10, x11, x12, rfl⟩ := he
  refine w_lcFil encR (fun r : Run => decide (0 < r.1)) encR xs (fun r hr => ?_) (by omega) q
  (repeat' (first | (refine go1 ?_) | fail "wn"))
  try intro _
  (repeat' (first | (refine go1 ?_) | fail "wn"))
theorem neg_bits {x : Int} {B : Nat} (h : Builtin.Int.intBits x ≤ B) : Builtin.Int.intBits (-x) ≤ B := by
  unfold Builtin.Int.intBits at h ⊢
  simpa using h
theorem sub_bits {x y : Int} {B C : Nat} (h : Builtin.Int.intBits x ≤ B) (k : Builtin.Int.intBits y ≤ C) : Builtin.Int.intBits (x - y) ≤ max B C + 1 := by
  rw [Int.sub_eq_add_neg]
  exact intBits_add_le h (neg_bits k)
theorem two_for (be : Bd 3000 e) (br : Bd 3000 r) (bi : Bd 3000 i) (bm : Bd 3000 m) (bt : Bd 3000 t) : d_pairs_for_two A [five e r i m t] mu = .ok (.lst ((P2 e r i m t).map encR)) mu := by
  refine w_eqO (w_den ?_)
  show wS (m_pairs_for_two A [some (five e r i m t), none, none, none, none, none, none, none, none, none] mu) _ _ _ _ _
  have m2 : mulB 2 (r - t) = true := mulB_ok (by have := bits2; omega) (by have := sub_bits br.b bt.b; omega)
  have m3 : mulB 2 r = true := mulB_ok (by have := bits2; omega) (by have := br.b; omega)
  have m4 : mulB 2 t = true := mulB_ok (by have := bits2; omega) (by have := bt.b; omega)
  unfold m_pairs_for_two
  (repeat' (first | (refine go1 ?_) | (with_reducible refine w_eq (gMaxP) ?_) | (with_reducible refine wO_eq (gMaxP) ?_) | fail "wn"))
  try exact ⟨rfl, rfl⟩
end
end K24

namespace K24
open PySem L2 DL
local macro_rules | `(tactic| fail "wn") => `(tactic| (first | (with_reducible apply w_ok) | (with_reducible apply w_C) | (with_reducible apply w_op) | (with_reducible apply w_un) | (with_reducible apply w_test) | (with_reducible apply w_tand) | (with_reducible apply w_tor) | (with_reducible apply w_tnot) | (with_reducible apply w_and) | (with_reducible apply w_or) | (with_reducible apply w_not) | (with_reducible apply w_if) | (with_reducible apply w_chain) | (with_reducible apply w_nil) | (with_reducible apply w_cons) | (with_reducible apply w_tup) | (with_reducible apply w_lst) | (with_reducible apply w_lstC) | (with_reducible apply w_newD) | (with_reducible apply w_call) | (with_reducible apply w_met) | (with_reducible apply w_metC) | (with_reducible apply w_callF) | (with_reducible apply w_callKw) | (with_reducible apply w_sl) | (with_reducible apply w_oN) | (with_reducible apply w_oS) | (with_reducible apply w_disp) | (with_reducible apply w_prN) | (with_reducible apply w_prC) | (with_reducible apply w_gcons) | (with_reducible apply w_gnil) | (with_reducible apply w_seqI) | (with_reducible apply w_rng1) | (with_reducible apply w_zip) | (with_reducible apply w_yes) | (with_reducible apply s_seq) | (with_reducible apply s_skip) | (with_reducible apply s_brk) | (with_reducible apply s_cont) | (with_reducible apply s_retN) | (with_reducible apply s_ret) | (with_reducible apply s_expr) | (with_reducible apply s_asg) | (with_reducible apply s_par) | (with_reducible apply s_par3) | (with_reducible apply s_if) | (with_reducible apply s_for) | (with_reducible apply s_raise) | (with_reducible apply s_set) | (with_reducible apply isBl_i) | (with_reducible apply isInt_i) | (with_reducible apply wB_true) | (with_reducible apply wB_false) | (with_reducible apply wB_not) | (with_reducible apply items_l) | (with_reducible apply items_t) | (with_reducible apply items_r) | (with_reducible apply mkQ_t) | (with_reducible apply mkQ_f) | (with_reducible apply o_neS) | (with_reducible apply o_eqS) | (with_reducible apply o_isn) | (with_reducible apply o_isnn) | (with_reducible apply wO_some) | ((with_reducible apply take_w); (· (repeat' (first | assumption | ((with_reducible apply Dr.app); rotate_left; (· exact rfl)) | ((with_reducible apply Dr.set); rotate_left; (· omega); (· exact rfl))))); (· omega); (· first | assumption | omega | decide); (· first | assumption | decide +kernel); (intro _ _ _ _ _ _)) | ((with_reducible apply pick_w); (· (repeat' (first | assumption | ((with_reducible apply Dr.app); rotate_left; (· exact rfl)) | ((with_reducible apply Dr.set); rotate_left; (· omega); (· exact rfl))))); (· omega); (· (first | (simp only [List.length_cons, List.length_nil, List.length_map, List.length_append, List.length_set, List.length_range, List.length_take, List.length_drop]; omega) | decide | omega)); (· (first | (simp only [List.length_cons, List.length_nil, List.length_map, List.length_append, List.length_set, List.length_range, List.length_take, List.length_drop]; omega) | decide | omega)); (intro _ _ _ _ _)) | ((with_reducible apply w_var); (· exact rfl)) | ((with_reducible apply w_gname); (· (simp only [List.set_cons_succ, List.set_cons_zero, wipeD]; exact rfl))) | ((with_reducible apply par2_i); (· (simp only [List.set_cons_succ, List.set_cons_zero, wipeD]; exact rfl))) | ((with_reducible apply par3_i); (· (simp only [List.set_cons_succ, List.set_cons_zero, wipeD]; exact rfl))) | ((with_reducible apply w_gtup); (· exact rfl)) | ((with_reducible apply len_and); (· exact rfl)) | ((with_reducible apply lim_and); (· (first | (simp only [List.length_cons, List.length_nil, List.length_map, List.length_append, List.length_set, List.length_range, List.length_take, List.length_drop]; omega) | decide | omega))) | ((with_reducible apply w_lcE); (· (simp only [List.set_cons_succ, List.set_cons_zero, wipeD]; exact rfl))) | ((with_reducible apply rng1_i); (· omega)) | ((with_reducible apply zip_i); (· exact rfl)) | ((with_reducible apply kw_i); (· exact rfl); (· first | exact p0 | exact p10 | exact p01 | exact p210 | exact p120 | exact p201 | exact p021 | exact p102); (· exact rfl)) | ((with_reducible apply wB_t); (· (first | assumption | (exact decide_eq_true (by omega)) | (exact decide_eq_false (by omega)) | decide))) | ((with_reducible apply wB_f); (· (first | assumption | (exact decide_eq_true (by omega)) | (exact decide_eq_false (by omega)) | decide))) | (with_reducible refine wO_eq (gMul_ok (by assumption)) ?_) | (with_reducible refine wO_eq (gAdd_ok) ?_) | (with_reducible refine wO_eq (gSub_ok) ?_) | (with_reducible refine wO_eq (gEqI) ?_) | (with_reducible refine wO_eq (gNeI) ?_) | (with_reducible refine wO_eq (gLt_ok) ?_) | (with_reducible refine wO_eq (gLe_ok) ?_) | (with_reducible refine wO_eq (gGt_ok) ?_) | (with_reducible refine wO_eq (gGe_ok) ?_) | (with_reducible refine wO_eq (gInt_ok) ?_) | (with_reducible refine wO_eq (gAddL (by rfl)) ?_) | (with_reducible refine wO_eq (gSumL) ?_) | (with_reducible refine wO_eq (gMax2) ?_) | (with_reducible refine wO_eq (gMin2) ?_) | (with_reducible refine wO_eq (gMaxP) ?_) | (with_reducible refine wO_eq (gMax0) ?_) | (with_reducible refine wO_eq (gAllL) ?_) | (with_reducible refine wO_eq (gTupL) ?_) | (with_reducible refine wO_eq (gTupT) ?_) | (with_reducible refine wO_eq (gListT) ?_) | (with_reducible refine wO_eq (gLenT) ?_) | (with_reducible refine wO_eq (gLenL) ?_) | (with_reducible refine wO_eq (gIsiT) ?_) | ((with_reducible apply o_append); (· (repeat' (first | assumption | exact c_last | (with_reducible apply c_app) | (with_reducible apply c_set) | ((with_reducible apply c_setne); (· omega)) | ((with_reducible apply c_ex); (· assumption); (· omega))))); (· (first | (simp only [List.length_cons, List.length_nil, List.length_map, List.length_append, List.length_set, List.length_range, List.length_take, List.length_drop]; omega) | decide | omega))) | ((with_reducible apply o_tupC); (· (repeat' (first | assumption | exact c_last | (with_reducible apply c_app) | (with_reducible apply c_set) | ((with_reducible apply c_setne); (· omega)) | ((with_reducible apply c_ex); (· assumption); (· omega)))))) | ((with_reducible apply o_lenC); (· (repeat' (first | assumption | exact c_last | (with_reducible apply c_app) | (with_reducible apply c_set) | ((with_reducible apply c_setne); (· omega)) | ((with_reducible apply c_ex); (· assumption); (· omega)))))) | ((with_reducible apply o_addL); (· (first | (simp only [List.length_cons, List.length_nil, List.length_map, List.length_append, List.length_set, List.length_range, List.length_take, List.length_drop]; omega) | decide | omega))) | ((with_reducible apply o_addT); (· (first | (simp only [List.length_cons, List.length_nil, List.length_map, List.length_append, List.length_set, List.length_range, List.length_take, List.length_drop]; omega) | decide | omega))) | ((with_reducible apply isl_c); (· (repeat' (first | assumption | exact c_last | (with_reducible apply c_app) | (with_reducible apply c_set) | ((with_reducible apply c_setne); (· omega)) | ((with_reducible apply c_ex); (· assumption); (· omega)))))) | (with_reducible apply isl_l) | ((with_reducible apply s_frz); (· exact rfl); (· (repeat' (first | assumption | exact c_last | (with_reducible apply c_app) | (with_reducible apply c_set) | ((with_reducible apply c_setne); (· omega)) | ((with_reducible apply c_ex); (· assumption); (· omega)))))) | ((with_reducible apply s_frz0); (· exact rfl); (· intro _ z; cases z)) | ((with_reducible apply wO_eq); (· exact rfl)) | (with_reducible exact rfl)))
section
variable {A : Ad} {mu : Mu} {Q : D → Mu → Prop} {E : XD → Mu → Prop} {e r i m t n : Int}
theorem kd_first (h : (KD 2 e r i m t).isEmpty = false) : gIx mu (.lst ((KD 2 e r i m t).map D.str)) (.int 0) = some (.str (if K1 e r i m t then ("one" : Str) else ("two" : Str)), mu) := by
  have e1 : KD 2 e r i m t = KD2 e r i m t := rfl
  rw [e1] at h ⊢
  unfold KD2 at h ⊢
  cases h1 : K1 e r i m t with
  | true => cases K2 e r i m t <;> rfl
  | false =>
    cases h2 : K2 e r i m t with
    | true => rfl
    | false => rw [h1, h2] at h; cases h
theorem is_one {c : Bool} : gEq false mu (.str (if c then ("one" : Str) else ("two" : Str))) (.str "one") = some (.bl c, mu) := by
  cases c <;> kernel_rfl
theorem items_yes (be : Bd 1400 e) (br : Bd 1400 r) (bi : Bd 1400 i) (bm : Bd 1400 m) (bt : Bd 1400 t) (h1 : 1 ≤ n) (h2 : n ≤ 2) (h : has n e r i m t = true) :
    d_items_for A [.int n, five e r i m t] mu = .ok (.tup [.int (ITk n i m), .cell mu.length]) (mu ++ [.lst ((ITl n e r i m t).map encR)]) := by
  have a := Bd.am (by decide) be br bi bm bt
  refine w_eqO (mu := mu ++ [.lst ((ITl n e r i m t).map encR)]) (w_den ?_)
  show wS (m_items_for A [some (.int n), some (five e r i m t), none, none, none, none, none, none, none, none, none, none, none] mu) _ _ _ _ _
  have hk : (KD n e r i m t).isEmpty = false := by
    unfold has at h
    cases q : (KD n e r i m t).isEmpty with
    | false => rfl
    | true => rw [q] at h; cases h
  have ke := kd_e (mu := mu) (n := n) (e := e) (r := r) (i := i) (m := m) (t := t)
  rw [hk] at ke
  have hz : (¬ m = 0 ∨ e ≤ 0) ∧ (n = 2 → t = m → r = e) := by
    unfold has at h
    rw [hk] at h
    have hq : (¬m = 0 ∨ e ≤ 0) ∧ (¬n = 2 ∨ ¬t = m ∨ r = e) := by simpa using h
    exact ⟨hq.1, fun p q => by omega⟩
  have hn : n = 1 ∨ n = 2 := by omega
  unfold m_items_for q_items_for_1 q_items_for_2 q_items_for_3
  by_cases hm : m = 0
  · have he : e ≤ 0 := by omega
    have ek : ITk n i m = 1 := by unfold ITk; rw [if_pos (.inl hm)]
    have el : ITl n e r i m t = [] := by unfold ITl; rw [if_pos hm]
    rw [ek, el]
    rcases hn with hn | hn
    · (repeat' (first | (refine go1 ?_) | (with_reducible refine w_eq (kinds_ok a h1 h2) ?_) | (with_reducible refine wO_eq (kinds_ok a h1 h2) ?_) | (with_reducible refine w_eq (ke) ?_) | (with_reducible refine wO_eq (ke) ?_) | fail "wn"))
      first | exact ⟨rfl, rfl⟩ | exact rfl
    · by_cases ht : t = m
      · have hr := hz.2 hn ht
        (repeat' (first | (refine go1 ?_) | (with_reducible refine w_eq (kinds_ok a h1 h2) ?_) | (with_reducible refine wO_eq (kinds_ok a h1 h2) ?_) | (with_reducible refine w_eq (ke) ?_) | (with_reducible refine wO_eq (ke) ?_) | fail "wn"))
        first | exact ⟨rfl, rfl⟩ | exact rfl
      · (repeat' (first | (refine go1 ?_) | (with_reducible refine w_eq (kinds_ok a h1 h2) ?_) | (with_reducible refine wO_eq (kinds_ok a h1 h2) ?_) | (with_reducible refine w_eq (ke) ?_) | (with_reducible refine wO_eq (ke) ?_) | fail "wn"))
        first | exact ⟨rfl, rfl⟩ | exact rfl
  · rcases hn with hn | hn
    · have ek : ITk n i m = 1 := by unfold ITk; rw [if_pos (.inr hn)]
      have el : ITl n e r i m t = posR [(1, m, none), (e - m, 1, none)] := by unfold ITl; rw [if_neg hm, if_pos hn]
      rw [ek, el]
      (repeat' (first | (refine go1 ?_) | (with_reducible refine w_eq (kinds_ok a h1 h2) ?_) | (with_reducible refine wO_eq (kinds_ok a h1 h2) ?_) | (with_reducible refine w_eq (ke) ?_) | (with_reducible refine wO_eq (ke) ?_) | (with_reducible refine w_eq (num_for) ?_) | (with_reducible refine wO_eq (num_for) ?_) | fail "wn"))
      refine fil_pos _ (by show 2 ≤ 10; decide) ⟨_, _, _, _, _, _, _, _, _, _, _, _, rfl⟩ ?_
      (repeat' (first | (refine go1 ?_) | fail "wn"))
      try first | exact ⟨rfl, rfl⟩ | exact rfl
    · subst hn
      have ek : ITk 2 i m = tms i := by unfold ITk; rw [if_neg (by omega)]
      have el : ITl 2 e r i m t = if K1 e r i m t = true then posR (P1 (tms i * e) (tms i * r) (tms i * m) (tms i * t)) else posR (P2 (tms i * e) (tms i * r) (tms i * i) (tms i * m) (tms i * t)) := by unfold ITl; rw [if_neg hm, if_neg (by decide)]
      rw [ek, el]
      have hc : (t = m ∧ r = e) ∨ ¬ t = m := by
        by_cases ht : t = m
        · exact .inl ⟨ht, hz.2 rfl ht⟩
        · exact .inr ht
      have kf := kd_first (mu := mu) hk
      have bk : Bd 2 (tms i) := by unfold tms; split <;> exact ⟨by decide, by decide⟩
      have ti : (i = 1 ∧ tms i = 2) ∨ (¬ i = 1 ∧ tms i = 1) := by
        unfold tms
        by_cases hi : i = 1
        · exact .inl ⟨hi, if_pos hi⟩
        · exact .inr ⟨hi, if_neg hi⟩
      rcases hc with ⟨hc1, hc2⟩ | hc1
      all_goals
        rcases ti with ⟨hi, tk⟩ | ⟨hi, tk⟩
        · rw [tk] at bk ⊢
          (repeat' (first | (refine go1 ?_) | (with_reducible refine w_eq (kinds_ok a h1 h2) ?_) | (with_reducible refine wO_eq (kinds_ok a h1 h2) ?_) | (with_reducible refine w_eq (ke) ?_) | (with_reducible refine wO_eq (ke) ?_) | fail "wn"))
          refine w_lcMap D.int (fun x => .int (2 * x)) [e, r, i, m, t] ?_ (by simp) ?_
          · intro x hx
            have bx : Bd 1400 x := by
              simp only [List.mem_cons, List.not_mem_nil, or_false] at hx
              rcases hx with rfl | rfl | rfl | rfl | rfl <;> assumption
            have hm := bk.mulB bx (by decide) (by decide)
            (repeat' (first | (refine go1 ?_) | fail "wn"))
          have ce := (bk.mul be).mono (C := 3000) (by decide)
          have cr := (bk.mul br).mono (C := 3000) (by decide)
          have ci := (bk.mul bi).mono (C := 3000) (by decide)
          have cm := (bk.mul bm).mono (C := 3000) (by decide)
          have ct := (bk.mul bt).mono (C := 3000) (by decide)
          (repeat' (first | (refine go1 ?_) | (with_reducible refine w_eq (kf) ?_) | (with_reducible refine wO_eq (kf) ?_) | (with_reducible refine w_eq (is_one) ?_) | (with_reducible refine wO_eq (is_one) ?_) | fail "wn"))
          cases K1 e r i m t with
          | true =>
            rw [if_pos rfl]
            (repeat' (first | (refine go1 ?_) | (with_reducible refine w_eq (one_for ce cr cm) ?_) | (with_reducible refine wO_eq (one_for ce cr cm) ?_) | fail "wn"))
            refine fil_pos _ (by show 3 ≤ 10; decide) ⟨_, _, _, _, _, _, _, _, _, _, _, _, rfl⟩ ?_
            (repeat' (first | (refine go1 ?_) | fail "wn"))
            try first | exact ⟨rfl, rfl⟩ | exact rfl
          | false =>
            rw [if_neg (by decide)]
            (repeat' (first | (refine go1 ?_) | (with_reducible refine w_eq (two_for ce cr ci cm ct) ?_) | (with_reducible refine wO_eq (two_for ce cr ci cm ct) ?_) | fail "wn"))
            refine fil_pos _ (by show 4 ≤ 10; decide) ⟨_, _, _, _, _, _, _, _, _, _, _, _, rfl⟩ ?_
            (repeat' (first | (refine go1 ?_) | fail "wn"))
            try first | exact ⟨rfl, rfl⟩ | exact rfl
        · rw [tk] at bk ⊢
          (repeat' (first | (refine go1 ?_) | (with_reducible refine w_eq (kinds_ok a h1 h2) ?_) | (with_reducible refine wO_eq (kinds_ok a h1 h2) ?_) | (with_reducible refine w_eq (ke) ?_) | (with_reducible refine wO_eq (ke) ?_) | fail "wn"))
          refine w_lcMap D.int (fun x => .int (1 * x)) [e, r, i, m, t] ?_ (by simp) ?_
          · intro x hx
            have bx : Bd 1400 x := by
              simp only [List.mem_cons, List.not_mem_nil, or_false] at hx
              rcases hx with rfl | rfl | rfl | rfl | rfl <;> assumption
            have hm := bk.mulB bx (by decide) (by decide)
            (repeat' (first | (refine go1 ?_) | fail "wn"))
          have ce := (bk.mul be).mono (C := 3000) (by decide)
          have cr := (bk.mul br).mono (C := 3000) (by decide)
          have ci := (bk.mul bi).mono (C := 3000) (by decide)
          have cm := (bk.mul bm).mono (C := 3000) (by decide)
          have ct := (bk.mul bt).mono (C := 3000) (by decide)
          (repeat' (first | (refine go1 ?_) | (with_reducible refine w_eq (kf) ?_) | (with_reducible refine wO_eq (kf) ?_) | (with_reducible refine w_eq (is_one) ?_) | (with_reducible refine wO_eq (is_one) ?_) | fail "wn"))
          cases K1 e r i m t with
          | true =>
            rw [if_pos rfl]
            (repeat' (first | (refine go1 ?_) | (with_reducible refine w_eq (one_for ce cr cm) ?_) | (with_reducible refine wO_eq (one_for ce cr cm) ?_) | fail "wn"))
            refine fil_pos _ (by show 3 ≤ 10; decide) ⟨_, _, _, _, _, _, _, _, _, _, _, _, rfl⟩ ?_
            (repeat' (first | (refine go1 ?_) | fail "wn"))
            try first | exact ⟨rfl, rfl⟩ | exact rfl
          | false =>
            rw [if_neg (by decide)]
            (repeat' (first | (refine go1 ?_) | (with_reducible refine w_eq (two_for ce cr ci cm ct) ?_) | (with_reducible refine wO_eq (two_for ce cr ci cm ct) ?_) | fail "wn"))
            refine fil_pos _ (by show 4 ≤ 10; decide) ⟨_, _, _, _, _, _, _, _, _, _, _, _, rfl⟩ ?_
            (repeat' (first | (refine go1 ?_) | fail "wn"))
            try first | exact ⟨rfl, rfl⟩ | exact rfl
end
end K24

namespace K24
open PySem L2 DL
/-! the plain law: the items tell the amounts -/
section
variable {e r i m t n E R I M T : Int}
theorem m10 : (max 1 0 : Int) = 1 := by decide
theorem m00 : (max 0 0 : Int) = 0 := by decide
theorem m11 : (max 1 1 : Int) = 1 := by decide
theorem five_eq {a b c d f a' b' c' d' f' : Int} (h1 : a = a') (h2 : b = b') (h3 : c = c') (h4 : d = d') (h5 : f = f') : five a b c d f = five a' b' c' d' f' := by
  subst h1 h2 h3 h4 h5; rfl
theorem fv_num (hm : 1 ≤ m) (he : m ≤ e) : FV (posR [(1, m, none), (e - m, 1, none)]) = five e e m m m := by
  unfold posR
  by_cases h : 0 < e - m
  · simp only [List.filter, h, decide_true, show (0 : Int) < 1 by decide]
    unfold FV tot top_
    simp only [List.map, List.sum_cons, List.sum_nil, maxI, gE, gR, gS, gA, rb, Option.getD]
    simp only [m10, m00, m11, Int.mul_one, Int.one_mul, Int.add_zero]
    apply five_eq <;> omega
  · simp only [List.filter, h, decide_true, decide_false, show (0 : Int) < 1 by decide]
    unfold FV tot top_
    simp only [List.map, List.sum_cons, List.sum_nil, maxI, gE, gR, gS, gA, rb, Option.getD]
    simp only [m10, m00, m11, Int.mul_one, Int.one_mul, Int.add_zero]
    apply five_eq <;> omega
theorem fv_p1 (h1 : 1 ≤ M) (h2 : M ≤ T) (h3 : T ≤ 2 * M) (h4 : M ≤ R) (h5 : R + T ≤ E + M) (h6 : E + 2 * M ≤ 2 * R + T) (h7 : 2 ≤ T) (h8 : T = M → R = E) : FV (posR (P1 E R M T)) = five E R T M T := by
  unfold posR P1
  generalize hx : 2 * (R - M) - (E - T) = x
  generalize hy : (E - T) - (R - M) = y
  have mt : max M (T - M) = M := by omega
  by_cases c1 : 0 < x <;> by_cases c2 : 0 < y
  all_goals
    simp only [List.filter, c1, c2, decide_true, decide_false, show (0 : Int) < 1 by decide]
    unfold FV tot top_
    simp only [List.map, List.sum_cons, List.sum_nil, maxI, gE, gR, gS, gA, rb, Option.getD]
    simp only [m10, m00, m11, mt, Int.mul_one, Int.one_mul, Int.add_zero]
    apply five_eq <;> omega
theorem fv_p2 (h1 : 1 ≤ M) (h2 : M ≤ I) (h3 : I ≤ T) (h4 : T ≤ 2 * M) (h5 : T ≤ R) (h6 : I + R ≤ E + M) (h7 : E + 2 * M ≤ I + 2 * R) (h8 : E + 2 * T ≤ 2 * I + 2 * R) (h9 : 2 ≤ I) (h10 : T = M → R = E) : FV (posR (P2 E R I M T)) = five E R I M T := by
  unfold posR P2
  have hf : P2f E R I M T = max 0 (E - I - (T - M) - 2 * R + 2 * T) := rfl
  generalize P2f E R I M T = f at hf ⊢
  generalize hx : 2 * (R - T) - (E - I - (T - M) - f) = x
  generalize hy : (E - I - (T - M) - f) - (R - T) = y
  have mt : max M (I - M) = M := by omega
  have ms : max f (T - M) = T - M := by omega
  by_cases c1 : 0 < x <;> by_cases c2 : 0 < y
  all_goals
    simp only [List.filter, c1, c2, decide_true, decide_false, show (0 : Int) < 1 by decide]
    unfold FV tot top_
    simp only [List.map, List.sum_cons, List.sum_nil, maxI, gE, gR, gS, gA, rb, Option.getD]
    simp only [m10, m00, m11, mt, ms, Int.mul_one, Int.one_mul, Int.add_zero]
    apply five_eq <;> omega
end
end K24

namespace K24
open PySem L2 DL
section
variable {e r i m t n : Int}
theorem has_of (h : has n e r i m t = true) : (KD n e r i m t).isEmpty = false ∧ (¬ m = 0 ∨ e ≤ 0) ∧ (n = 2 → t = m → r = e) := by
  unfold has at h
  cases q : (KD n e r i m t).isEmpty with
  | true => rw [q] at h; cases h
  | false =>
    rw [q] at h
    have hq : (¬m = 0 ∨ e ≤ 0) ∧ (¬n = 2 ∨ ¬t = m ∨ r = e) := by simpa using h
    exact ⟨rfl, hq.1, fun p q => by omega⟩
theorem kd1_ne (h : (KD 1 e r i m t).isEmpty = false) : B1 e r i m t = true := by
  have e1 : KD 1 e r i m t = KD1 e r i m t := rfl
  rw [e1] at h
  unfold KD1 at h
  cases q : B1 e r i m t with
  | true => rfl
  | false => rw [q] at h; cases h
theorem kd2_ne (h : (KD 2 e r i m t).isEmpty = false) : K1 e r i m t = true ∨ (K1 e r i m t = false ∧ K2 e r i m t = true) := by
  have e1 : KD 2 e r i m t = KD2 e r i m t := rfl
  rw [e1] at h
  unfold KD2 at h
  cases q : K1 e r i m t with
  | true => exact .inl rfl
  | false =>
    cases q2 : K2 e r i m t with
    | true => exact .inr ⟨rfl, rfl⟩
    | false => rw [q, q2] at h; cases h
theorem it_fv (pe : 0 ≤ e) (pr : 0 ≤ r) (pi : 0 ≤ i) (pm : 0 ≤ m) (pt : 0 ≤ t) (h1 : 1 ≤ n) (h2 : n ≤ 2) (h : has n e r i m t = true) : FV (ITl n e r i m t) = five (ITk n i m * e) (ITk n i m * r) (ITk n i m * i) (ITk n i m * m) (ITk n i m * t) := by
  obtain ⟨hk, hz, hw⟩ := has_of h
  have hn : n = 1 ∨ n = 2 := by omega
  by_cases hm : m = 0
  · have ek : ITk n i m = 1 := by unfold ITk; rw [if_pos (.inl hm)]
    have el : ITl n e r i m t = [] := by unfold ITl; rw [if_pos hm]
    rw [ek, el]
    have nil : FV [] = five 0 0 0 0 0 := rfl
    rw [nil]
    rcases hn with rfl | rfl
    · have := b1_iff.mp (kd1_ne hk)
      apply five_eq <;> omega
    · rcases kd2_ne hk with q | ⟨_, q⟩
      · have := k1_iff.mp q
        apply five_eq <;> omega
      · have := k2_iff.mp q
        apply five_eq <;> omega
  · rcases hn with rfl | rfl
    · have ek : ITk 1 i m = 1 := by unfold ITk; rw [if_pos (.inr rfl)]
      have el : ITl 1 e r i m t = posR [(1, m, none), (e - m, 1, none)] := by unfold ITl; rw [if_neg hm, if_pos rfl]
      have := b1_iff.mp (kd1_ne hk)
      rw [ek, el, fv_num (by omega) (by omega)]
      apply five_eq <;> omega
    · have ek : ITk 2 i m = tms i := by unfold ITk; rw [if_neg (by omega)]
      have ti : (i = 1 ∧ tms i = 2) ∨ (¬ i = 1 ∧ tms i = 1) := by
        unfold tms
        by_cases hi : i = 1
        · exact .inl ⟨hi, if_pos hi⟩
        · exact .inr ⟨hi, if_neg hi⟩
      rcases kd2_ne hk with q | ⟨q1, q⟩
      · have el : ITl 2 e r i m t = posR (P1 (tms i * e) (tms i * r) (tms i * m) (tms i * t)) := by unfold ITl; rw [if_neg hm, if_neg (by decide), if_pos q]
        have := k1_iff.mp q
        rw [ek, el]
        rcases ti with ⟨hi, tk⟩ | ⟨hi, tk⟩
        · rw [tk, fv_p1 (by omega) (by omega) (by omega) (by omega) (by omega) (by omega) (by omega) (by omega)]
          apply five_eq <;> omega
        · rw [tk, fv_p1 (by omega) (by omega) (by omega) (by omega) (by omega) (by omega) (by omega) (by omega)]
          apply five_eq <;> omega
      · have el : ITl 2 e r i m t = posR (P2 (tms i * e) (tms i * r) (tms i * i) (tms i * m) (tms i * t)) := by unfold ITl; rw [if_neg hm, if_neg (by decide), if_neg (by rw [q1]; decide)]
        have := k2_iff.mp q
        rw [ek, el]
        rcases ti with ⟨hi, tk⟩ | ⟨hi, tk⟩
        · rw [tk, fv_p2 (by omega) (by omega) (by omega) (by omega) (by omega) (by omega) (by omega) (by omega) (by omega) (by omega)]
        · rw [tk, fv_p2 (by omega) (by omega) (by omega) (by omega) (by omega) (by omega) (by omega) (by omega) (by omega) (by omega)]
end
end K24

namespace K24
open PySem L2 DL
/-- a run as items_for tells it -/
structure ItR (w : Bool) (r : Run) : Prop where
  c1 : 1 ≤ r.1
  a0 : 0 ≤ r.2.1
  b0 : 0 ≤ rb r
  w : r.2.2.isSome = w
  cb : Builtin.Int.intBits r.1 ≤ 1800
  ab : Builtin.Int.intBits r.2.1 ≤ 1800
  bb : Builtin.Int.intBits (rb r) ≤ 1800
theorem posR_in {l : List Run} {r : Run} (h : r ∈ posR l) : r ∈ l ∧ 1 ≤ r.1 := by
  have := List.mem_filter.mp h
  exact ⟨this.1, by have := of_decide_eq_true this.2; omega⟩
section
variable {e r i m t n E R I M T : Int}
theorem it_p1 (hE : Builtin.Int.intBits E ≤ 1500) (hR : Builtin.Int.intBits R ≤ 1500) (hM : Builtin.Int.intBits M ≤ 1500) (hT : Builtin.Int.intBits T ≤ 1500) (h1 : 0 ≤ M) (h2 : M ≤ T) : ∀ x ∈ posR (P1 E R M T), ItR true x := fun x hx => by
  obtain ⟨h, c⟩ := posR_in hx
  have b1 := sub_bits hT hM
  have b2 := sub_bits hR hM
  have b3 := sub_bits hE hT
  have b4 := intBits_add_le b2 b2
  have e4 : R - M + (R - M) = 2 * (R - M) := by omega
  rw [e4] at b4
  have b5 := sub_bits b4 b3
  have b6 := sub_bits b3 b2
  unfold P1 at h
  simp only [List.mem_cons, List.not_mem_nil, or_false] at h
  rcases h with rfl | rfl | rfl
  · exact ⟨c, h1, (by show 0 ≤ T - M; omega), rfl, (by show Builtin.Int.intBits 1 ≤ 1800; decide), (by show Builtin.Int.intBits M ≤ 1800; omega), (by show Builtin.Int.intBits (T - M) ≤ 1800; omega)⟩
  · exact ⟨c, (by show (0 : Int) ≤ 1; decide), (by show (0 : Int) ≤ 0; decide), rfl, (by show Builtin.Int.intBits (2 * (R - M) - (E - T)) ≤ 1800; omega), (by show Builtin.Int.intBits 1 ≤ 1800; decide), (by show Builtin.Int.intBits 0 ≤ 1800; decide)⟩
  · exact ⟨c, (by show (0 : Int) ≤ 1; decide), (by show (0 : Int) ≤ 1; decide), rfl, (by show Builtin.Int.intBits ((E - T) - (R - M)) ≤ 1800; omega), (by show Builtin.Int.intBits 1 ≤ 1800; decide), (by show Builtin.Int.intBits 1 ≤ 1800; decide)⟩
theorem it_p2 (hE : Builtin.Int.intBits E ≤ 1500) (hR : Builtin.Int.intBits R ≤ 1500) (hI : Builtin.Int.intBits I ≤ 1500) (hM : Builtin.Int.intBits M ≤ 1500) (hT : Builtin.Int.intBits T ≤ 1500) (h1 : 0 ≤ M) (h2 : M ≤ T) (h3 : M ≤ I) : ∀ x ∈ posR (P2 E R I M T), ItR true x := fun x hx => by
  obtain ⟨h, c⟩ := posR_in hx
  have b1 := sub_bits hT hM
  have b2 := sub_bits hI hM
  have b3 := sub_bits (sub_bits hE hI) b1
  have b4 := intBits_add_le hR hR
  have b5 := intBits_add_le hT hT
  have e4 : R + R = 2 * R := by omega
  have e5 : T + T = 2 * T := by omega
  rw [e4] at b4
  rw [e5] at b5
  have b6 := intBits_add_le (sub_bits b3 b4) b5
  have bf : Builtin.Int.intBits (P2f E R I M T) ≤ 1510 := by
    have : P2f E R I M T = 0 ∨ P2f E R I M T = E - I - (T - M) - 2 * R + 2 * T := by unfold P2f; omega
    rcases this with e | e <;> rw [e]
    · decide
    · omega
  have nf : 0 ≤ P2f E R I M T := by unfold P2f; omega
  have b7 := sub_bits hR hT
  have b8 := intBits_add_le b7 b7
  have e8 : R - T + (R - T) = 2 * (R - T) := by omega
  rw [e8] at b8
  have b9 := sub_bits b3 bf
  have c1 := sub_bits b8 b9
  have c2 := sub_bits b9 b7
  unfold P2 at h
  simp only [List.mem_cons, List.not_mem_nil, or_false] at h
  rcases h with rfl | rfl | rfl | rfl
  · exact ⟨c, h1, (by show 0 ≤ I - M; omega), rfl, (by show Builtin.Int.intBits 1 ≤ 1800; decide), (by show Builtin.Int.intBits M ≤ 1800; omega), (by show Builtin.Int.intBits (I - M) ≤ 1800; omega)⟩
  · exact ⟨c, nf, (by show 0 ≤ T - M; omega), rfl, (by show Builtin.Int.intBits 1 ≤ 1800; decide), (by show Builtin.Int.intBits (P2f E R I M T) ≤ 1800; omega), (by show Builtin.Int.intBits (T - M) ≤ 1800; omega)⟩
  · exact ⟨c, (by show (0 : Int) ≤ 1; decide), (by show (0 : Int) ≤ 0; decide), rfl, (by show Builtin.Int.intBits (2 * (R - T) - (E - I - (T - M) - P2f E R I M T)) ≤ 1800; omega), (by show Builtin.Int.intBits 1 ≤ 1800; decide), (by show Builtin.Int.intBits 0 ≤ 1800; decide)⟩
  · exact ⟨c, (by show (0 : Int) ≤ 1; decide), (by show (0 : Int) ≤ 1; decide), rfl, (by show Builtin.Int.intBits ((E - I - (T - M) - P2f E R I M T) - (R - T)) ≤ 1800; omega), (by show Builtin.Int.intBits 1 ≤ 1800; decide), (by show Builtin.Int.intBits 1 ≤ 1800; decide)⟩
theorem it_ok (be : Bd 1400 e) (br : Bd 1400 r) (bi : Bd 1400 i) (bm : Bd 1400 m) (bt : Bd 1400 t) (h1 : 1 ≤ n) (h2 : n ≤ 2) (h : has n e r i m t = true) : ∀ x ∈ ITl n e r i m t, ItR (decide (n = 2)) x := by
  obtain ⟨hk, hz, hw⟩ := has_of h
  have hn : n = 1 ∨ n = 2 := by omega
  have pm := bm.p
  by_cases hm : m = 0
  · have el : ITl n e r i m t = [] := by unfold ITl; rw [if_pos hm]
    rw [el]
    intro x hx; cases hx
  · rcases hn with rfl | rfl
    · have el : ITl 1 e r i m t = posR [(1, m, none), (e - m, 1, none)] := by unfold ITl; rw [if_neg hm, if_pos rfl]
      rw [el]
      intro x hx
      obtain ⟨h, c⟩ := posR_in hx
      have b1 := sub_bits be.b bm.b
      have b2 := bm.b
      simp only [List.mem_cons, List.not_mem_nil, or_false] at h
      rcases h with rfl | rfl
      · exact ⟨c, pm, (by show (0 : Int) ≤ 0; decide), rfl, (by show Builtin.Int.intBits 1 ≤ 1800; decide), (by show Builtin.Int.intBits m ≤ 1800; omega), (by show Builtin.Int.intBits 0 ≤ 1800; decide)⟩
      · exact ⟨c, (by show (0 : Int) ≤ 1; decide), (by show (0 : Int) ≤ 0; decide), rfl, (by show Builtin.Int.intBits (e - m) ≤ 1800; omega), (by show Builtin.Int.intBits 1 ≤ 1800; decide), (by show Builtin.Int.intBits 0 ≤ 1800; decide)⟩
    · have bk : Bd 2 (tms i) := by unfold tms; split <;> exact ⟨by decide, by decide⟩
      have ti : tms i = 2 ∨ tms i = 1 := by
        unfold tms
        by_cases hi : i = 1
        · exact .inl (if_pos hi)
        · exact .inr (if_neg hi)
      have ce := ((bk.mul be).mono (C := 1500) (by decide)).b
      have cr := ((bk.mul br).mono (C := 1500) (by decide)).b
      have ci := ((bk.mul bi).mono (C := 1500) (by decide)).b
      have cm := ((bk.mul bm).mono (C := 1500) (by decide)).b
      have ct := ((bk.mul bt).mono (C := 1500) (by decide)).b
      rcases kd2_ne hk with q | ⟨q1, q⟩
      · have el : ITl 2 e r i m t = posR (P1 (tms i * e) (tms i * r) (tms i * m) (tms i * t)) := by unfold ITl; rw [if_neg hm, if_neg (by decide), if_pos q]
        have := k1_iff.mp q
        rw [el]
        refine it_p1 ce cr cm ct ?_ ?_ <;> rcases ti with tk | tk <;> rw [tk] <;> omega
      · have el : ITl 2 e r i m t = posR (P2 (tms i * e) (tms i * r) (tms i * i) (tms i * m) (tms i * t)) := by unfold ITl; rw [if_neg hm, if_neg (by decide), if_neg (by rw [q1]; decide)]
        have := k2_iff.mp q
        rw [el]
        refine it_p2 ce cr ci cm ct ?_ ?_ ?_ <;> rcases ti with tk | tk <;> rw [tk] <;> omega
theorem it_len : (ITl n e r i m t).length ≤ 4 := by
  unfold ITl posR P1 P2
  repeat' split
  · exact Nat.zero_le _
  · exact Nat.le_trans (List.length_filter_le _ _) (by show 2 ≤ 4; decide)
  · exact Nat.le_trans (List.length_filter_le _ _) (by show 3 ≤ 4; decide)
  · exact Nat.le_trans (List.length_filter_le _ _) (by show 4 ≤ 4; decide)
end
end K24

namespace K24
open PySem L2 DL
section
variable {A : Ad} {mu : Mu} {Q : D → Mu → Prop} {E : XD → Mu → Prop} {e r i m t n : Int} {w : Bool} {l : List Run} {c : Nat} {k : Int}
theorem ItR.rb {x : Run} (h : ItR w x) : Rb x := ⟨by have := h.cb; omega, by have := h.ab; omega, by have := h.bb; omega⟩
theorem five_it (be : Bd 1400 e) (br : Bd 1400 r) (bi : Bd 1400 i) (bm : Bd 1400 m) (bt : Bd 1400 t) (h1 : 1 ≤ n) (h2 : n ≤ 2) (h : has n e r i m t = true) (hc : mu[c]? = some (.lst ((ITl n e r i m t).map encR))) :
    d__law_five A [.cell c] mu = .ok (five (ITk n i m * e) (ITk n i m * r) (ITk n i m * i) (ITk n i m * m) (ITk n i m * t)) mu := by
  have ok := it_ok be br bi bm bt h1 h2 h
  have hl := it_len (n := n) (e := e) (r := r) (i := i) (m := m) (t := t)
  rw [← it_fv be.p br.p bi.p bm.p bt.p h1 h2 h]
  exact five_ok (.inr ⟨c, rfl, hc⟩) (fun x hx => (ok x hx).rb) (by omega)
theorem same5 {a b c d e : Int} : gEq true mu (five a b c d e) (five a b c d e) = some (.bl false, mu) := by
  have e1 : view mu (five a b c d e) = five a b c d e := rfl
  have e2 : okD 60 (five a b c d e) = true := by simp [five, okD, okL]
  have e3 : deq (five a b c d e) (five a b c d e) = true := by simp [five, deq, deqL]
  unfold gEq
  rw [e1, if_pos ⟨e2, e2⟩, e3]
  rfl
theorem itk_b : Bd 2 (ITk n i m) ∧ 1 ≤ ITk n i m := by
  unfold ITk tms
  split
  · exact ⟨⟨by decide, by decide⟩, by decide⟩
  · split <;> exact ⟨⟨by decide, by decide⟩, by decide⟩
end
end K24

namespace K24
open PySem L2 DL
def SL1 : List (List Run) := [[],
  [(1, 0, none)],
  [(1, 1, none)],
  [(1, 2, none)],
  [(1, 3, none)],
  [(1, 0, none), (1, 0, none)],
  [(1, 0, none), (1, 1, none)],
  [(1, 0, none), (1, 2, none)],
  [(1, 0, none), (1, 3, none)],
  [(1, 1, none), (1, 1, none)],
  [(1, 1, none), (1, 2, none)],
  [(1, 1, none), (1, 3, none)],
  [(1, 2, none), (1, 2, none)],
  [(1, 2, none), (1, 3, none)],
  [(1, 3, none), (1, 3, none)],
  [(1, 0, none), (1, 0, none), (1, 0, none)],
  [(1, 0, none), (1, 0, none), (1, 1, none)],
  [(1, 0, none), (1, 0, none), (1, 2, none)],
  [(1, 0, none), (1, 0, none), (1, 3, none)],
  [(1, 0, none), (1, 1, none), (1, 1, none)],
  [(1, 0, none), (1, 1, none), (1, 2, none)],
  [(1, 0, none), (1, 1, none), (1, 3, none)],
  [(1, 0, none), (1, 2, none), (1, 2, none)],
  [(1, 0, none), (1, 2, none), (1, 3, none)],
  [(1, 0, none), (1, 3, none), (1, 3, none)],
  [(1, 1, none), (1, 1, none), (1, 1, none)],
  [(1, 1, none), (1, 1, none), (1, 2, none)],
  [(1, 1, none), (1, 1, none), (1, 3, none)],
  [(1, 1, none), (1, 2, none), (1, 2, none)],
  [(1, 1, none), (1, 2, none), (1, 3, none)],
  [(1, 1, none), (1, 3, none), (1, 3, none)],
  [(1, 2, none), (1, 2, none), (1, 2, none)],
  [(1, 2, none), (1, 2, none), (1, 3, none)],
  [(1, 2, none), (1, 3, none), (1, 3, none)],
  [(1, 3, none), (1, 3, none), (1, 3, none)],
  [(1, 0, none), (1, 0, none), (1, 0, none), (1, 0, none)],
  [(1, 0, none), (1, 0, none), (1, 0, none), (1, 1, none)],
  [(1, 0, none), (1, 0, none), (1, 0, none), (1, 2, none)],
  [(1, 0, none), (1, 0, none), (1, 0, none), (1, 3, none)],
  [(1, 0, none), (1, 0, none), (1, 1, none), (1, 1, none)],
  [(1, 0, none), (1, 0, none), (1, 1, none), (1, 2, none)],
  [(1, 0, none), (1, 0, none), (1, 1, none), (1, 3, none)],
  [(1, 0, none), (1, 0, none), (1, 2, none), (1, 2, none)],
  [(1, 0, none), (1, 0, none), (1, 2, none), (1, 3, none)],
  [(1, 0, none), (1, 0, none), (1, 3, none), (1, 3, none)],
  [(1, 0, none), (1, 1, none), (1, 1, none), (1, 1, none)],
  [(1, 0, none), (1, 1, none), (1, 1, none), (1, 2, none)],
  [(1, 0, none), (1, 1, none), (1, 1, none), (1, 3, none)],
  [(1, 0, none), (1, 1, none), (1, 2, none), (1, 2, none)],
  [(1, 0, none), (1, 1, none), (1, 2, none), (1, 3, none)],
  [(1, 0, none), (1, 1, none), (1, 3, none), (1, 3, none)],
  [(1, 0, none), (1, 2, none), (1, 2, none), (1, 2, none)],
  [(1, 0, none), (1, 2, none), (1, 2, none), (1, 3, none)],
  [(1, 0, none), (1, 2, none), (1, 3, none), (1, 3, none)],
  [(1, 0, none), (1, 3, none), (1, 3, none), (1, 3, none)],
  [(1, 1, none), (1, 1, none), (1, 1, none), (1, 1, none)],
  [(1, 1, none), (1, 1, none), (1, 1, none), (1, 2, none)],
  [(1, 1, none), (1, 1, none), (1, 1, none), (1, 3, none)],
  [(1, 1, none), (1, 1, none), (1, 2, none), (1, 2, none)],
  [(1, 1, none), (1, 1, none), (1, 2, none), (1, 3, none)],
  [(1, 1, none), (1, 1, none), (1, 3, none), (1, 3, none)],
  [(1, 1, none), (1, 2, none), (1, 2, none), (1, 2, none)],
  [(1, 1, none), (1, 2, none), (1, 2, none), (1, 3, none)],
  [(1, 1, none), (1, 2, none), (1, 3, none), (1, 3, none)],
  [(1, 1, none), (1, 3, none), (1, 3, none), (1, 3, none)],
  [(1, 2, none), (1, 2, none), (1, 2, none), (1, 2, none)],
  [(1, 2, none), (1, 2, none), (1, 2, none), (1, 3, none)],
  [(1, 2, none), (1, 2, none), (1, 3, none), (1, 3, none)],
  [(1, 2, none), (1, 3, none), (1, 3, none), (1, 3, none)],
  [(1, 3, none), (1, 3, none), (1, 3, none), (1, 3, none)]]
def SL2 : List (List Run) := [[],
  [(1, 0, some 0)],
  [(1, 0, some 1)],
  [(1, 0, some 2)],
  [(1, 1, some 0)],
  [(1, 1, some 1)],
  [(1, 1, some 2)],
  [(1, 2, some 0)],
  [(1, 2, some 1)],
  [(1, 2, some 2)],
  [(1, 0, some 0), (1, 0, some 0)],
  [(1, 0, some 0), (1, 0, some 1)],
  [(1, 0, some 0), (1, 0, some 2)],
  [(1, 0, some 0), (1, 1, some 0)],
  [(1, 0, some 0), (1, 1, some 1)],
  [(1, 0, some 0), (1, 1, some 2)],
  [(1, 0, some 0), (1, 2, some 0)],
  [(1, 0, some 0), (1, 2, some 1)],
  [(1, 0, some 0), (1, 2, some 2)],
  [(1, 0, some 1), (1, 0, some 1)],
  [(1, 0, some 1), (1, 0, some 2)],
  [(1, 0, some 1), (1, 1, some 0)],
  [(1, 0, some 1), (1, 1, some 1)],
  [(1, 0, some 1), (1, 1, some 2)],
  [(1, 0, some 1), (1, 2, some 0)],
  [(1, 0, some 1), (1, 2, some 1)],
  [(1, 0, some 1), (1, 2, some 2)],
  [(1, 0, some 2), (1, 0, some 2)],
  [(1, 0, some 2), (1, 1, some 0)],
  [(1, 0, some 2), (1, 1, some 1)],
  [(1, 0, some 2), (1, 1, some 2)],
  [(1, 0, some 2), (1, 2, some 0)],
  [(1, 0, some 2), (1, 2, some 1)],
  [(1, 0, some 2), (1, 2, some 2)],
  [(1, 1, some 0), (1, 1, some 0)],
  [(1, 1, some 0), (1, 1, some 1)],
  [(1, 1, some 0), (1, 1, some 2)],
  [(1, 1, some 0), (1, 2, some 0)],
  [(1, 1, some 0), (1, 2, some 1)],
  [(1, 1, some 0), (1, 2, some 2)],
  [(1, 1, some 1), (1, 1, some 1)],
  [(1, 1, some 1), (1, 1, some 2)],
  [(1, 1, some 1), (1, 2, some 0)],
  [(1, 1, some 1), (1, 2, some 1)],
  [(1, 1, some 1), (1, 2, some 2)],
  [(1, 1, some 2), (1, 1, some 2)],
  [(1, 1, some 2), (1, 2, some 0)],
  [(1, 1, some 2), (1, 2, some 1)],
  [(1, 1, some 2), (1, 2, some 2)],
  [(1, 2, some 0), (1, 2, some 0)],
  [(1, 2, some 0), (1, 2, some 1)],
  [(1, 2, some 0), (1, 2, some 2)],
  [(1, 2, some 1), (1, 2, some 1)],
  [(1, 2, some 1), (1, 2, some 2)],
  [(1, 2, some 2), (1, 2, some 2)],
  [(1, 0, some 0), (1, 0, some 0), (1, 0, some 0)],
  [(1, 0, some 0), (1, 0, some 0), (1, 0, some 1)],
  [(1, 0, some 0), (1, 0, some 0), (1, 0, some 2)],
  [(1, 0, some 0), (1, 0, some 0), (1, 1, some 0)],
  [(1, 0, some 0), (1, 0, some 0), (1, 1, some 1)],
  [(1, 0, some 0), (1, 0, some 0), (1, 1, some 2)],
  [(1, 0, some 0), (1, 0, some 0), (1, 2, some 0)],
  [(1, 0, some 0), (1, 0, some 0), (1, 2, some 1)],
  [(1, 0, some 0), (1, 0, some 0), (1, 2, some 2)],
  [(1, 0, some 0), (1, 0, some 1), (1, 0, some 1)],
  [(1, 0, some 0), (1, 0, some 1), (1, 0, some 2)],
  [(1, 0, some 0), (1, 0, some 1), (1, 1, some 0)],
  [(1, 0, some 0), (1, 0, some 1), (1, 1, some 1)],
  [(1, 0, some 0), (1, 0, some 1), (1, 1, some 2)],
  [(1, 0, some 0), (1, 0, some 1), (1, 2, some 0)],
  [(1, 0, some 0), (1, 0, some 1), (1, 2, some 1)],
  [(1, 0, some 0), (1, 0, some 1), (1, 2, some 2)],
  [(1, 0, some 0), (1, 0, some 2), (1, 0, some 2)],
  [(1, 0, some 0), (1, 0, some 2), (1, 1, some 0)],
  [(1, 0, some 0), (1, 0, some 2), (1, 1, some 1)],
  [(1, 0, some 0), (1, 0, some 2), (1, 1, some 2)],
  [(1, 0, some 0), (1, 0, some 2), (1, 2, some 0)],
  [(1, 0, some 0), (1, 0, some 2), (1, 2, some 1)],
  [(1, 0, some 0), (1, 0, some 2), (1, 2, some 2)],
  [(1, 0, some 0), (1, 1, some 0), (1, 1, some 0)],
  [(1, 0, some 0), (1, 1, some 0), (1, 1, some 1)],
  [(1, 0, some 0), (1, 1, some 0), (1, 1, some 2)],
  [(1, 0, some 0), (1, 1, some 0), (1, 2, some 0)],
  [(1, 0, some 0), (1, 1, some 0), (1, 2, some 1)],
  [(1, 0, some 0), (1, 1, some 0), (1, 2, some 2)],
  [(1, 0, some 0), (1, 1, some 1), (1, 1, some 1)],
  [(1, 0, some 0), (1, 1, some 1), (1, 1, some 2)],
  [(1, 0, some 0), (1, 1, some 1), (1, 2, some 0)],
  [(1, 0, some 0), (1, 1, some 1), (1, 2, some 1)],
  [(1, 0, some 0), (1, 1, some 1), (1, 2, some 2)],
  [(1, 0, some 0), (1, 1, some 2), (1, 1, some 2)],
  [(1, 0, some 0), (1, 1, some 2), (1, 2, some 0)],
  [(1, 0, some 0), (1, 1, some 2), (1, 2, some 1)],
  [(1, 0, some 0), (1, 1, some 2), (1, 2, some 2)],
  [(1, 0, some 0), (1, 2, some 0), (1, 2, some 0)],
  [(1, 0, some 0), (1, 2, some 0), (1, 2, some 1)],
  [(1, 0, some 0), (1, 2, some 0), (1, 2, some 2)],
  [(1, 0, some 0), (1, 2, some 1), (1, 2, some 1)],
  [(1, 0, some 0), (1, 2, some 1), (1, 2, some 2)],
  [(1, 0, some 0), (1, 2, some 2), (1, 2, some 2)],
  [(1, 0, some 1), (1, 0, some 1), (1, 0, some 1)],
  [(1, 0, some 1), (1, 0, some 1), (1, 0, some 2)],
  [(1, 0, some 1), (1, 0, some 1), (1, 1, some 0)],
  [(1, 0, some 1), (1, 0, some 1), (1, 1, some 1)],
  [(1, 0, some 1), (1, 0, some 1), (1, 1, some 2)],
  [(1, 0, some 1), (1, 0, some 1), (1, 2, some 0)],
  [(1, 0, some 1), (1, 0, some 1), (1, 2, some 1)],
  [(1, 0, some 1), (1, 0, some 1), (1, 2, some 2)],
  [(1, 0, some 1), (1, 0, some 2), (1, 0, some 2)],
  [(1, 0, some 1), (1, 0, some 2), (1, 1, some 0)],
  [(1, 0, some 1), (1, 0, some 2), (1, 1, some 1)],
  [(1, 0, some 1), (1, 0, some 2), (1, 1, some 2)],
  [(1, 0, some 1), (1, 0, some 2), (1, 2, some 0)],
  [(1, 0, some 1), (1, 0, some 2), (1, 2, some 1)],
  [(1, 0, some 1), (1, 0, some 2), (1, 2, some 2)],
  [(1, 0, some 1), (1, 1, some 0), (1, 1, some 0)],
  [(1, 0, some 1), (1, 1, some 0), (1, 1, some 1)],
  [(1, 0, some 1), (1, 1, some 0), (1, 1, some 2)],
  [(1, 0, some 1), (1, 1, some 0), (1, 2, some 0)],
  [(1, 0, some 1), (1, 1, some 0), (1, 2, some 1)],
  [(1, 0, some 1), (1, 1, some 0), (1, 2, some 2)],
  [(1, 0, some 1), (1, 1, some 1), (1, 1, some 1)],
  [(1, 0, some 1), (1, 1, some 1), (1, 1, some 2)],
  [(1, 0, some 1), (1, 1, some 1), (1, 2, some 0)],
  [(1, 0, some 1), (1, 1, some 1), (1, 2, some 1)],
  [(1, 0, some 1), (1, 1, some 1), (1, 2, some 2)],
  [(1, 0, some 1), (1, 1, some 2), (1, 1, some 2)],
  [(1, 0, some 1), (1, 1, some 2), (1, 2, some 0)],
  [(1, 0, some 1), (1, 1, some 2), (1, 2, some 1)],
  [(1, 0, some 1), (1, 1, some 2), (1, 2, some 2)],
  [(1, 0, some 1), (1, 2, some 0), (1, 2, some 0)],
  [(1, 0, some 1), (1, 2, some 0), (1, 2, some 1)],
  [(1, 0, some 1), (1, 2, some 0), (1, 2, some 2)],
  [(1, 0, some 1), (1, 2, some 1), (1, 2, some 1)],
  [(1, 0, some 1), (1, 2, some 1), (1, 2, some 2)],
  [(1, 0, some 1), (1, 2, some 2), (1, 2, some 2)],
  [(1, 0, some 2), (1, 0, some 2), (1, 0, some 2)],
  [(1, 0, some 2), (1, 0, some 2), (1, 1, some 0)],
  [(1, 0, some 2), (1, 0, some 2), (1, 1, some 1)],
  [(1, 0, some 2), (1, 0, some 2), (1, 1, some 2)],
  [(1, 0, some 2), (1, 0, some 2), (1, 2, some 0)],
  [(1, 0, some 2), (1, 0, some 2), (1, 2, some 1)],
  [(1, 0, some 2), (1, 0, some 2), (1, 2, some 2)],
  [(1, 0, some 2), (1, 1, some 0), (1, 1, some 0)],
  [(1, 0, some 2), (1, 1, some 0), (1, 1, some 1)],
  [(1, 0, some 2), (1, 1, some 0), (1, 1, some 2)],
  [(1, 0, some 2), (1, 1, some 0), (1, 2, some 0)],
  [(1, 0, some 2), (1, 1, some 0), (1, 2, some 1)],
  [(1, 0, some 2), (1, 1, some 0), (1, 2, some 2)],
  [(1, 0, some 2), (1, 1, some 1), (1, 1, some 1)],
  [(1, 0, some 2), (1, 1, some 1), (1, 1, some 2)],
  [(1, 0, some 2), (1, 1, some 1), (1, 2, some 0)],
  [(1, 0, some 2), (1, 1, some 1), (1, 2, some 1)],
  [(1, 0, some 2), (1, 1, some 1), (1, 2, some 2)],
  [(1, 0, some 2), (1, 1, some 2), (1, 1, some 2)],
  [(1, 0, some 2), (1, 1, some 2), (1, 2, some 0)],
  [(1, 0, some 2), (1, 1, some 2), (1, 2, some 1)],
  [(1, 0, some 2), (1, 1, some 2), (1, 2, some 2)],
  [(1, 0, some 2), (1, 2, some 0), (1, 2, some 0)],
  [(1, 0, some 2), (1, 2, some 0), (1, 2, some 1)],
  [(1, 0, some 2), (1, 2, some 0), (1, 2, some 2)],
  [(1, 0, some 2), (1, 2, some 1), (1, 2, some 1)],
  [(1, 0, some 2), (1, 2, some 1), (1, 2, some 2)],
  [(1, 0, some 2), (1, 2, some 2), (1, 2, some 2)],
  [(1, 1, some 0), (1, 1, some 0), (1, 1, some 0)],
  [(1, 1, some 0), (1, 1, some 0), (1, 1, some 1)],
  [(1, 1, some 0), (1, 1, some 0), (1, 1, some 2)],
  [(1, 1, some 0), (1, 1, some 0), (1, 2, some 0)],
  [(1, 1, some 0), (1, 1, some 0), (1, 2, some 1)],
  [(1, 1, some 0), (1, 1, some 0), (1, 2, some 2)],
  [(1, 1, some 0), (1, 1, some 1), (1, 1, some 1)],
  [(1, 1, some 0), (1, 1, some 1), (1, 1, some 2)],
  [(1, 1, some 0), (1, 1, some 1), (1, 2, some 0)],
  [(1, 1, some 0), (1, 1, some 1), (1, 2, some 1)],
  [(1, 1, some 0), (1, 1, some 1), (1, 2, some 2)],
  [(1, 1, some 0), (1, 1, some 2), (1, 1, some 2)],
  [(1, 1, some 0), (1, 1, some 2), (1, 2, some 0)],
  [(1, 1, some 0), (1, 1, some 2), (1, 2, some 1)],
  [(1, 1, some 0), (1, 1, some 2), (1, 2, some 2)],
  [(1, 1, some 0), (1, 2, some 0), (1, 2, some 0)],
  [(1, 1, some 0), (1, 2, some 0), (1, 2, some 1)],
  [(1, 1, some 0), (1, 2, some 0), (1, 2, some 2)],
  [(1, 1, some 0), (1, 2, some 1), (1, 2, some 1)],
  [(1, 1, some 0), (1, 2, some 1), (1, 2, some 2)],
  [(1, 1, some 0), (1, 2, some 2), (1, 2, some 2)],
  [(1, 1, some 1), (1, 1, some 1), (1, 1, some 1)],
  [(1, 1, some 1), (1, 1, some 1), (1, 1, some 2)],
  [(1, 1, some 1), (1, 1, some 1), (1, 2, some 0)],
  [(1, 1, some 1), (1, 1, some 1), (1, 2, some 1)],
  [(1, 1, some 1), (1, 1, some 1), (1, 2, some 2)],
  [(1, 1, some 1), (1, 1, some 2), (1, 1, some 2)],
  [(1, 1, some 1), (1, 1, some 2), (1, 2, some 0)],
  [(1, 1, some 1), (1, 1, some 2), (1, 2, some 1)],
  [(1, 1, some 1), (1, 1, some 2), (1, 2, some 2)],
  [(1, 1, some 1), (1, 2, some 0), (1, 2, some 0)],
  [(1, 1, some 1), (1, 2, some 0), (1, 2, some 1)],
  [(1, 1, some 1), (1, 2, some 0), (1, 2, some 2)],
  [(1, 1, some 1), (1, 2, some 1), (1, 2, some 1)],
  [(1, 1, some 1), (1, 2, some 1), (1, 2, some 2)],
  [(1, 1, some 1), (1, 2, some 2), (1, 2, some 2)],
  [(1, 1, some 2), (1, 1, some 2), (1, 1, some 2)],
  [(1, 1, some 2), (1, 1, some 2), (1, 2, some 0)],
  [(1, 1, some 2), (1, 1, some 2), (1, 2, some 1)],
  [(1, 1, some 2), (1, 1, some 2), (1, 2, some 2)],
  [(1, 1, some 2), (1, 2, some 0), (1, 2, some 0)],
  [(1, 1, some 2), (1, 2, some 0), (1, 2, some 1)],
  [(1, 1, some 2), (1, 2, some 0), (1, 2, some 2)],
  [(1, 1, some 2), (1, 2, some 1), (1, 2, some 1)],
  [(1, 1, some 2), (1, 2, some 1), (1, 2, some 2)],
  [(1, 1, some 2), (1, 2, some 2), (1, 2, some 2)],
  [(1, 2, some 0), (1, 2, some 0), (1, 2, some 0)],
  [(1, 2, some 0), (1, 2, some 0), (1, 2, some 1)],
  [(1, 2, some 0), (1, 2, some 0), (1, 2, some 2)],
  [(1, 2, some 0), (1, 2, some 1), (1, 2, some 1)],
  [(1, 2, some 0), (1, 2, some 1), (1, 2, some 2)],
  [(1, 2, some 0), (1, 2, some 2), (1, 2, some 2)],
  [(1, 2, some 1), (1, 2, some 1), (1, 2, some 1)],
  [(1, 2, some 1), (1, 2, some 1), (1, 2, some 2)],
  [(1, 2, some 1), (1, 2, some 2), (1, 2, some 2)],
  [(1, 2, some 2), (1, 2, some 2), (1, 2, some 2)]]
theorem small1 {A : Ad} {mu : Mu} : d__law_small_lists A [.int 3, .int 4, .bl false] mu = .ok (.lst (SL1.map fun l => .lst (l.map encR))) mu := by kernel_rfl
theorem small2 {A : Ad} {mu : Mu} : d__law_small_lists A [.int 2, .int 3, .bl true] mu = .ok (.lst (SL2.map fun l => .lst (l.map encR))) mu := by kernel_rfl

def key5 (n e r i m t : Int) : NestedKey := .tup [.num n, .tup [.num e, .num r, .num i, .num m, .num t]]
section
variable {A : Ad} {mu : Mu} {e r i m t n : Int} {l : List Run} {c : Nat} {KS : List NestedKey}
theorem dOf_key : dOf (key5 n e r i m t) = .tup [.int n, five e r i m t] := by simp [key5, dOf, dOfL, five]
theorem keyN_key : keyN (.tup [.int n, five e r i m t]) = some (key5 n e r i m t) := by simp [keyN, toK, toKL, five, key5, NestedKey.depth, NestedKey.depthAll]
theorem key_inj {n' e' r' i' m' t' : Int} (h : key5 n e r i m t = key5 n' e' r' i' m' t') : n = n' ∧ e = e' ∧ r = r' ∧ i = i' ∧ m = m' ∧ t = t' := by
  simp only [key5, NestedKey.tup.injEq, List.cons.injEq, NestedKey.num.injEq, and_true] at h
  exact h
/-- a key of the small lists: its amounts have items -/
def HasK (k : NestedKey) : Prop := ∃ n e r i m t : Int, k = key5 n e r i m t ∧ 1 ≤ n ∧ n ≤ 2 ∧ Bd 20 e ∧ Bd 20 r ∧ Bd 20 i ∧ Bd 20 m ∧ Bd 20 t ∧ has n e r i m t = true
def keyL (n : Int) (l : List Run) : NestedKey := key5 n (tot gE l) (tot gR l) (top_ gS l) (max (top_ gA l) (top_ rb l)) (top_ gA l + top_ rb l)
def sm (x : Int) : Bool := decide (0 ≤ x) && decide (x ≤ 100)
theorem sm_bd {x : Int} (h : sm x = true) : Bd 20 x := by
  simp only [sm, Bool.and_eq_true, decide_eq_true_eq] at h
  exact ⟨h.1, bits_of (by omega)⟩
def chk (n : Int) (l : List Run) : Bool := has n (tot gE l) (tot gR l) (top_ gS l) (max (top_ gA l) (top_ rb l)) (top_ gA l + top_ rb l) && (sm (tot gE l) && (sm (tot gR l) && (sm (top_ gS l) && (sm (max (top_ gA l) (top_ rb l)) && (sm (top_ gA l + top_ rb l) && (l.all fun x => sm x.1 && (sm x.2.1 && sm (rb x))))))))
theorem chk1 : SL1.all (chk 1) = true := by decide +kernel
theorem chk2 : SL2.all (chk 2) = true := by decide +kernel
theorem chk_has (h1 : 1 ≤ n) (h2 : n ≤ 2) (h : chk n l = true) : HasK (keyL n l) := by
  simp only [chk, Bool.and_eq_true] at h
  obtain ⟨a, b, c, d, e, f, _⟩ := h
  exact ⟨n, _, _, _, _, _, rfl, h1, h2, sm_bd b, sm_bd c, sm_bd d, sm_bd e, sm_bd f, a⟩
theorem chk_rb (h : chk n l = true) : ∀ x ∈ l, Rb x := by
  simp only [chk, Bool.and_eq_true, List.all_eq_true] at h
  obtain ⟨_, _, _, _, _, _, g⟩ := h
  intro x hx
  obtain ⟨a, b, c⟩ := g x hx
  have := (sm_bd a).b
  have := (sm_bd b).b
  have := (sm_bd c).b
  exact ⟨by omega, by omega, by omega⟩
theorem fv_key : (.tup [.int n, FV l] : D) = dOf (keyL n l) := by unfold keyL; rw [dOf_key]; rfl
theorem keyN_fv : keyN (.tup [.int n, FV l]) = some (keyL n l) := by unfold FV keyL; exact keyN_key
/-! twice -/
theorem kd_two : (KD n (2 * e) (2 * r) (2 * i) (2 * m) (2 * t)) = KD n e r i m t := by
  have b1 : B1 (2 * e) (2 * r) (2 * i) (2 * m) (2 * t) = B1 e r i m t := Bool.eq_iff_iff.mpr (by rw [b1_iff, b1_iff]; omega)
  have b2 : K1 (2 * e) (2 * r) (2 * i) (2 * m) (2 * t) = K1 e r i m t := Bool.eq_iff_iff.mpr (by rw [k1_iff, k1_iff]; omega)
  have b3 : K2 (2 * e) (2 * r) (2 * i) (2 * m) (2 * t) = K2 e r i m t := Bool.eq_iff_iff.mpr (by rw [k2_iff, k2_iff]; omega)
  unfold KD KD1 KD2
  rw [b1, b2, b3]
theorem has_two : has n (2 * e) (2 * r) (2 * i) (2 * m) (2 * t) = has n e r i m t := by
  unfold has
  rw [kd_two]
  have h1 : decide (2 * m = 0) = decide (m = 0) := decide_eq_decide.mpr (by omega)
  have h2 : decide (0 < 2 * e) = decide (0 < e) := decide_eq_decide.mpr (by omega)
  have h3 : decide (2 * t = 2 * m) = decide (t = m) := decide_eq_decide.mpr (by omega)
  have h4 : decide (2 * r = 2 * e) = decide (r = e) := decide_eq_decide.mpr (by omega)
  rw [h1, h2, h3, h4]
/-- five amounts without items are none of the keys -/
theorem not_in (hK : ∀ k ∈ KS, HasK k) (h : has n e r i m t = false) : key5 n e r i m t ∉ KS := fun hk => by
  obtain ⟨n', e', r', i', m', t', ek, _, _, _, _, _, _, _, hh⟩ := hK _ hk
  obtain ⟨rfl, rfl, rfl, rfl, rfl, rfl⟩ := key_inj ek
  rw [h] at hh
  cases hh
theorem no_kind (h : (KD n e r i m t).isEmpty = true) : has n e r i m t = false := by unfold has; rw [h]; rfl
theorem in_no (hc : mu[c]? = some (.nd c KS)) (h : key5 n e r i m t ∉ KS) : gInN false mu (.tup [.int n, five e r i m t]) (.cell c) = some (.bl false, mu) := by
  unfold gInN
  simp only [hc, keyN_key, if_true, decide_eq_false h]
  rfl
theorem list_nd (hc : mu[c]? = some (.nd c KS)) (hl : KS.length ≤ 1000000) : gListN mu [.cell c] = some (.lst (KS.map dOf), mu) := by
  unfold gListN
  simp only [hc, lim_ok hl, and_self, if_true]
theorem set_key {k : NestedKey} {d : D} (hc : mu[c]? = some (.nd c KS)) (hl : KS.length ≤ 1000000) (hk : keyN d = some k) : gSetN mu (.cell c) d (.bl true) = some (mu.set c (.nd c (storeK KS k))) := by
  unfold gSetN
  simp only [hc, hk, lim_ok hl, and_self, if_true]
theorem store_len {k : NestedKey} : (storeK KS k).length ≤ KS.length + 1 := by
  unfold storeK
  split
  · omega
  · rw [List.length_append]; exact Nat.le_refl _
theorem store_mem {k x : NestedKey} (h : x ∈ storeK KS k) : x ∈ KS ∨ x = k := by
  unfold storeK at h
  split at h
  · exact .inl h
  · rcases List.mem_append.mp h with h | h
    · exact .inl h
    · exact .inr (List.mem_singleton.mp h)
theorem kd_same : gEq true mu (.lst ((KD n e r i m t).map D.str)) (.lst ((KD n e r i m t).map D.str)) = some (.bl false, mu) := by
  rcases (kd_ko : KO (KD n e r i m t)) with h | h | h | h <;> rw [h] <;> kernel_rfl
end
end K24

namespace K24
open PySem L2 DL
local macro_rules | `(tactic| fail "wn") => `(tactic| (first | (with_reducible apply w_ok) | (with_reducible apply w_C) | (with_reducible apply w_op) | (with_reducible apply w_un) | (with_reducible apply w_test) | (with_reducible apply w_tand) | (with_reducible apply w_tor) | (with_reducible apply w_tnot) | (with_reducible apply w_and) | (with_reducible apply w_or) | (with_reducible apply w_not) | (with_reducible apply w_if) | (with_reducible apply w_chain) | (with_reducible apply w_nil) | (with_reducible apply w_cons) | (with_reducible apply w_tup) | (with_reducible apply w_lst) | (with_reducible apply w_lstC) | (with_reducible apply w_newD) | (with_reducible apply w_call) | (with_reducible apply w_met) | (with_reducible apply w_metC) | (with_reducible apply w_callF) | (with_reducible apply w_callKw) | (with_reducible apply w_sl) | (with_reducible apply w_oN) | (with_reducible apply w_oS) | (with_reducible apply w_disp) | (with_reducible apply w_prN) | (with_reducible apply w_prC) | (with_reducible apply w_gcons) | (with_reducible apply w_gnil) | (with_reducible apply w_seqI) | (with_reducible apply w_rng1) | (with_reducible apply w_zip) | (with_reducible apply w_yes) | (with_reducible apply s_seq) | (with_reducible apply s_skip) | (with_reducible apply s_brk) | (with_reducible apply s_cont) | (with_reducible apply s_retN) | (with_reducible apply s_ret) | (with_reducible apply s_expr) | (with_reducible apply s_asg) | (with_reducible apply s_par) | (with_reducible apply s_par3) | (with_reducible apply s_if) | (with_reducible apply s_for) | (with_reducible apply s_raise) | (with_reducible apply s_set) | (with_reducible apply isBl_i) | (with_reducible apply isInt_i) | (with_reducible apply wB_true) | (with_reducible apply wB_false) | (with_reducible apply wB_not) | (with_reducible apply items_l) | (with_reducible apply items_t) | (with_reducible apply items_r) | (with_reducible apply mkQ_t) | (with_reducible apply mkQ_f) | (with_reducible apply o_neS) | (with_reducible apply o_eqS) | (with_reducible apply o_isn) | (with_reducible apply o_isnn) | (with_reducible apply wO_some) | ((with_reducible apply take_w); (· (repeat' (first | assumption | ((with_reducible apply Dr.app); rotate_left; (· exact rfl)) | ((with_reducible apply Dr.set); rotate_left; (· omega); (· exact rfl))))); (· omega); (· first | assumption | omega | decide); (· first | assumption | decide +kernel); (intro _ _ _ _ _ _)) | ((with_reducible apply pick_w); (· (repeat' (first | assumption | ((with_reducible apply Dr.app); rotate_left; (· exact rfl)) | ((with_reducible apply Dr.set); rotate_left; (· omega); (· exact rfl))))); (· omega); (· (first | (simp only [List.length_cons, List.length_nil, List.length_map, List.length_append, List.length_set, List.length_range, List.length_take, List.length_drop]; omega) | decide | omega)); (· (first | (simp only [List.length_cons, List.length_nil, List.length_map, List.length_append, List.length_set, List.length_range, List.length_take, List.length_drop]; omega) | decide | omega)); (intro _ _ _ _ _)) | ((with_reducible apply w_var); (· exact rfl)) | ((with_reducible apply w_gname); (· (simp only [List.set_cons_succ, List.set_cons_zero, wipeD]; exact rfl))) | ((with_reducible apply par2_i); (· (simp only [List.set_cons_succ, List.set_cons_zero, wipeD]; exact rfl))) | ((with_reducible apply par3_i); (· (simp only [List.set_cons_succ, List.set_cons_zero, wipeD]; exact rfl))) | ((with_reducible apply w_gtup); (· exact rfl)) | ((with_reducible apply len_and); (· exact rfl)) | ((with_reducible apply lim_and); (· (first | (simp only [List.length_cons, List.length_nil, List.length_map, List.length_append, List.length_set, List.length_range, List.length_take, List.length_drop]; omega) | decide | omega))) | ((with_reducible apply w_lcE); (· (simp only [List.set_cons_succ, List.set_cons_zero, wipeD]; exact rfl))) | ((with_reducible apply rng1_i); (· omega)) | ((with_reducible apply zip_i); (· exact rfl)) | ((with_reducible apply kw_i); (· exact rfl); (· first | exact p0 | exact p10 | exact p01 | exact p210 | exact p120 | exact p201 | exact p021 | exact p102); (· exact rfl)) | ((with_reducible apply wB_t); (· (first | assumption | (exact decide_eq_true (by omega)) | (exact decide_eq_false (by omega)) | decide))) | ((with_reducible apply wB_f); (· (first | assumption | (exact decide_eq_true (by omega)) | (exact decide_eq_false (by omega)) | decide))) | (with_reducible refine wO_eq (gMul_ok (by assumption)) ?_) | (with_reducible refine wO_eq (gAdd_ok) ?_) | (with_reducible refine wO_eq (gSub_ok) ?_) | (with_reducible refine wO_eq (gEqI) ?_) | (with_reducible refine wO_eq (gNeI) ?_) | (with_reducible refine wO_eq (gLt_ok) ?_) | (with_reducible refine wO_eq (gLe_ok) ?_) | (with_reducible refine wO_eq (gGt_ok) ?_) | (with_reducible refine wO_eq (gGe_ok) ?_) | (with_reducible refine wO_eq (gInt_ok) ?_) | (with_reducible refine wO_eq (gAddL (by rfl)) ?_) | (with_reducible refine wO_eq (gSumL) ?_) | (with_reducible refine wO_eq (gMax2) ?_) | (with_reducible refine wO_eq (gMin2) ?_) | (with_reducible refine wO_eq (gMaxP) ?_) | (with_reducible refine wO_eq (gMax0) ?_) | (with_reducible refine wO_eq (gAllL) ?_) | (with_reducible refine wO_eq (gTupL) ?_) | (with_reducible refine wO_eq (gTupT) ?_) | (with_reducible refine wO_eq (gListT) ?_) | (with_reducible refine wO_eq (gLenT) ?_) | (with_reducible refine wO_eq (gLenL) ?_) | (with_reducible refine wO_eq (gIsiT) ?_) | ((with_reducible apply o_append); (· (repeat' (first | assumption | exact c_last | (with_reducible apply c_app) | (with_reducible apply c_set) | ((with_reducible apply c_setne); (· omega)) | ((with_reducible apply c_ex); (· assumption); (· omega))))); (· (first | (simp only [List.length_cons, List.length_nil, List.length_map, List.length_append, List.length_set, List.length_range, List.length_take, List.length_drop]; omega) | decide | omega))) | ((with_reducible apply o_tupC); (· (repeat' (first | assumption | exact c_last | (with_reducible apply c_app) | (with_reducible apply c_set) | ((with_reducible apply c_setne); (· omega)) | ((with_reducible apply c_ex); (· assumption); (· omega)))))) | ((with_reducible apply o_lenC); (· (repeat' (first | assumption | exact c_last | (with_reducible apply c_app) | (with_reducible apply c_set) | ((with_reducible apply c_setne); (· omega)) | ((with_reducible apply c_ex); (· assumption); (· omega)))))) | ((with_reducible apply o_addL); (· (first | (simp only [List.length_cons, List.length_nil, List.length_map, List.length_append, List.length_set, List.length_range, List.length_take, List.length_drop]; omega) | decide | omega))) | ((with_reducible apply o_addT); (· (first | (simp only [List.length_cons, List.length_nil, List.length_map, List.length_append, List.length_set, List.length_range, List.length_take, List.length_drop]; omega) | decide | omega))) | ((with_reducible apply isl_c); (· (repeat' (first | assumption | exact c_last | (with_reducible apply c_app) | (with_reducible apply c_set) | ((with_reducible apply c_setne); (· omega)) | ((with_reducible apply c_ex); (· assumption); (· omega)))))) | (with_reducible apply isl_l) | ((with_reducible apply s_frz); (· exact rfl); (· (repeat' (first | assumption | exact c_last | (with_reducible apply c_app) | (with_reducible apply c_set) | ((with_reducible apply c_setne); (· omega)) | ((with_reducible apply c_ex); (· assumption); (· omega)))))) | ((with_reducible apply s_frz0); (· exact rfl); (· intro _ z; cases z)) | ((with_reducible apply wO_eq); (· exact rfl)) | (with_reducible exact rfl)))
section
variable {A : Ad} {mu : Mu} {Q : D → Mu → Prop} {E : XD → Mu → Prop} {T : List (Addr × Str)} {n : Nat}
def AllK (l : List NestedKey) : Prop := ∀ k ∈ l, HasK k
theorem ok_key {k : NestedKey} (h : HasK k) : okD 59 (dOf k) = true := by
  obtain ⟨n, e, r, i, m, t, rfl, _⟩ := h
  rw [dOf_key]
  simp [five, okD, okL]
theorem okL_keys : ∀ (l : List NestedKey), AllK l → okL 59 (l.map dOf) = true
  | [], _ => by simp [okL]
  | k :: l, h => by
    rw [List.map_cons, okL, ok_key (h k List.mem_cons_self), okL_keys l fun x hx => h x (List.mem_cons_of_mem _ hx)]
    rfl
theorem ok_keys (l : List NestedKey) (h : AllK l) : okD 60 (.lst (l.map dOf)) = true := by
  rw [okD]; exact okL_keys l h
theorem ne_cell {c : Nat} {l : List NestedKey} (h : AllK l) (hc : mu[c]? = some (.lst (l.map dOf))) : gEq true mu (.cell c) (.lst []) = some (.bl (!l.isEmpty), mu) := by
  have e : view mu (.cell c) = .lst (l.map dOf) := by rw [view_cell, hc]
  have e2 : gEq true mu (.cell c) (.lst []) = gEq true mu (.lst (l.map dOf)) (.lst []) := by
    unfold gEq
    rw [e]
    rfl
  rw [e2, gNeL0 (ok_keys l h)]
  cases l <;> rfl
theorem o_pop {c : Nat} {l : List D} {i : Int} {y : D} (hc : mu[c]? = some (.lst l)) (h0 : 0 ≤ i) (h1 : i < 1000000) (hy : l[i.toNat]? = some y) (q : Q y (mu.set c (.lst (l.eraseIdx i.toNat)))) : wO (gPopAt mu (.cell c) [.int i]) Q := by
  unfold gPopAt
  simp only [hc, h0, h1, and_self, if_true, hy]
  exact q
theorem ge_perm {α : Type} : ∀ (l : List α) (i : Nat) (h : i < l.length), (l[i] :: l.eraseIdx i).Perm l
  | a :: l, 0, _ => List.Perm.refl _
  | a :: l, i + 1, h => by
    have h2 : i < l.length := by simpa using h
    exact (List.Perm.swap a l[i] (l.eraseIdx i)).trans ((ge_perm l i h2).cons a)
theorem er_map {α β : Type} {f : α → β} : ∀ (l : List α) (i : Nat), (l.map f).eraseIdx i = (l.eraseIdx i).map f
  | [], _ => rfl
  | _ :: _, 0 => rfl
  | a :: l, i + 1 => congrArg (f a :: ·) (er_map l i)
theorem mixed_w (l : List NestedKey) (ok : AllK l) (hl : l.length ≤ 300) (h : Dr T n mu) (hn : n ≤ 800000000) (q : ∀ (k : List NestedKey) (mu' : Mu), k.Perm l → Dr T (n + 300) mu' → Ex T.length mu mu' → Q (.lst (k.map dOf)) mu') : wR (d__law_mixed A [.cell (T.length + 1), .lst (l.map dOf)] mu) Q E := by
  have hlen := h.len
  refine w_den ?_
  show wS (m__law_mixed A [some (.cell (T.length + 1)), some (.lst (l.map dOf)), none, none] mu) _ _ _ _ _
  unfold m__law_mixed
  rw [e_take]
  (repeat' (first | (refine go1 ?_) | fail "wn"))
  have e1 : (mu ++ [Cell.lst (l.map dOf)]).length = mu.length + 1 := by simp
  rw [e1]
  refine s_while (fun f env m => ∃ p k : List NestedKey, f = 1000000 - l.length + p.length ∧ (k ++ p).Perm l ∧ Dr T (n + l.length - p.length) m ∧ Ex T.length mu m ∧ m[mu.length]? = some (.lst (p.map dOf)) ∧ m[mu.length + 1]? = some (.lst (k.map dOf)) ∧
    env = [some (.cell (T.length + 1)), some (.lst (l.map dOf)), some (.cell mu.length), some (.cell (mu.length + 1))]) ?_ ?_ ?_
  · rintro f env m ⟨p, k, hf, hp, hd, hx, h1, h2, rfl⟩
    have okp : AllK p := fun r hr => ok r (hp.mem_iff.mp (List.mem_append.mpr (.inr hr)))
    have okk : AllK k := fun r hr => ok r (hp.mem_iff.mp (List.mem_append.mpr (.inl hr)))
    have hlp := hp.length_eq
    rw [List.length_append] at hlp
    (repeat' (first | (refine go1 ?_) | (with_reducible refine w_eq (ne_cell okp h1) ?_) | (with_reducible refine wO_eq (ne_cell okp h1) ?_) | fail "wn"))
    cases p with
    | nil =>
      (repeat' (first | (refine go1 ?_) | fail "wn"))
      refine q k _ (by simpa using hp) ?_ ?_
      · simp only [List.length_nil] at hd
        refine Dr.mono (n := n + l.length - 0) ?_ (by omega)
        (repeat' (first | assumption | ((with_reducible apply Dr.app); rotate_left; (· exact rfl)) | ((with_reducible apply Dr.set); rotate_left; (· omega); (· exact rfl))))
      · (repeat' (first | assumption | exact Ex.rfl | (with_reducible apply Ex.app) | ((with_reducible apply Ex.set); rotate_left; (· omega)) | ((with_reducible apply Ex.trans); rotate_left; (· assumption))))
    | cons r p =>
      (repeat' (first | (refine go1 ?_) | fail "wn"))
      simp only [List.length_cons] at hf hlp hd
      refine ⟨f - 1, by omega, ?_⟩
      (repeat' (first | (refine go1 ?_) | fail "wn"))
      have hle : ((r :: p).map dOf).length = p.length + 1 := by simp
      rw [hle]
      refine take_w hd (by omega) (by omega) (log_of (n := 10) (by omega) (by decide)) ?_
      intro i m4 i0 i1 h4 f4
      have hi : i.toNat < (r :: p).length := by simp only [List.length_cons]; omega
      refine o_pop (l := (r :: p).map dOf) (y := dOf (r :: p)[i.toNat]) (c_ex f4 (by omega) h1) i0 (by omega) (by rw [List.getElem?_map, List.getElem?_eq_getElem hi]; rfl) ?_
      have hk : (k.map dOf).length ≤ 1000000 := by rw [List.length_map]; omega
      refine o_append (l := k.map dOf) (c_setne (by omega) (c_ex f4 (by omega) h2)) hk ?_
      have pm := ge_perm (r :: p) i.toNat hi
      have le : ((r :: p).eraseIdx i.toNat).length = p.length := by rw [List.length_eraseIdx_of_lt hi]; simp
      refine ⟨(r :: p).eraseIdx i.toNat, k ++ [(r :: p)[i.toNat]], by rw [le]; omega, ?_, ?_, ?_, ?_, ?_, rfl⟩
      · rw [List.append_assoc]
        exact ((List.perm_append_left_iff k).mpr pm).trans hp
      · rw [le]
        refine Dr.mono (n := n + l.length - (p.length + 1) + 1) ?_ (by omega)
        (repeat' (first | assumption | ((with_reducible apply Dr.app); rotate_left; (· exact rfl)) | ((with_reducible apply Dr.set); rotate_left; (· omega); (· exact rfl))))
      · (repeat' (first | assumption | exact Ex.rfl | (with_reducible apply Ex.app) | ((with_reducible apply Ex.set); rotate_left; (· omega)) | ((with_reducible apply Ex.trans); rotate_left; (· assumption))))
      · rw [← er_map]
        refine c_setne (by omega) (c_set (c_ex f4 (by omega) h1))
      · rw [List.map_append]
        exact c_set (c_setne (by omega) (c_ex f4 (by omega) h2))
  · refine ⟨l, [], by omega, List.Perm.refl _, Dr.mono (n := n) ?_ (by omega), ?_, c_app c_last, ?_, rfl⟩
    · (repeat' (first | assumption | ((with_reducible apply Dr.app); rotate_left; (· exact rfl)) | ((with_reducible apply Dr.set); rotate_left; (· omega); (· exact rfl))))
    · (repeat' (first | assumption | exact Ex.rfl | (with_reducible apply Ex.app) | ((with_reducible apply Ex.set); rotate_left; (· omega)) | ((with_reducible apply Ex.trans); rotate_left; (· assumption))))
    · have := c_last (mu := mu ++ [Cell.lst (l.map dOf)]) (c := .lst [])
      rw [e1] at this
      exact this
  · rintro env m ⟨p, k, hf, _⟩
    have := Nat.zero_le p.length
    omega
end
end K24

namespace K24
open PySem L2 DL
local macro_rules | `(tactic| fail "wn") => `(tactic| (first | (with_reducible apply w_ok) | (with_reducible apply w_C) | (with_reducible apply w_op) | (with_reducible apply w_un) | (with_reducible apply w_test) | (with_reducible apply w_tand) | (with_reducible apply w_tor) | (with_reducible apply w_tnot) | (with_reducible apply w_and) | (with_reducible apply w_or) | (with_reducible apply w_not) | (with_reducible apply w_if) | (with_reducible apply w_chain) | (with_reducible apply w_nil) | (with_reducible apply w_cons) | (with_reducible apply w_tup) | (with_reducible apply w_lst) | (with_reducible apply w_lstC) | (with_reducible apply w_newD) | (with_reducible apply w_call) | (with_reducible apply w_met) | (with_reducible apply w_metC) | (with_reducible apply w_callF) | (with_reducible apply w_callKw) | (with_reducible apply w_sl) | (with_reducible apply w_oN) | (with_reducible apply w_oS) | (with_reducible apply w_disp) | (with_reducible apply w_prN) | (with_reducible apply w_prC) | (with_reducible apply w_gcons) | (with_reducible apply w_gnil) | (with_reducible apply w_seqI) | (with_reducible apply w_rng1) | (with_reducible apply w_zip) | (with_reducible apply w_yes) | (with_reducible apply s_seq) | (with_reducible apply s_skip) | (with_reducible apply s_brk) | (with_reducible apply s_cont) | (with_reducible apply s_retN) | (with_reducible apply s_ret) | (with_reducible apply s_expr) | (with_reducible apply s_asg) | (with_reducible apply s_par) | (with_reducible apply s_par3) | (with_reducible apply s_if) | (with_reducible apply s_for) | (with_reducible apply s_raise) | (with_reducible apply s_set) | (with_reducible apply isBl_i) | (with_reducible apply isInt_i) | (with_reducible apply wB_true) | (with_reducible apply wB_false) | (with_reducible apply wB_not) | (with_reducible apply items_l) | (with_reducible apply items_t) | (with_reducible apply items_r) | (with_reducible apply mkQ_t) | (with_reducible apply mkQ_f) | (with_reducible apply o_neS) | (with_reducible apply o_eqS) | (with_reducible apply o_isn) | (with_reducible apply o_isnn) | (with_reducible apply wO_some) | ((with_reducible apply take_w); (· (repeat' (first | assumption | ((with_reducible apply Dr.app); rotate_left; (· exact rfl)) | ((with_reducible apply Dr.set); rotate_left; (· omega); (· exact rfl))))); (· omega); (· first | assumption | omega | decide); (· first | assumption | decide +kernel); (intro _ _ _ _ _ _)) | ((with_reducible apply pick_w); (· (repeat' (first | assumption | ((with_reducible apply Dr.app); rotate_left; (· exact rfl)) | ((with_reducible apply Dr.set); rotate_left; (· omega); (· exact rfl))))); (· omega); (· (first | (simp only [List.length_cons, List.length_nil, List.length_map, List.length_append, List.length_set, List.length_range, List.length_take, List.length_drop]; omega) | decide | omega)); (· (first | (simp only [List.length_cons, List.length_nil, List.length_map, List.length_append, List.length_set, List.length_range, List.length_take, List.length_drop]; omega) | decide | omega)); (intro _ _ _ _ _)) | ((with_reducible apply w_var); (· exact rfl)) | ((with_reducible apply w_gname); (· (simp only [List.set_cons_succ, List.set_cons_zero, wipeD]; exact rfl))) | ((with_reducible apply par2_i); (· (simp only [List.set_cons_succ, List.set_cons_zero, wipeD]; exact rfl))) | ((with_reducible apply par3_i); (· (simp only [List.set_cons_succ, List.set_cons_zero, wipeD]; exact rfl))) | ((with_reducible apply w_gtup); (· exact rfl)) | ((with_reducible apply len_and); (· exact rfl)) | ((with_reducible apply lim_and); (· (first | (simp only [List.length_cons, List.length_nil, List.length_map, List.length_append, List.length_set, List.length_range, List.length_take, List.length_drop]; omega) | decide | omega))) | ((with_reducible apply w_lcE); (· (simp only [List.set_cons_succ, List.set_cons_zero, wipeD]; exact rfl))) | ((with_reducible apply rng1_i); (· omega)) | ((with_reducible apply zip_i); (· exact rfl)) | ((with_reducible apply kw_i); (· exact rfl); (· first | exact p0 | exact p10 | exact p01 | exact p210 | exact p120 | exact p201 | exact p021 | exact p102); (· exact rfl)) | ((with_reducible apply wB_t); (· (first | assumption | (exact decide_eq_true (by omega)) | (exact decide_eq_false (by omega)) | decide))) | ((with_reducible apply wB_f); (· (first | assumption | (exact decide_eq_true (by omega)) | (exact decide_eq_false (by omega)) | decide))) | (with_reducible refine wO_eq (gMul_ok (by assumption)) ?_) | (with_reducible refine wO_eq (gAdd_ok) ?_) | (with_reducible refine wO_eq (gSub_ok) ?_) | (with_reducible refine wO_eq (gEqI) ?_) | (with_reducible refine wO_eq (gNeI) ?_) | (with_reducible refine wO_eq (gLt_ok) ?_) | (with_reducible refine wO_eq (gLe_ok) ?_) | (with_reducible refine wO_eq (gGt_ok) ?_) | (with_reducible refine wO_eq (gGe_ok) ?_) | (with_reducible refine wO_eq (gInt_ok) ?_) | (with_reducible refine wO_eq (gAddL (by rfl)) ?_) | (with_reducible refine wO_eq (gSumL) ?_) | (with_reducible refine wO_eq (gMax2) ?_) | (with_reducible refine wO_eq (gMin2) ?_) | (with_reducible refine wO_eq (gMaxP) ?_) | (with_reducible refine wO_eq (gMax0) ?_) | (with_reducible refine wO_eq (gAllL) ?_) | (with_reducible refine wO_eq (gTupL) ?_) | (with_reducible refine wO_eq (gTupT) ?_) | (with_reducible refine wO_eq (gListT) ?_) | (with_reducible refine wO_eq (gLenT) ?_) | (with_reducible refine wO_eq (gLenL) ?_) | (with_reducible refine wO_eq (gIsiT) ?_) | ((with_reducible apply o_append); (· (repeat' (first | assumption | exact c_last | (with_reducible apply c_app) | (with_reducible apply c_set) | ((with_reducible apply c_setne); (· omega)) | ((with_reducible apply c_ex); (· assumption); (· omega))))); (· (first | (simp only [List.length_cons, List.length_nil, List.length_map, List.length_append, List.length_set, List.length_range, List.length_take, List.length_drop]; omega) | decide | omega))) | ((with_reducible apply o_tupC); (· (repeat' (first | assumption | exact c_last | (with_reducible apply c_app) | (with_reducible apply c_set) | ((with_reducible apply c_setne); (· omega)) | ((with_reducible apply c_ex); (· assumption); (· omega)))))) | ((with_reducible apply o_lenC); (· (repeat' (first | assumption | exact c_last | (with_reducible apply c_app) | (with_reducible apply c_set) | ((with_reducible apply c_setne); (· omega)) | ((with_reducible apply c_ex); (· assumption); (· omega)))))) | ((with_reducible apply o_addL); (· (first | (simp only [List.length_cons, List.length_nil, List.length_map, List.length_append, List.length_set, List.length_range, List.length_take, List.length_drop]; omega) | decide | omega))) | ((with_reducible apply o_addT); (· (first | (simp only [List.length_cons, List.length_nil, List.length_map, List.length_append, List.length_set, List.length_range, List.length_take, List.length_drop]; omega) | decide | omega))) | ((with_reducible apply isl_c); (· (repeat' (first | assumption | exact c_last | (with_reducible apply c_app) | (with_reducible apply c_set) | ((with_reducible apply c_setne); (· omega)) | ((with_reducible apply c_ex); (· assumption); (· omega)))))) | (with_reducible apply isl_l) | ((with_reducible apply s_frz); (· exact rfl); (· (repeat' (first | assumption | exact c_last | (with_reducible apply c_app) | (with_reducible apply c_set) | ((with_reducible apply c_setne); (· omega)) | ((with_reducible apply c_ex); (· assumption); (· omega)))))) | ((with_reducible apply s_frz0); (· exact rfl); (· intro _ z; cases z)) | ((with_reducible apply wO_eq); (· exact rfl)) | (with_reducible exact rfl)))
section
variable {A : Ad} {mu : Mu} {Q : D → Mu → Prop} {E : XD → Mu → Prop} {T : List (Addr × Str)} {N c : Nat} {n : Int} {KS : List NestedKey}
theorem s_setN {N : DEnv → Mu → Prop} {R : D → Mu → Prop} {B C : DEnv → Mu → Prop} {ma mb mc : DenE} {env : DEnv} (h : wR (ma env mu) (fun v m1 => wR (mb env m1) (fun o m2 => wR (mc env m2) (fun i m3 => ∃ m4, gSetN m3 o i v = some m4 ∧ N env m4) E) E) E) : wS (mSetN ma mb mc env mu) N R B C E := by
  unfold mSetN
  cases e1 : ma env mu with
  | stuck => rw [e1] at h; exact h
  | exc x m => rw [e1] at h; exact h
  | ok v m1 =>
    rw [e1] at h
    have h : wR (mb env m1) _ E := h
    show wS ((mb env m1).andS env _) N R B C E
    cases e2 : mb env m1 with
    | stuck => rw [e2] at h; exact h
    | exc x m => rw [e2] at h; exact h
    | ok o m2 =>
      rw [e2] at h
      have h : wR (mc env m2) _ E := h
      show wS ((mc env m2).andS env _) N R B C E
      cases e3 : mc env m2 with
      | stuck => rw [e3] at h; exact h
      | exc x m => rw [e3] at h; exact h
      | ok i m3 =>
        rw [e3] at h
        obtain ⟨m4, e4, h⟩ := h
        show wS (match gSetN m3 o i v with | some m4 => .nx env m4 | none => .stuck) N R B C E
        rw [e4]
        exact h
theorem newN_eq {env : DEnv} : mNewN env mu = .ok (.cell mu.length) (mu ++ [.nd mu.length []]) := rfl
theorem len1 : SL1.all (fun l => decide (l.length ≤ 10)) = true := by decide +kernel
theorem len2 : SL2.all (fun l => decide (l.length ≤ 10)) = true := by decide +kernel
theorem intF : gInt mu [.bl false] = some (.int 0, mu) := rfl
theorem intT : gInt mu [.bl true] = some (.int 1, mu) := rfl
theorem sl_lst {l : List D} : gSl false mu (.lst l) none (some 40) = some (.lst (l.take 40), mu) := by
  have e : cutD l none (some 40) = l.take 40 := by
    unfold cutD HT.sIx
    simp only [if_neg (show ¬ (40 : Int) < 0 by decide), List.drop_zero, Nat.sub_zero]
    show l.take (min 40 l.length) = l.take 40
    by_cases h2 : 40 ≤ l.length
    · rw [Nat.min_eq_left h2]
    · rw [Nat.min_eq_right (by omega), List.take_length, List.take_of_length_le (by omega)]
  show some (D.lst (cutD l none (some 40)), mu) = _
  rw [e]
theorem store_ne {k : NestedKey} : storeK KS k ≠ [] := by
  unfold storeK
  split
  · rename_i h
    intro e
    rw [e] at h
    cases h
  · intro e
    have := congrArg List.length e
    simp at this
/-- the inner loop: the keys of small lists are stored -/
theorem keys_w {a0 a1 a3 a6 a7 a8 a9 a10 a11 a12 x5 : Option D} {J : DEnv → Mu → Prop} {R : D → Mu → Prop} {B C : DEnv → Mu → Prop} (L : List (List Run)) (h1 : 1 ≤ n) (h2 : n ≤ 2) (hc : L.all (chk n) = true) (hl : L.all (fun l => decide (l.length ≤ 10)) = true)
    (hd : Dr T N mu) (hm : mu[c]? = some (.nd c KS)) (hk : AllK KS) (hT : T.length + 2 ≤ c) (hL : KS.length + L.length ≤ 500000) (hne : L ≠ [])
    (q : ∀ y5 KS' mu', Dr T N mu' → mu'[c]? = some (.nd c KS') → AllK KS' → KS'.length ≤ KS.length + L.length → KS' ≠ [] → J [a0, a1, some (.cell c), a3, some (.int n), y5, a6, a7, a8, a9, a10, a11, a12] mu') :
    wS (forL (mGName 5) (b_law_1 A) (L.map fun l => .lst (l.map encR)) [a0, a1, some (.cell c), a3, some (.int n), x5, a6, a7, a8, a9, a10, a11, a12] mu) J R B C E := by
  refine s_forE (fun l : List Run => D.lst (l.map encR)) (fun xs env m => ∃ (KS' : List NestedKey) (y5 : Option D), (∀ l ∈ xs, chk n l = true ∧ l.length ≤ 10) ∧ KS'.length + xs.length ≤ KS.length + L.length ∧ (KS' = [] → xs = L) ∧ AllK KS' ∧ Dr T N m ∧ m[c]? = some (.nd c KS') ∧ env = [a0, a1, some (.cell c), a3, some (.int n), y5, a6, a7, a8, a9, a10, a11, a12]) L ?_ ?_ ?_
  · exact ⟨KS, x5, fun l hl' => ⟨(List.all_eq_true.mp hc) l hl', of_decide_eq_true ((List.all_eq_true.mp hl) l hl')⟩, Nat.le_refl _, fun _ => rfl, hk, hd, hm, rfl⟩
  · rintro l rest env m ⟨KS', y5, hin, hlen, hne', hk', hd', hm', rfl⟩
    obtain ⟨hch, hll⟩ := hin l List.mem_cons_self
    simp only [List.length_cons] at hlen
    have hrb := chk_rb hch
    unfold b_law_1
    have f5 : ∀ mu, d__law_five A [.lst (l.map encR)] mu = .ok (FV l) mu := fun mu => five_ok (.inl rfl) hrb (by omega)
    (repeat' (first | (refine go1 ?_) | (with_reducible apply s_setN) | (with_reducible refine w_eq (f5 _) ?_) | (with_reducible refine wO_eq (f5 _) ?_) | fail "wn"))
    refine ⟨_, set_key hm' (by omega) keyN_fv, storeK KS' (keyL n l), _, fun x hx => hin x (List.mem_cons_of_mem _ hx), ?_, fun h => absurd h store_ne, ?_, ?_, ?_, rfl⟩
    · have := store_len (KS := KS') (k := keyL n l)
      omega
    · intro k hk2
      rcases store_mem hk2 with h | rfl
      · exact hk' k h
      · exact chk_has h1 h2 hch
    · (repeat' (first | assumption | ((with_reducible apply Dr.app); rotate_left; (· exact rfl)) | ((with_reducible apply Dr.set); rotate_left; (· omega); (· exact rfl))))
    · exact c_set hm'
  · rintro env m ⟨KS', y5, hin, hlen, hne', hk', hd', hm', rfl⟩
    exact q _ _ _ hd' hm' hk' (by simpa using hlen) fun h => hne (hne' h).symm
/-- one kind of lists -/
theorem wide_w {a0 a1 a6 a7 a8 a9 a10 a11 a12 x4 x5 : Option D} {b : Bool} {J : DEnv → Mu → Prop} {R : D → Mu → Prop} {B C : DEnv → Mu → Prop}
    (hd : Dr T N mu) (hm : mu[c]? = some (.nd c KS)) (hk : AllK KS) (hT : T.length + 2 ≤ c) (hL : KS.length ≤ 100000)
    (q : ∀ y4 y5 KS' mu', Dr T N mu' → mu'[c]? = some (.nd c KS') → AllK KS' → KS'.length ≤ KS.length + (if b then 220 else 70) → KS' ≠ [] → J [a0, a1, some (.cell c), some (.bl b), y4, y5, a6, a7, a8, a9, a10, a11, a12] mu') :
    wS (b_law_2 A [a0, a1, some (.cell c), some (.bl b), x4, x5, a6, a7, a8, a9, a10, a11, a12] mu) J R B C E := by
  have s1 : ∀ mu, d__law_small_lists A [.int 3, .int 4, .bl false] mu = .ok (.lst (SL1.map fun l => .lst (l.map encR))) mu := fun _ => small1
  have s2 : ∀ mu, d__law_small_lists A [.int 2, .int 3, .bl true] mu = .ok (.lst (SL2.map fun l => .lst (l.map encR))) mu := fun _ => small2
  have c1 := chk1
  have c2 := chk2
  have l1 := len1
  have l2 := len2
  have z1 : SL1.length = 70 := rfl
  have z2 : SL2.length = 220 := rfl
  unfold b_law_2
  generalize d__law_small_lists A = gs at s1 s2 ⊢
  generalize SL1 = L1 at s1 c1 l1 z1
  generalize SL2 = L2 at s2 c2 l2 z2
  cases b with
  | false =>
    (repeat' (first | (refine go1 ?_) | (with_reducible refine w_eq (intF) ?_) | (with_reducible refine wO_eq (intF) ?_) | (with_reducible refine w_eq (s1 _) ?_) | (with_reducible refine wO_eq (s1 _) ?_) | fail "wn"))
    refine keys_w (n := 1) L1 (by decide) (by decide) c1 l1 hd hm hk hT (by omega) (fun h => by rw [h] at z1; cases z1) ?_
    intro y5 KS' mu' h1 h2 h3 h4 h5
    exact q _ _ KS' mu' h1 h2 h3 (by rw [z1] at h4; exact h4) h5
  | true =>
    (repeat' (first | (refine go1 ?_) | (with_reducible refine w_eq (intT) ?_) | (with_reducible refine wO_eq (intT) ?_) | (with_reducible refine w_eq (s2 _) ?_) | (with_reducible refine wO_eq (s2 _) ?_) | fail "wn"))
    refine keys_w (n := 2) L2 (by decide) (by decide) c2 l2 hd hm hk hT (by omega) (fun h => by rw [h] at z2; cases z2) ?_
    intro y5 KS' mu' h1 h2 h3 h4 h5
    exact q _ _ KS' mu' h1 h2 h3 (by rw [z2] at h4; exact h4) h5
end
end K24

namespace K24
open PySem L2 DL
local macro_rules | `(tactic| fail "wn") => `(tactic| (first | (with_reducible apply w_ok) | (with_reducible apply w_C) | (with_reducible apply w_op) | (with_reducible apply w_un) | (with_reducible apply w_test) | (with_reducible apply w_tand) | (with_reducible apply w_tor) | (with_reducible apply w_tnot) | (with_reducible apply w_and) | (with_reducible apply w_or) | (with_reducible apply w_not) | (with_reducible apply w_if) | (with_reducible apply w_chain) | (with_reducible apply w_nil) | (with_reducible apply w_cons) | (with_reducible apply w_tup) | (with_reducible apply w_lst) | (with_reducible apply w_lstC) | (with_reducible apply w_newD) | (with_reducible apply w_call) | (with_reducible apply w_met) | (with_reducible apply w_metC) | (with_reducible apply w_callF) | (with_reducible apply w_callKw) | (with_reducible apply w_sl) | (with_reducible apply w_oN) | (with_reducible apply w_oS) | (with_reducible apply w_disp) | (with_reducible apply w_prN) | (with_reducible apply w_prC) | (with_reducible apply w_gcons) | (with_reducible apply w_gnil) | (with_reducible apply w_seqI) | (with_reducible apply w_rng1) | (with_reducible apply w_zip) | (with_reducible apply w_yes) | (with_reducible apply s_seq) | (with_reducible apply s_skip) | (with_reducible apply s_brk) | (with_reducible apply s_cont) | (with_reducible apply s_retN) | (with_reducible apply s_ret) | (with_reducible apply s_expr) | (with_reducible apply s_asg) | (with_reducible apply s_par) | (with_reducible apply s_par3) | (with_reducible apply s_if) | (with_reducible apply s_for) | (with_reducible apply s_raise) | (with_reducible apply s_set) | (with_reducible apply isBl_i) | (with_reducible apply isInt_i) | (with_reducible apply wB_true) | (with_reducible apply wB_false) | (with_reducible apply wB_not) | (with_reducible apply items_l) | (with_reducible apply items_t) | (with_reducible apply items_r) | (with_reducible apply mkQ_t) | (with_reducible apply mkQ_f) | (with_reducible apply o_neS) | (with_reducible apply o_eqS) | (with_reducible apply o_isn) | (with_reducible apply o_isnn) | (with_reducible apply wO_some) | ((with_reducible apply take_w); (· (repeat' (first | assumption | ((with_reducible apply Dr.app); rotate_left; (· exact rfl)) | ((with_reducible apply Dr.set); rotate_left; (· omega); (· exact rfl))))); (· omega); (· first | assumption | omega | decide); (· first | assumption | decide +kernel); (intro _ _ _ _ _ _)) | ((with_reducible apply pick_w); (· (repeat' (first | assumption | ((with_reducible apply Dr.app); rotate_left; (· exact rfl)) | ((with_reducible apply Dr.set); rotate_left; (· omega); (· exact rfl))))); (· omega); (· (first | (simp only [List.length_cons, List.length_nil, List.length_map, List.length_append, List.length_set, List.length_range, List.length_take, List.length_drop]; omega) | decide | omega)); (· (first | (simp only [List.length_cons, List.length_nil, List.length_map, List.length_append, List.length_set, List.length_range, List.length_take, List.length_drop]; omega) | decide | omega)); (intro _ _ _ _ _)) | ((with_reducible apply w_var); (· exact rfl)) | ((with_reducible apply w_gname); (· (simp only [List.set_cons_succ, List.set_cons_zero, wipeD]; exact rfl))) | ((with_reducible apply par2_i); (· (simp only [List.set_cons_succ, List.set_cons_zero, wipeD]; exact rfl))) | ((with_reducible apply par3_i); (· (simp only [List.set_cons_succ, List.set_cons_zero, wipeD]; exact rfl))) | ((with_reducible apply w_gtup); (· exact rfl)) | ((with_reducible apply len_and); (· exact rfl)) | ((with_reducible apply lim_and); (· (first | (simp only [List.length_cons, List.length_nil, List.length_map, List.length_append, List.length_set, List.length_range, List.length_take, List.length_drop]; omega) | decide | omega))) | ((with_reducible apply w_lcE); (· (simp only [List.set_cons_succ, List.set_cons_zero, wipeD]; exact rfl))) | ((with_reducible apply rng1_i); (· omega)) | ((with_reducible apply zip_i); (· exact rfl)) | ((with_reducible apply kw_i); (· exact rfl); (· first | exact p0 | exact p10 | exact p01 | exact p210 | exact p120 | exact p201 | exact p021 | exact p102); (· exact rfl)) | ((with_reducible apply wB_t); (· (first | assumption | (exact decide_eq_true (by omega)) | (exact decide_eq_false (by omega)) | decide))) | ((with_reducible apply wB_f); (· (first | assumption | (exact decide_eq_true (by omega)) | (exact decide_eq_false (by omega)) | decide))) | (with_reducible refine wO_eq (gMul_ok (by assumption)) ?_) | (with_reducible refine wO_eq (gAdd_ok) ?_) | (with_reducible refine wO_eq (gSub_ok) ?_) | (with_reducible refine wO_eq (gEqI) ?_) | (with_reducible refine wO_eq (gNeI) ?_) | (with_reducible refine wO_eq (gLt_ok) ?_) | (with_reducible refine wO_eq (gLe_ok) ?_) | (with_reducible refine wO_eq (gGt_ok) ?_) | (with_reducible refine wO_eq (gGe_ok) ?_) | (with_reducible refine wO_eq (gInt_ok) ?_) | (with_reducible refine wO_eq (gAddL (by rfl)) ?_) | (with_reducible refine wO_eq (gSumL) ?_) | (with_reducible refine wO_eq (gMax2) ?_) | (with_reducible refine wO_eq (gMin2) ?_) | (with_reducible refine wO_eq (gMaxP) ?_) | (with_reducible refine wO_eq (gMax0) ?_) | (with_reducible refine wO_eq (gAllL) ?_) | (with_reducible refine wO_eq (gTupL) ?_) | (with_reducible refine wO_eq (gTupT) ?_) | (with_reducible refine wO_eq (gListT) ?_) | (with_reducible refine wO_eq (gLenT) ?_) | (with_reducible refine wO_eq (gLenL) ?_) | (with_reducible refine wO_eq (gIsiT) ?_) | ((with_reducible apply o_append); (· (repeat' (first | assumption | exact c_last | (with_reducible apply c_app) | (with_reducible apply c_set) | ((with_reducible apply c_setne); (· omega)) | ((with_reducible apply c_ex); (· assumption); (· omega))))); (· (first | (simp only [List.length_cons, List.length_nil, List.length_map, List.length_append, List.length_set, List.length_range, List.length_take, List.length_drop]; omega) | decide | omega))) | ((with_reducible apply o_tupC); (· (repeat' (first | assumption | exact c_last | (with_reducible apply c_app) | (with_reducible apply c_set) | ((with_reducible apply c_setne); (· omega)) | ((with_reducible apply c_ex); (· assumption); (· omega)))))) | ((with_reducible apply o_lenC); (· (repeat' (first | assumption | exact c_last | (with_reducible apply c_app) | (with_reducible apply c_set) | ((with_reducible apply c_setne); (· omega)) | ((with_reducible apply c_ex); (· assumption); (· omega)))))) | ((with_reducible apply o_addL); (· (first | (simp only [List.length_cons, List.length_nil, List.length_map, List.length_append, List.length_set, List.length_range, List.length_take, List.length_drop]; omega) | decide | omega))) | ((with_reducible apply o_addT); (· (first | (simp only [List.length_cons, List.length_nil, List.length_map, List.length_append, List.length_set, List.length_range, List.length_take, List.length_drop]; omega) | decide | omega))) | ((with_reducible apply isl_c); (· (repeat' (first | assumption | exact c_last | (with_reducible apply c_app) | (with_reducible apply c_set) | ((with_reducible apply c_setne); (· omega)) | ((with_reducible apply c_ex); (· assumption); (· omega)))))) | (with_reducible apply isl_l) | ((with_reducible apply s_frz); (· exact rfl); (· (repeat' (first | assumption | exact c_last | (with_reducible apply c_app) | (with_reducible apply c_set) | ((with_reducible apply c_setne); (· omega)) | ((with_reducible apply c_ex); (· assumption); (· omega)))))) | ((with_reducible apply s_frz0); (· exact rfl); (· intro _ z; cases z)) | ((with_reducible apply wO_eq); (· exact rfl)) | (with_reducible exact rfl)))
section
variable {A : Ad} {mu : Mu} {Q : D → Mu → Prop} {E : XD → Mu → Prop} {T : List (Addr × Str)} {N c : Nat} {n e r i m t : Int} {KS : List NestedKey}
theorem b4_w {a0 a1 a2 a3 a5 a6 x8 a9 a10 a11 a12 : Option D} {J : DEnv → Mu → Prop} {R : D → Mu → Prop} {B C : DEnv → Mu → Prop} (k1 : 1 ≤ n) (k2 : n ≤ 2) (be : Bd 1400 e) (br : Bd 1400 r) (bi : Bd 1400 i) (bm : Bd 1400 m) (bt : Bd 1400 t) (hh : has n e r i m t = true)
    (hd : Dr T N mu) (q : ∀ y8 cc, isTabC cc = false → J [a0, a1, a2, a3, some (.int n), a5, a6, some (five e r i m t), y8, a9, a10, a11, a12] (mu ++ [cc])) :
    wS (b_law_4 A [a0, a1, a2, a3, some (.int n), a5, a6, some (five e r i m t), x8, a9, a10, a11, a12] mu) J R B C E := by
  have a := Bd.am (by decide) be br bi bm bt
  obtain ⟨bk, kk⟩ := (itk_b : Bd 2 (ITk n i m) ∧ 1 ≤ ITk n i m)
  have c1 : ∀ mu : Mu, (mu ++ [Cell.lst ((ITl n e r i m t).map encR)])[mu.length]? = some (.lst ((ITl n e r i m t).map encR)) := fun mu => c_last
  unfold b_law_4 q_law_3
  (repeat' (first | (refine go1 ?_) | (with_reducible refine w_eq (items_yes be br bi bm bt k1 k2 hh) ?_) | (with_reducible refine wO_eq (items_yes be br bi bm bt k1 k2 hh) ?_) | (with_reducible refine w_eq (kinds_ok a k1 k2) ?_) | (with_reducible refine wO_eq (kinds_ok a k1 k2) ?_) | (with_reducible refine w_eq (lk_eq a k1 k2) ?_) | (with_reducible refine wO_eq (lk_eq a k1 k2) ?_) | (with_reducible refine w_eq (kd_same) ?_) | (with_reducible refine wO_eq (kd_same) ?_) | (with_reducible refine w_eq (five_it be br bi bm bt k1 k2 hh (c1 _)) ?_) | (with_reducible refine wO_eq (five_it be br bi bm bt k1 k2 hh (c1 _)) ?_) | fail "wn"))
  refine w_lcMap D.int (fun x => .int (ITk n i m * x)) [e, r, i, m, t] ?_ (by simp) ?_
  · intro x hx
    have bx : Bd 1400 x := by
      simp only [List.mem_cons, List.not_mem_nil, or_false] at hx
      rcases hx with rfl | rfl | rfl | rfl | rfl <;> assumption
    have hm := bk.mulB bx (by decide) (by decide)
    (repeat' (first | (refine go1 ?_) | fail "wn"))
  (repeat' (first | (refine go1 ?_) | (with_reducible refine w_eq (same5) ?_) | (with_reducible refine wO_eq (same5) ?_) | fail "wn"))
  exact q _ _ rfl
theorem b6_w {a0 a3 x4 a5 a6 x7 a8 a9 a10 x11 x12 : Option D} {J : DEnv → Mu → Prop} {R : D → Mu → Prop} {B C : DEnv → Mu → Prop} (hT : T.length + 2 ≤ c) (hd : Dr T N mu) (hN : N ≤ 500000000) (hm : mu[c]? = some (.nd c KS)) (hk : AllK KS) (hl : KS.length ≤ 300) (hne : 1 ≤ KS.length)
    (q : ∀ y4 y7 y11 y12 mu', (∀ k, y7 ≠ some (.cell k)) → Dr T (N + 10) mu' → mu'[c]? = some (.nd c KS) → J [a0, some (.cell (T.length + 1)), some (.cell c), a3, y4, a5, a6, y7, a8, a9, a10, y11, y12] mu') :
    wS (b_law_6 A [a0, some (.cell (T.length + 1)), some (.cell c), a3, x4, a5, a6, x7, a8, a9, a10, x11, x12] mu) J R B C E := by
  have hlen := hd.len
  have hl2 : KS.length ≤ 1000000 := by omega
  unfold b_law_6 q_law_5
  rw [e_take, e_pick]
  (repeat' (first | (refine go1 ?_) | fail "wn"))
  rename_i b m1 b0 b1 h1 f1
  have hm1 : m1[c]? = some (.nd c KS) := c_ex f1 (by omega) hm
  have k1 : 1 ≤ 1 + b := by omega
  have k2 : 1 + b ≤ 2 := by omega
  generalize 1 + b = n at k1 k2 ⊢
  (repeat' (first | (refine go1 ?_) | (with_reducible refine w_eq (list_nd hm1 hl2) ?_) | (with_reducible refine wO_eq (list_nd hm1 hl2) ?_) | fail "wn"))
  rename_i d m2 hd2 h2 f2
  have hm2 : m2[c]? = some (.nd c KS) := c_ex f2 (by omega) hm1
  obtain ⟨k, hkk, rfl⟩ := List.mem_map.mp hd2
  obtain ⟨n', e, r, i, m, t, rfl, _, _, be, br, bi, bm, bt, _⟩ := hk k hkk
  rw [dOf_key]
  have len2 := h2.len
  (repeat' (first | (refine go1 ?_) | fail "wn"))
  rename_i a m3 a0 a1 h3 f3
  obtain ⟨x, hx, ex⟩ := ix_ints (xs := [e, r, i, m, t]) a0 (by simpa using a1)
  refine o_ixC (l := [e, r, i, m, t].map D.int) (by (repeat' (first | assumption | exact c_last | (with_reducible apply c_app) | (with_reducible apply c_set) | ((with_reducible apply c_setne); (· omega)) | ((with_reducible apply c_ex); (· assumption); (· omega))))) ex ?_
  (repeat' (first | (refine go1 ?_) | fail "wn"))
  rename_i d m4 hd4 h4 f4
  obtain ⟨z, rfl, hz⟩ : ∃ z, d = .int z ∧ Builtin.Int.intBits z ≤ 20 := by
    simp only [List.mem_cons, List.not_mem_nil, or_false] at hd4
    rcases hd4 with rfl | rfl | rfl | rfl
    · exact ⟨_, rfl, by decide⟩
    · exact ⟨_, rfl, by decide⟩
    · exact ⟨_, rfl, by decide⟩
    · exact ⟨_, rfl, by decide⟩
  (repeat' (first | (refine go1 ?_) | fail "wn"))
  refine o_setC (l := [e, r, i, m, t].map D.int) (k := a.toNat) (by (repeat' (first | assumption | exact c_last | (with_reducible apply c_app) | (with_reducible apply c_set) | ((with_reducible apply c_setne); (· omega)) | ((with_reducible apply c_ex); (· assumption); (· omega))))) (ixN_ok a0 (by simpa using a1)) ?_
  have hv : ∀ y ∈ [e, r, i, m, t].set a.toNat (max 0 (x + z)), Bd 21 y := by
    intro y hy
    have hb : ∀ y ∈ [e, r, i, m, t], Bd 20 y := fun y hy => by
      simp only [List.mem_cons, List.not_mem_nil, or_false] at hy
      rcases hy with rfl | rfl | rfl | rfl | rfl <;> assumption
    rcases List.mem_or_eq_of_mem_set hy with hy | rfl
    · exact (hb y hy).mono (by decide)
    · exact (hb x hx).pos hz
  obtain ⟨e', r', i', m', t', ev⟩ := five_of (v := [e, r, i, m, t].set a.toNat (max 0 (x + z))) (by simp)
  rw [ev] at hv
  have be' := hv e' (by simp)
  have br' := hv r' (by simp)
  have bi' := hv i' (by simp)
  have bm' := hv m' (by simp)
  have bt' := hv t' (by simp)
  have es : ([e, r, i, m, t].map D.int).set a.toNat (.int (max 0 (x + z))) = [D.int e', .int r', .int i', .int m', .int t'] := by
    rw [← List.map_set, ev]
    rfl
  rw [es]
  have hc2 := (List.getElem?_eq_some_iff.mp hm2).1
  have two : Bd 2 (2 : Int) := ⟨by decide, by decide⟩
  (repeat' (first | (refine go1 ?_) | fail "wn"))
  refine w_lcMap D.int (fun x => .int (2 * x)) [e', r', i', m', t'] ?_ (by simp) ?_
  · intro x hx
    have hm := two.mulB (hv x hx) (by decide) (by decide)
    (repeat' (first | (refine go1 ?_) | fail "wn"))
  show mkQ _ _ [D.int (2 * e'), .int (2 * r'), .int (2 * i'), .int (2 * m'), .int (2 * t')] _
  generalize hmu : (m4.set m2.length (Cell.lst [D.int e', D.int r', D.int i', D.int m', D.int t'])).set m2.length Cell.dead = m6
  have hm3 : m3[c]? = some (.nd c KS) := c_ex f3 (by omega) (c_app hm2)
  have hm4 : m4[c]? = some (.nd c KS) := c_ex f4 (by omega) hm3
  have hm6 : m6[c]? = some (.nd c KS) := by
    rw [← hmu]
    exact c_setne (by omega) (c_setne (by omega) hm4)
  have h6 : Dr T (N + 10) m6 := by
    rw [← hmu]
    refine Dr.mono (n := N + 1 + 1 + 1 + 1) ?_ (by omega)
    (repeat' (first | assumption | ((with_reducible apply Dr.app); rotate_left; (· exact rfl)) | ((with_reducible apply Dr.set); rotate_left; (· omega); (· exact rfl))))
  have am := Bd.am (by decide) be' br' bi' bm' bt'
  have ke : ∀ mu, gEq false mu (.lst ((KD n e' r' i' m' t').map D.str)) (.lst []) = some (.bl (KD n e' r' i' m' t').isEmpty, mu) := fun mu => kd_e
  cases hh : has n e' r' i' m' t' with
  | false =>
    have n1 : key5 n e' r' i' m' t' ∉ KS := not_in hk hh
    have n2 : key5 n (2 * e') (2 * r') (2 * i') (2 * m') (2 * t') ∉ KS := not_in hk (has_two.trans hh)
    cases hke : (KD n e' r' i' m' t').isEmpty with
    | true =>
      rw [hke] at ke
      (repeat' (first | (refine go1 ?_) | (with_reducible refine w_eq (kinds_ok am k1 k2) ?_) | (with_reducible refine wO_eq (kinds_ok am k1 k2) ?_) | (with_reducible refine w_eq (ke _) ?_) | (with_reducible refine wO_eq (ke _) ?_) | (with_reducible refine w_eq (in_no hm6 n1) ?_) | (with_reducible refine wO_eq (in_no hm6 n1) ?_) | (with_reducible refine w_eq (in_no hm6 n2) ?_) | (with_reducible refine wO_eq (in_no hm6 n2) ?_) | (with_reducible refine w_eq (items_no am k1 k2 hh) ?_) | (with_reducible refine wO_eq (items_no am k1 k2 hh) ?_) | fail "wn"))
      exact q _ (some (.lst [.int e', .int r', .int i', .int m', .int t'])) _ _ _ (fun _ h => by cases h) h6 hm6
    | false =>
      rw [hke] at ke
      (repeat' (first | (refine go1 ?_) | (with_reducible refine w_eq (kinds_ok am k1 k2) ?_) | (with_reducible refine wO_eq (kinds_ok am k1 k2) ?_) | (with_reducible refine w_eq (ke _) ?_) | (with_reducible refine wO_eq (ke _) ?_) | (with_reducible refine w_eq (in_no hm6 n1) ?_) | (with_reducible refine wO_eq (in_no hm6 n1) ?_) | (with_reducible refine w_eq (in_no hm6 n2) ?_) | (with_reducible refine wO_eq (in_no hm6 n2) ?_) | (with_reducible refine w_eq (items_no am k1 k2 hh) ?_) | (with_reducible refine wO_eq (items_no am k1 k2 hh) ?_) | fail "wn"))
      exact q _ (some (.lst [.int e', .int r', .int i', .int m', .int t'])) _ _ _ (fun _ h => by cases h) h6 hm6
  | true =>
    have hke : (KD n e' r' i' m' t').isEmpty = false := (has_of hh).1
    rw [hke] at ke
    have by1 := items_yes (A := A) (be'.mono (C := 1400) (by decide)) (br'.mono (by decide)) (bi'.mono (by decide)) (bm'.mono (by decide)) (bt'.mono (by decide)) k1 k2 hh (mu := m6)
    (repeat' (first | (refine go1 ?_) | (with_reducible refine w_eq (kinds_ok am k1 k2) ?_) | (with_reducible refine wO_eq (kinds_ok am k1 k2) ?_) | (with_reducible refine w_eq (ke _) ?_) | (with_reducible refine wO_eq (ke _) ?_) | (with_reducible refine w_eq (by1) ?_) | (with_reducible refine wO_eq (by1) ?_) | fail "wn"))
    exact q _ (some (.lst [.int e', .int r', .int i', .int m', .int t'])) _ _ _ (fun _ h => by cases h) (by (repeat' (first | assumption | ((with_reducible apply Dr.app); rotate_left; (· exact rfl)) | ((with_reducible apply Dr.set); rotate_left; (· omega); (· exact rfl))))) (c_app hm6)
end
end K24

namespace K24
open PySem L2 DL
local macro_rules | `(tactic| fail "wn") => `(tactic| (first | (with_reducible apply w_ok) | (with_reducible apply w_C) | (with_reducible apply w_op) | (with_reducible apply w_un) | (with_reducible apply w_test) | (with_reducible apply w_tand) | (with_reducible apply w_tor) | (with_reducible apply w_tnot) | (with_reducible apply w_and) | (with_reducible apply w_or) | (with_reducible apply w_not) | (with_reducible apply w_if) | (with_reducible apply w_chain) | (with_reducible apply w_nil) | (with_reducible apply w_cons) | (with_reducible apply w_tup) | (with_reducible apply w_lst) | (with_reducible apply w_lstC) | (with_reducible apply w_newD) | (with_reducible apply w_call) | (with_reducible apply w_met) | (with_reducible apply w_metC) | (with_reducible apply w_callF) | (with_reducible apply w_callKw) | (with_reducible apply w_sl) | (with_reducible apply w_oN) | (with_reducible apply w_oS) | (with_reducible apply w_disp) | (with_reducible apply w_prN) | (with_reducible apply w_prC) | (with_reducible apply w_gcons) | (with_reducible apply w_gnil) | (with_reducible apply w_seqI) | (with_reducible apply w_rng1) | (with_reducible apply w_zip) | (with_reducible apply w_yes) | (with_reducible apply s_seq) | (with_reducible apply s_skip) | (with_reducible apply s_brk) | (with_reducible apply s_cont) | (with_reducible apply s_retN) | (with_reducible apply s_ret) | (with_reducible apply s_expr) | (with_reducible apply s_asg) | (with_reducible apply s_par) | (with_reducible apply s_par3) | (with_reducible apply s_if) | (with_reducible apply s_for) | (with_reducible apply s_raise) | (with_reducible apply s_set) | (with_reducible apply isBl_i) | (with_reducible apply isInt_i) | (with_reducible apply wB_true) | (with_reducible apply wB_false) | (with_reducible apply wB_not) | (with_reducible apply items_l) | (with_reducible apply items_t) | (with_reducible apply items_r) | (with_reducible apply mkQ_t) | (with_reducible apply mkQ_f) | (with_reducible apply o_neS) | (with_reducible apply o_eqS) | (with_reducible apply o_isn) | (with_reducible apply o_isnn) | (with_reducible apply wO_some) | ((with_reducible apply take_w); (· (repeat' (first | assumption | ((with_reducible apply Dr.app); rotate_left; (· exact rfl)) | ((with_reducible apply Dr.set); rotate_left; (· omega); (· exact rfl))))); (· omega); (· first | assumption | omega | decide); (· first | assumption | decide +kernel); (intro _ _ _ _ _ _)) | ((with_reducible apply pick_w); (· (repeat' (first | assumption | ((with_reducible apply Dr.app); rotate_left; (· exact rfl)) | ((with_reducible apply Dr.set); rotate_left; (· omega); (· exact rfl))))); (· omega); (· (first | (simp only [List.length_cons, List.length_nil, List.length_map, List.length_append, List.length_set, List.length_range, List.length_take, List.length_drop]; omega) | decide | omega)); (· (first | (simp only [List.length_cons, List.length_nil, List.length_map, List.length_append, List.length_set, List.length_range, List.length_take, List.length_drop]; omega) | decide | omega)); (intro _ _ _ _ _)) | ((with_reducible apply w_var); (· exact rfl)) | ((with_reducible apply w_gname); (· (simp only [List.set_cons_succ, List.set_cons_zero, wipeD]; exact rfl))) | ((with_reducible apply par2_i); (· (simp only [List.set_cons_succ, List.set_cons_zero, wipeD]; exact rfl))) | ((with_reducible apply par3_i); (· (simp only [List.set_cons_succ, List.set_cons_zero, wipeD]; exact rfl))) | ((with_reducible apply w_gtup); (· exact rfl)) | ((with_reducible apply len_and); (· exact rfl)) | ((with_reducible apply lim_and); (· (first | (simp only [List.length_cons, List.length_nil, List.length_map, List.length_append, List.length_set, List.length_range, List.length_take, List.length_drop]; omega) | decide | omega))) | ((with_reducible apply w_lcE); (· (simp only [List.set_cons_succ, List.set_cons_zero, wipeD]; exact rfl))) | ((with_reducible apply rng1_i); (· omega)) | ((with_reducible apply zip_i); (· exact rfl)) | ((with_reducible apply kw_i); (· exact rfl); (· first | exact p0 | exact p10 | exact p01 | exact p210 | exact p120 | exact p201 | exact p021 | exact p102); (· exact rfl)) | ((with_reducible apply wB_t); (· (first | assumption | (exact decide_eq_true (by omega)) | (exact decide_eq_false (by omega)) | decide))) | ((with_reducible apply wB_f); (· (first | assumption | (exact decide_eq_true (by omega)) | (exact decide_eq_false (by omega)) | decide))) | (with_reducible refine wO_eq (gMul_ok (by assumption)) ?_) | (with_reducible refine wO_eq (gAdd_ok) ?_) | (with_reducible refine wO_eq (gSub_ok) ?_) | (with_reducible refine wO_eq (gEqI) ?_) | (with_reducible refine wO_eq (gNeI) ?_) | (with_reducible refine wO_eq (gLt_ok) ?_) | (with_reducible refine wO_eq (gLe_ok) ?_) | (with_reducible refine wO_eq (gGt_ok) ?_) | (with_reducible refine wO_eq (gGe_ok) ?_) | (with_reducible refine wO_eq (gInt_ok) ?_) | (with_reducible refine wO_eq (gAddL (by rfl)) ?_) | (with_reducible refine wO_eq (gSumL) ?_) | (with_reducible refine wO_eq (gMax2) ?_) | (with_reducible refine wO_eq (gMin2) ?_) | (with_reducible refine wO_eq (gMaxP) ?_) | (with_reducible refine wO_eq (gMax0) ?_) | (with_reducible refine wO_eq (gAllL) ?_) | (with_reducible refine wO_eq (gTupL) ?_) | (with_reducible refine wO_eq (gTupT) ?_) | (with_reducible refine wO_eq (gListT) ?_) | (with_reducible refine wO_eq (gLenT) ?_) | (with_reducible refine wO_eq (gLenL) ?_) | (with_reducible refine wO_eq (gIsiT) ?_) | ((with_reducible apply o_append); (· (repeat' (first | assumption | exact c_last | (with_reducible apply c_app) | (with_reducible apply c_set) | ((with_reducible apply c_setne); (· omega)) | ((with_reducible apply c_ex); (· assumption); (· omega))))); (· (first | (simp only [List.length_cons, List.length_nil, List.length_map, List.length_append, List.length_set, List.length_range, List.length_take, List.length_drop]; omega) | decide | omega))) | ((with_reducible apply o_tupC); (· (repeat' (first | assumption | exact c_last | (with_reducible apply c_app) | (with_reducible apply c_set) | ((with_reducible apply c_setne); (· omega)) | ((with_reducible apply c_ex); (· assumption); (· omega)))))) | ((with_reducible apply o_lenC); (· (repeat' (first | assumption | exact c_last | (with_reducible apply c_app) | (with_reducible apply c_set) | ((with_reducible apply c_setne); (· omega)) | ((with_reducible apply c_ex); (· assumption); (· omega)))))) | ((with_reducible apply o_addL); (· (first | (simp only [List.length_cons, List.length_nil, List.length_map, List.length_append, List.length_set, List.length_range, List.length_take, List.length_drop]; omega) | decide | omega))) | ((with_reducible apply o_addT); (· (first | (simp only [List.length_cons, List.length_nil, List.length_map, List.length_append, List.length_set, List.length_range, List.length_take, List.length_drop]; omega) | decide | omega))) | ((with_reducible apply isl_c); (· (repeat' (first | assumption | exact c_last | (with_reducible apply c_app) | (with_reducible apply c_set) | ((with_reducible apply c_setne); (· omega)) | ((with_reducible apply c_ex); (· assumption); (· omega)))))) | (with_reducible apply isl_l) | ((with_reducible apply s_frz); (· exact rfl); (· (repeat' (first | assumption | exact c_last | (with_reducible apply c_app) | (with_reducible apply c_set) | ((with_reducible apply c_setne); (· omega)) | ((with_reducible apply c_ex); (· assumption); (· omega)))))) | ((with_reducible apply s_frz0); (· exact rfl); (· intro _ z; cases z)) | ((with_reducible apply wO_eq); (· exact rfl)) | (with_reducible exact rfl)))
section
variable {A : Ad}
theorem s_frzX {i : Nat} {env : DEnv} {mu : Mu} {sa : DenS} {x : Option D} {N : DEnv → Mu → Prop} {R : D → Mu → Prop} {B C : DEnv → Mu → Prop} {E : XD → Mu → Prop} (h1 : env[i]? = some x) (h2 : ∀ k, x ≠ some (.cell k)) (h3 : wS (sa env mu) N R B C E) : wS (mFrz i sa env mu) N R B C E := by
  unfold mFrz
  rw [h1]
  cases x with
  | none => exact h3
  | some d =>
    cases d with
    | cell k => exact absurd rfl (h2 k)
    | _ => exact h3
def bnd (xs : List Bool) : Nat := (xs.map fun b => if b then 220 else 70).sum
theorem main : ∀ A : Ad, ∀ ns : List Int, ns.length ≤ 63 → ∃ mu, d_law A [scriptD ns] (tabCells (tb A)) = .ok (.bl true) mu := by
  intro A ns hl
  have key : wR (d_law A [scriptD ns] (tabCells (tb A))) (fun d _ => d = .bl true) no2 := by
    refine w_den ?_
    show wS (m_law A [some (scriptD ns), none, none, none, none, none, none, none, none, none, none, none, none] (tabCells (tb A))) _ _ _ _ _
    have hw := @wide_w A
    unfold m_law
    generalize b_law_2 A = B2 at hw ⊢
    rw [e_begin]
    (repeat' (first | (refine go1 ?_) | fail "wn"))
    refine begin_w hl ?_
    intro m1 h1
    have len1 := h1.len
    (repeat' (first | (refine go1 ?_) | (with_reducible refine w_eq (newN_eq) ?_) | (with_reducible refine wO_eq (newN_eq) ?_) | fail "wn"))
    generalize hc : m1.length = c at len1
    have hm1 : (m1 ++ [Cell.nd c []])[c]? = some (.nd c []) := by
      rw [← hc]
      exact c_last
    refine s_forE DL.D.bl (fun xs env m => ∃ (KS : List NestedKey) (x3 x4 x5 : Option DL.D), AllK KS ∧ KS.length + bnd xs ≤ 290 ∧ (KS = [] → xs = [false, true]) ∧ Dr (tb A) 0 m ∧ m[c]? = some (.nd c KS) ∧
      env = [some (scriptD ns), some (.cell ((tb A).length + 1)), some (.cell c), x3, x4, x5, none, none, none, none, none, none, none]) [false, true] ?_ ?_ ?_
    · refine ⟨[], none, none, none, (fun k h => nomatch h), (by decide), (fun _ => rfl), ?_, hm1, rfl⟩
      (repeat' (first | assumption | ((with_reducible apply Dr.app); rotate_left; (· exact rfl)) | ((with_reducible apply Dr.set); rotate_left; (· omega); (· exact rfl))))
    · rintro b rest env m ⟨KS, x3, x4, x5, hk, hb, hne, hd, hm, rfl⟩
      have hb2 : KS.length + ((if b = true then 220 else 70) + bnd rest) ≤ 290 := by
        have : bnd (b :: rest) = (if b = true then 220 else 70) + bnd rest := by unfold bnd; rw [List.map_cons, List.sum_cons]
        rw [← this]; exact hb
      (repeat' (first | (refine go1 ?_) | fail "wn"))
      refine hw (T := tb A) (c := c) (KS := KS) hd hm hk (by omega) (by omega) ?_
      intro y4 y5 KS' m' h1 h2 h3 h4 h5
      exact ⟨KS', _, _, _, h3, by omega, fun h => absurd h h5, h1, h2, rfl⟩
    · rintro env m ⟨KS, x3, x4, x5, hk, hb, hne, hd, hm, rfl⟩
      have hlen : KS.length ≤ 290 := by have : bnd [] = 0 := rfl; omega
      have hpos : 1 ≤ KS.length := by
        cases KS with
        | nil => exact absurd (hne rfl) (by decide)
        | cons _ _ => simp
      (repeat' (first | (refine go1 ?_) | (with_reducible refine w_eq (list_nd hm (by omega)) ?_) | (with_reducible refine wO_eq (list_nd hm (by omega)) ?_) | fail "wn"))
      refine mixed_w KS hk (by omega) hd (by omega) ?_
      intro k m2 hp h2 f2
      have hm2 : m2[c]? = some (.nd c KS) := c_ex f2 (by omega) hm
      have ak : AllK k := fun x hx => hk x (hp.mem_iff.mp hx)
      (repeat' (first | (refine go1 ?_) | (with_reducible refine w_eq (sl_lst) ?_) | (with_reducible refine wO_eq (sl_lst) ?_) | fail "wn"))
      refine s_frzX (x := none) rfl (fun _ h => by cases h) ?_
      rw [← List.map_take]
      (repeat' (first | (refine go1 ?_) | fail "wn"))
      refine s_forE dOf (fun xs env mm => ∃ (x4 x7 x8 : Option DL.D), (∀ x ∈ xs, HasK x) ∧ (∀ j, x7 ≠ some (.cell j)) ∧ Dr (tb A) 300 mm ∧ mm[c]? = some (.nd c KS) ∧
        env = [some (scriptD ns), some (.cell ((tb A).length + 1)), some (.cell c), x3, x4, x5, some (.lst ((k.take 40).map dOf)), x7, x8, none, none, none, none]) (k.take 40) ?_ ?_ ?_
      · exact ⟨x4, none, none, (fun x hx => ak x (List.mem_of_mem_take hx)), (fun _ h => by cases h), h2.mono (by omega), hm2, rfl⟩
      · rintro kk rest env mm ⟨x4, x7, x8, hin, h7, hd, hmm, rfl⟩
        obtain ⟨n, e, r, i, m, t, rfl, k1, k2, be, br, bi, bm, bt, hh⟩ := hin kk List.mem_cons_self
        rw [dOf_key]
        (repeat' (first | (refine go1 ?_) | fail "wn"))
        refine b4_w (T := tb A) k1 k2 (be.mono (by decide)) (br.mono (by decide)) (bi.mono (by decide)) (bm.mono (by decide)) (bt.mono (by decide)) hh hd ?_
        intro y8 cc hcc
        refine ⟨_, _, _, fun x hx => hin x (List.mem_cons_of_mem _ hx), fun _ h => ?_, ?_, c_app hmm, rfl⟩
        · cases h
        · exact hd.app hcc
      · rintro env mm ⟨x4, x7, x8, hin, h7, hd, hmm, rfl⟩
        refine s_frzX (x := x7) rfl h7 ?_
        (repeat' (first | (refine go1 ?_) | fail "wn"))
        refine s_forE (fun i : Nat => DL.D.int (i : Nat)) (fun xs env mm => ∃ (x4 x7 x10 x11 x12 : Option DL.D), (∀ j, x7 ≠ some (.cell j)) ∧ xs.length ≤ 40 ∧ Dr (tb A) (1000 - 12 * xs.length) mm ∧ mm[c]? = some (.nd c KS) ∧
          env = [some (scriptD ns), some (.cell ((tb A).length + 1)), some (.cell c), x3, x4, x5, some (.lst ((k.take 40).map dOf)), x7, x8, none, x10, x11, x12]) (List.range (Int.toNat 40)) ?_ ?_ ?_
        · exact ⟨x4, x7, none, none, none, h7, by rw [List.length_range]; decide, hd.mono (by rw [List.length_range]; decide), hmm, rfl⟩
        · rintro a rest env mm ⟨x4, x7, x10, x11, x12, h7, hl, hd, hmm, rfl⟩
          simp only [List.length_cons] at hl hd
          (repeat' (first | (refine go1 ?_) | fail "wn"))
          refine b6_w (T := tb A) (KS := KS) (by omega) hd (by omega) hmm hk (by omega) hpos ?_
          intro y4 y7 y11 y12 m' h7' hd' hm'
          exact ⟨_, _, _, _, _, h7', by omega, hd'.mono (by omega), hm', rfl⟩
        · rintro env mm ⟨x4, x7, x10, x11, x12, h7, hl, hd, hmm, rfl⟩
          (repeat' (first | (refine go1 ?_) | fail "wn"))
  obtain ⟨d, m, e, rfl⟩ := w_out key
  exact ⟨m, e⟩
end
end K24

open PySem PySem.W PyProof.Rows
set_option maxRecDepth 100000 in
set_option maxHeartbeats 0 in
theorem PySem.Challenge.cw_anyitems_k24_whole_five_amounts_of_small_holds : PySem.Challenge.rw_anyitems_k24_whole_five_amounts_of_small.Holds := by
  w_on; o_law; k_head; (case hw => w_witness2)
  k_fill
  refine DL.walk_G (l := PySem.Challenge.rw_anyitems_k24_whole_five_amounts_of_small) (k := 6) (x := "_law_script") rfl rfl ⟨rfl, by decide, by decide⟩ ?F
  case F =>
    intro w mg fa h Y G hmg
    have KX := PySem.W.kIn_of Y
    refine' K24.all_mk (by kernel_rfl) KX G hmg ?e__law_begin ?l__law_begin ?i__law_begin ?k__law_begin ?e__law_small_lists ?l__law_small_lists ?i__law_small_lists ?k__law_small_lists ?e__law_blend ?l__law_blend ?i__law_blend ?k__law_blend ?e__law_take ?l__law_take ?i__law_take ?k__law_take ?e__law_mixed ?l__law_mixed ?i__law_mixed ?k__law_mixed ?e_is_number ?l_is_number ?i_is_number ?k_is_number ?e_is_from_zero ?l_is_from_zero ?i_is_from_zero ?k_is_from_zero ?e_need_told ?l_need_told ?i_need_told ?k_need_told ?e_kind_words ?l_kind_words ?i_kind_words ?k_kind_words ?e_worth_of ?l_worth_of ?i_worth_of ?k_worth_of ?e_list_facts ?l_list_facts ?i_list_facts ?k_list_facts ?e_keeps ?l_keeps ?i_keeps ?k_keeps ?e_kinds ?l_kinds ?i_kinds ?k_kinds ?e_pairs_for_one ?l_pairs_for_one ?i_pairs_for_one ?k_pairs_for_one ?e_pairs_for_two ?l_pairs_for_two ?i_pairs_for_two ?k_pairs_for_two ?e_numbers_for ?l_numbers_for ?i_numbers_for ?k_numbers_for ?e_items_for ?l_items_for ?i_items_for ?k_items_for ?e__law_five ?l__law_five ?i__law_five ?k__law_five ?e__law_kinds ?l__law_kinds ?i__law_kinds ?k__law_kinds ?e__law_pick ?l__law_pick ?i__law_pick ?k__law_pick ?e_law ?l_law ?i_law ?k_law ?z_abs ?z_list ?z_range ?z_int ?z_len ?z_isinstance ?z_bool ?z_tuple ?z_all ?z_sum ?z_max ?x_WORDS ?y_WORDS ?u_WORDS ?v_WORDS ?w_WORDS ?x_ONE_BOX ?y_ONE_BOX ?x_KIND_ONE ?y_KIND_ONE ?x_KIND_TWO ?y_KIND_TWO ?e_BadAmounts ?q_BadAmounts ?k_BadAmounts ?b_BadAmounts ?t_BadAmounts ?j_BadAmounts K24.main
    (case e__law_begin => k_is); (case l__law_begin => k_is); (case i__law_begin => k_is); (case k__law_begin => k_is); (case e__law_small_lists => k_is); (case l__law_small_lists => k_is)
    (case i__law_small_lists => k_is); (case k__law_small_lists => k_is); (case e__law_blend => k_is); (case l__law_blend => k_is); (case i__law_blend => k_is); (case k__law_blend => k_is)
    (case e__law_take => k_is); (case l__law_take => k_is); (case i__law_take => k_is); (case k__law_take => k_is); (case e__law_mixed => k_is); (case l__law_mixed => k_is)
    (case i__law_mixed => k_is); (case k__law_mixed => k_is); (case e_is_number => k_is); (case l_is_number => k_is); (case i_is_number => k_is); (case k_is_number => k_is)
    (case e_is_from_zero => k_is); (case l_is_from_zero => k_is); (case i_is_from_zero => k_is); (case k_is_from_zero => k_is); (case e_need_told => k_is); (case l_need_told => k_is)
    (case i_need_told => k_is); (case k_need_told => k_is); (case e_kind_words => k_is); (case l_kind_words => k_is); (case i_kind_words => k_is); (case k_kind_words => k_is)
    (case e_worth_of => k_is); (case l_worth_of => k_is); (case i_worth_of => k_is); (case k_worth_of => k_is); (case e_list_facts => k_is); (case l_list_facts => k_is)
    (case i_list_facts => k_is); (case k_list_facts => k_is); (case e_keeps => k_is); (case l_keeps => k_is); (case i_keeps => k_is); (case k_keeps => k_is)
    (case e_kinds => k_is); (case l_kinds => k_is); (case i_kinds => k_is); (case k_kinds => k_is); (case e_pairs_for_one => k_is); (case l_pairs_for_one => k_is)
    (case i_pairs_for_one => k_is); (case k_pairs_for_one => k_is); (case e_pairs_for_two => k_is); (case l_pairs_for_two => k_is); (case i_pairs_for_two => k_is); (case k_pairs_for_two => k_is)
    (case e_numbers_for => k_is); (case l_numbers_for => k_is); (case i_numbers_for => k_is); (case k_numbers_for => k_is); (case e_items_for => k_is); (case l_items_for => k_is)
    (case i_items_for => k_is); (case k_items_for => k_is); (case e__law_five => k_is); (case l__law_five => k_is); (case i__law_five => k_is); (case k__law_five => k_is)
    (case e__law_kinds => k_is); (case l__law_kinds => k_is); (case i__law_kinds => k_is); (case k__law_kinds => k_is); (case e__law_pick => k_is); (case l__law_pick => k_is)
    (case i__law_pick => k_is); (case k__law_pick => k_is); (case e_law => k_is); (case l_law => k_is); (case i_law => k_is); (case k_law => k_is)
    (case z_abs => k_is); (case z_list => k_is); (case z_range => k_is); (case z_int => k_is); (case z_len => k_is); (case z_isinstance => k_is)
    (case z_bool => k_is); (case z_tuple => k_is); (case z_all => k_is); (case z_sum => k_is); (case z_max => k_is); (case x_WORDS => k_is)
    (case y_WORDS => kernel_rfl); (case u_WORDS => k_is); (case v_WORDS => rfl); (case w_WORDS => rfl); (case x_ONE_BOX => k_is); (case y_ONE_BOX => kernel_rfl)
    (case x_KIND_ONE => k_is); (case y_KIND_ONE => kernel_rfl); (case x_KIND_TWO => k_is); (case y_KIND_TWO => kernel_rfl); (case e_BadAmounts => k_is); (case q_BadAmounts => k_exc)
    (case k_BadAmounts => k_is); (case b_BadAmounts => k_is); (case t_BadAmounts => k_is); (case j_BadAmounts => kernel_rfl)
