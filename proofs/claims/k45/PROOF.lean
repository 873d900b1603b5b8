import PyProof.Rows.All
import Wide.All
import OpenK.AllK
import Wide.FinOn
import HandS.ForMost
import HandS.Exc
import HandS.TryOnly
import HandS.ExcOwn
import HandS.ExcInit
import HandS.ExcField
import HandS.TryMany
import HandS.CallSlots
import HandS.Conv
import HandS.IsInst
import HandS.SortInts
import HandS.SortKw
import HandS.Style
import HandS.Wide
import HandS.Flow
import HandS.WordsExc
import HandS.RevRange
import HandS.Rev
import HandS.Deep
import HandS.FStr
import HandS.StrMore
import PySem.Challenge.RW_dialhouse_k45_whole_splitting
set_option Elab.async false
set_option linter.all false
set_option maxRecDepth 100000
set_option maxHeartbeats 4000000
/-! A layer of values: what a Python value is worth as plain data; lists are frozen, own, lent or passing. -/
namespace DH
open PySem L2

inductive LK where
  | frz | own | bor | tmp
  deriving DecidableEq

inductive D where
  | non
  | bl (b : Bool)
  | int (i : Int)
  | str (x : Str)
  | lst (k : LK) (xs : List D)
  | tup (xs : List D)
  | ins (c : Str) (fs : List (Str × D))
  | obj (c : Str) (fs : List (Str × D))
  | scr (ns : List Int)

mutual
/-- may be held twice: no own list within -/
def D.dup : D → Bool
  | .lst .own _ => false
  | .lst .tmp _ => false
  | .lst .frz _ => true
  | .lst .bor _ => true
  | .tup xs => D.dupAll xs
  | .obj _ _ => false
  | .non => true | .bl _ => true | .int _ => true | .str _ => true | .ins _ _ => true | .scr _ => true
def D.dupAll : List D → Bool
  | [] => true
  | x :: xs => D.dup x && D.dupAll xs
end
mutual
/-- may be handed back: no lent list within -/
def D.ret : D → Bool
  | .lst .own _ => true
  | .lst .tmp _ => false
  | .lst .frz _ => true
  | .lst .bor _ => false
  | .tup xs => D.retAll xs
  | .obj _ _ => false
  | .scr _ => false
  | .non => true | .bl _ => true | .int _ => true | .str _ => true | .ins _ _ => true
def D.retAll : List D → Bool
  | [] => true
  | x :: xs => D.ret x && D.retAll xs
end
mutual
/-- own lists become frozen -/
def D.frz : D → D
  | .lst .own xs => .lst .frz (D.frzAll xs)
  | .tup xs => .tup (D.frzAll xs)
  | .lst .tmp xs => .lst .tmp xs
  | .lst .frz xs => .lst .frz xs
  | .lst .bor xs => .lst .bor xs
  | .non => .non | .bl b => .bl b | .int i => .int i | .str x => .str x | .ins c fs => .ins c fs | .obj c fs => .obj c fs | .scr ns => .scr ns
def D.frzAll : List D → List D
  | [] => []
  | x :: xs => D.frz x :: D.frzAll xs
end
mutual
/-- own lists are lent to a def that is called -/
def D.lend : D → D
  | .lst .own xs => .lst .bor (D.lendAll xs)
  | .lst .tmp xs => .lst .bor (D.lendAll xs)
  | .tup xs => .tup (D.lendAll xs)
  | .lst .frz xs => .lst .frz xs
  | .lst .bor xs => .lst .bor xs
  | .non => .non | .bl b => .bl b | .int i => .int i | .str x => .str x | .ins c fs => .ins c fs | .obj c fs => .obj c fs | .scr ns => .scr ns
def D.lendAll : List D → List D
  | [] => []
  | x :: xs => D.lend x :: D.lendAll xs
end
mutual
/-- no object that is being made within -/
def D.len : D → Bool
  | .lst .tmp xs => D.lenAll xs
  | .lst .own _ => true
  | .lst .frz _ => true
  | .lst .bor _ => true
  | .tup xs => D.lenAll xs
  | .obj _ _ => false
  | .non => true | .bl _ => true | .int _ => true | .str _ => true | .ins _ _ => true | .scr _ => true
def D.lenAll : List D → Bool
  | [] => true
  | x :: xs => D.len x && D.lenAll xs
end
def D.pureAll (xs : List D) : Bool := D.dupAll xs && D.retAll xs

/-- the written part, the module's names -/
structure Tx where
  K : PySem.W.Frag
  mg : Str → Option Value
/-- what the derivations of one def share: .., the heap and what is frozen at the entry, a caught exception's slot and address -/
structure Gam where
  T : Tx
  H0 : Hp
  F0 : Hp
  pin : Option (Nat × Addr)
abbrev Gam.K (G : Gam) : PySem.W.Frag := G.T.K
abbrev Gam.mg (G : Gam) : Str → Option Value := G.T.mg
/-- .. from a later point on -/
abbrev Gam.at (G : Gam) (H0 F0 : Hp) : Gam := { G with H0 := H0, F0 := F0 }

/-- the class named c, none of its attributes named as a field -/
structure ClsAt (G : Tx) (c : Str) (C : Addr) (fs : List Str) : Prop where
  g : G.mg c = some (.ref C)
  cls : Cls G.K C
  no : ∀ f ∈ fs, NoAttr G.K C f
mutual
inductive Dat (G : Tx) (F B H : Hp) : V → D → List Addr → Prop
  | non : Dat G F B H .non .non []
  | bl (b : Bool) : Dat G F B H (.bl b) (.bl b) []
  | int (i : Int) : Dat G F B H (.int i) (.int i) []
  | str (x : Str) : Dat G F B H (.str x) (.str x) []
  | frz {a : Addr} {vs : List V} {ds : List D} : F a = some (.lst vs) → Dats G F B H vs ds [] → D.pureAll ds = true → Dat G F B H (.ref a) (.lst .frz ds) []
  | own {a : Addr} {vs : List V} {ds : List D} {p : List Addr} : H a = some (.lst vs) → B a = none → Dats G F B H vs ds p → D.retAll ds = true → Dat G F B H (.ref a) (.lst .own ds) (a :: p)
  | tmp {a : Addr} {vs : List V} {ds : List D} {p : List Addr} : H a = some (.lst vs) → B a = none → Dats G F B H vs ds p → Dat G F B H (.ref a) (.lst .tmp ds) (a :: p)
  | bor {a : Addr} {vs : List V} {ds : List D} : B a = some (.lst vs) → Dats G F B H vs ds [] → D.dupAll ds = true → Dat G F B H (.ref a) (.lst .bor ds) []
  | tup {a : Addr} {vs : List V} {ds : List D} {p : List Addr} : SqT G.K F a vs → Dats G F B H vs ds p → Dat G F B H (.ref a) (.tup ds) p
  | ins {a C dx : Addr} {c : Str} {fvs : List (Str × V)} {fs : List (Str × D)} : F a = some (.ins C dx fvs) → ClsAt G c C (fs.map (·.1)) → fvs.map (·.1) = fs.map (·.1) → Dats G F B H (fvs.map (·.2)) (fs.map (·.2)) [] →
      D.pureAll (fs.map (·.2)) = true → Dat G F B H (.ref a) (.ins c fs) []
  | obj {a C dx : Addr} {c : Str} {fvs : List (Str × V)} {fs : List (Str × D)} : H a = some (.ins C dx fvs) → B a = none → ClsAt G c C (fs.map (·.1)) → fvs.map (·.1) = fs.map (·.1) → Dats G F B H (fvs.map (·.2)) (fs.map (·.2)) [] →
      D.pureAll (fs.map (·.2)) = true → Dat G F B H (.ref a) (.obj c fs) [a]
  | scr {a : Addr} {ns : List Int} : SqL G.K B a (ns.map V.int) → Dat G F B H (.ref a) (.scr ns) []
inductive Dats (G : Tx) (F B H : Hp) : List V → List D → List Addr → Prop
  | nil : Dats G F B H [] [] []
  | cons {v : V} {vs : List V} {d : D} {ds : List D} {p q : List Addr} : Dat G F B H v d p → Dats G F B H vs ds q → Dats G F B H (v :: vs) (d :: ds) (p ++ q)
end

section
variable {G : Tx} {F B H F' B' H' : Hp}
theorem seqT_same {K : PySem.W.Frag} {H H' : Hp} {a : Addr} {xs : List V} (e : Same H H') (h : SqT K H a xs) : SqT K H' a xs := by
  rcases h with (h | ⟨o, h⟩) | h
  · exact .inl (.inl (e _ _ h))
  · exact .inl (.inr ⟨o, e _ _ h⟩)
  · exact .inr h
mutual
/-- what a datum leans on -/
theorem Dat.stay (sf : Same F F') (sb : Same B B') : ∀ {v : V} {d : D} {p : List Addr}, Dat G F B H v d p → (∀ a ∈ p, H' a = H a ∧ B' a = none) → Dat G F' B' H' v d p
  | _, _, _, .non, _ => .non
  | _, _, _, .bl b, _ => .bl b
  | _, _, _, .int i, _ => .int i
  | _, _, _, .str x, _ => .str x
  | _, _, _, .frz e h c, _ => .frz (sf _ _ e) (Dats.stay sf sb h fun _ z => nomatch z) c
  | _, _, _, .own e n h c, k => .own ((k _ List.mem_cons_self).1.trans e) (k _ List.mem_cons_self).2 (Dats.stay sf sb h fun a z => k a (List.mem_cons_of_mem _ z)) c
  | _, _, _, .tmp e n h, k => .tmp ((k _ List.mem_cons_self).1.trans e) (k _ List.mem_cons_self).2 (Dats.stay sf sb h fun a z => k a (List.mem_cons_of_mem _ z))
  | _, _, _, .bor e h c, _ => .bor (sb _ _ e) (Dats.stay sf sb h fun _ z => nomatch z) c
  | _, _, _, .tup e h, k => .tup (seqT_same sf e) (Dats.stay sf sb h k)
  | _, _, _, .ins e m n h c, _ => .ins (sf _ _ e) m n (Dats.stay sf sb h fun _ z => nomatch z) c
  | _, _, _, .obj e b m n h c, k => .obj ((k _ List.mem_cons_self).1.trans e) (k _ List.mem_cons_self).2 m n (Dats.stay sf sb h fun _ z => nomatch z) c
  | _, _, _, .scr e, _ => .scr (sb.seq e)
theorem Dats.stay (sf : Same F F') (sb : Same B B') : ∀ {vs : List V} {ds : List D} {p : List Addr}, Dats G F B H vs ds p → (∀ a ∈ p, H' a = H a ∧ B' a = none) → Dats G F' B' H' vs ds p
  | _, _, _, .nil, _ => .nil
  | _, _, _, .cons h t, k => .cons (Dat.stay sf sb h fun a z => k a (List.mem_append_left _ z)) (Dats.stay sf sb t fun a z => k a (List.mem_append_right _ z))
end
mutual
/-- an own list stands, and is not lent -/
theorem Dat.foot : ∀ {v : V} {d : D} {p : List Addr}, Dat G F B H v d p → ∀ a ∈ p, H a ≠ none ∧ B a = none
  | _, _, _, .non, _, z => nomatch z
  | _, _, _, .bl b, _, z => nomatch z
  | _, _, _, .int i, _, z => nomatch z
  | _, _, _, .str x, _, z => nomatch z
  | _, _, _, .frz _ _ _, _, z => nomatch z
  | _, _, _, .own e n h _, a, z => by
    rcases List.mem_cons.mp z with rfl | z
    · exact ⟨(by rw [e]; exact fun q => nomatch q), n⟩
    · exact Dats.foot h a z
  | _, _, _, .tmp e n h, a, z => by
    rcases List.mem_cons.mp z with rfl | z
    · exact ⟨(by rw [e]; exact fun q => nomatch q), n⟩
    · exact Dats.foot h a z
  | _, _, _, .bor _ _ _, _, z => nomatch z
  | _, _, _, .tup _ h, a, z => Dats.foot h a z
  | _, _, _, .ins _ _ _ _ _, _, z => nomatch z
  | _, _, _, .obj e n _ _ _ _, a, z => by
    rcases List.mem_cons.mp z with rfl | z
    · exact ⟨(by rw [e]; exact fun q => nomatch q), n⟩
    · exact nomatch z
  | _, _, _, .scr _, _, z => nomatch z
theorem Dats.foot : ∀ {vs : List V} {ds : List D} {p : List Addr}, Dats G F B H vs ds p → ∀ a ∈ p, H a ≠ none ∧ B a = none
  | _, _, _, .nil, _, z => nomatch z
  | _, _, _, .cons h t, a, z => by
    rcases List.mem_append.mp z with z | z
    · exact Dat.foot h a z
    · exact Dats.foot t a z
end
mutual
theorem Dat.fp_dup : ∀ {v : V} {d : D} {p : List Addr}, Dat G F B H v d p → d.dup = true → p = []
  | _, _, _, .non, _ => rfl
  | _, _, _, .bl b, _ => rfl
  | _, _, _, .int i, _ => rfl
  | _, _, _, .str x, _ => rfl
  | _, _, _, .frz _ _ _, _ => rfl
  | _, _, _, .own _ _ _ _, z => nomatch z
  | _, _, _, .tmp _ _ _, z => nomatch z
  | _, _, _, .bor _ _ _, _ => rfl
  | _, _, _, .tup _ h, z => Dats.fp_dup h z
  | _, _, _, .ins _ _ _ _ _, _ => rfl
  | _, _, _, .obj _ _ _ _ _ _, z => nomatch z
  | _, _, _, .scr _, _ => rfl
theorem Dats.fp_dup : ∀ {vs : List V} {ds : List D} {p : List Addr}, Dats G F B H vs ds p → D.dupAll ds = true → p = []
  | _, _, _, .nil, _ => rfl
  | _, _, _, .cons h t, z => by
    obtain ⟨z1, z2⟩ := Bool.and_eq_true_iff.mp z
    rw [Dat.fp_dup h z1, Dats.fp_dup t z2] <;> rfl
end
theorem Dats.length : ∀ {vs : List V} {ds : List D} {p : List Addr}, Dats G F B H vs ds p → vs.length = ds.length
  | _, _, _, .nil => rfl
  | _, _, _, .cons _ t => congrArg (· + 1) t.length
theorem Dats.get : ∀ {vs : List V} {ds : List D} {p : List Addr} {i : Nat} {d : D}, Dats G F B H vs ds p → ds[i]? = some d → ∃ v q, vs[i]? = some v ∧ Dat G F B H v d q ∧ ∀ a ∈ q, a ∈ p
  | _, _, _, i, _, .nil, e => by simp at e
  | _, _, _, 0, _, .cons h t, e => by
    simp at e; subst e
    exact ⟨_, _, rfl, h, fun a z => List.mem_append_left _ z⟩
  | _, _, _, i + 1, _, .cons h t, e => by
    obtain ⟨v, q, e1, h1, k⟩ := Dats.get (i := i) t (by simpa using e)
    exact ⟨v, q, by simpa using e1, h1, fun a z => List.mem_append_right _ (k a z)⟩
theorem Dats.append : ∀ {vs ws : List V} {ds es : List D} {p q : List Addr}, Dats G F B H vs ds p → Dats G F B H ws es q → Dats G F B H (vs ++ ws) (ds ++ es) (p ++ q)
  | _, _, _, _, _, _, .nil, s => s
  | _, _, _, _, _, _, .cons (p := p1) h t, s => by
    rw [List.append_assoc]
    exact .cons h (t.append s)
theorem Dats.uncons : ∀ {vs : List V} {d : D} {ds : List D} {r : List Addr}, Dats G F B H vs (d :: ds) r → ∃ v ws p q, vs = v :: ws ∧ r = p ++ q ∧ Dat G F B H v d p ∧ Dats G F B H ws ds q
  | _, _, _, _, .cons h t => ⟨_, _, _, _, rfl, rfl, h, t⟩
theorem Dats.unnil : ∀ {vs : List V} {r : List Addr}, Dats G F B H vs [] r → vs = [] ∧ r = []
  | _, _, .nil => ⟨rfl, rfl⟩
theorem Dats.uncons0 {vs : List V} {d : D} {ds : List D} (h : Dats G F B H vs (d :: ds) []) : ∃ v ws, vs = v :: ws ∧ Dat G F B H v d [] ∧ Dats G F B H ws ds [] := by
  obtain ⟨v, ws, p, q, e, r, h1, h2⟩ := h.uncons
  obtain ⟨rfl, rfl⟩ := List.append_eq_nil_iff.mp r.symm
  exact ⟨v, ws, e, h1, h2⟩
theorem Dats.cons0 {v : V} {vs : List V} {d : D} {ds : List D} (h : Dat G F B H v d []) (t : Dats G F B H vs ds []) : Dats G F B H (v :: vs) (d :: ds) [] := Dats.cons h t
theorem Dats.app0 {vs ws : List V} {ds es : List D} (h : Dats G F B H vs ds []) (t : Dats G F B H ws es []) : Dats G F B H (vs ++ ws) (ds ++ es) [] := h.append t
theorem Dats.drop : ∀ (n : Nat) {vs : List V} {ds : List D}, Dats G F B H vs ds [] → Dats G F B H (vs.drop n) (ds.drop n) []
  | 0, _, _, h => h
  | n + 1, _, [], h => by
    obtain ⟨rfl, _⟩ := h.unnil
    exact h
  | n + 1, _, d :: ds, h => by
    obtain ⟨v, ws, rfl, h1, h2⟩ := h.uncons0
    exact Dats.drop n h2
theorem Dats.take : ∀ (n : Nat) {vs : List V} {ds : List D}, Dats G F B H vs ds [] → Dats G F B H (vs.take n) (ds.take n) []
  | 0, _, _, h => .nil
  | n + 1, _, [], h => by
    obtain ⟨rfl, _⟩ := h.unnil
    exact h
  | n + 1, _, d :: ds, h => by
    obtain ⟨v, ws, rfl, h1, h2⟩ := h.uncons0
    exact .cons0 h1 (Dats.take n h2)
theorem Dats.rev : ∀ {vs : List V} {ds : List D}, Dats G F B H vs ds [] → Dats G F B H vs.reverse ds.reverse []
  | _, [], h => by
    obtain ⟨rfl, _⟩ := h.unnil
    exact h
  | _, d :: ds, h => by
    obtain ⟨v, ws, rfl, h1, h2⟩ := h.uncons0
    rw [List.reverse_cons, List.reverse_cons]
    exact (Dats.rev h2).app0 (.cons0 h1 .nil)
theorem Dats.rep {vs : List V} {ds : List D} (h : Dats G F B H vs ds []) : ∀ k : Nat, Dats G F B H (List.replicate k vs).flatten (List.replicate k ds).flatten []
  | 0 => .nil
  | k + 1 => by
    rw [List.replicate_succ, List.replicate_succ, List.flatten_cons, List.flatten_cons]
    exact h.app0 (Dats.rep h k)
theorem Dats.ints : ∀ (ns : List Int), Dats G F B H (ns.map V.int) (ns.map D.int) []
  | [] => .nil
  | n :: ns => .cons0 (.int n) (Dats.ints ns)
theorem Dats.to_ints : ∀ {ns : List Int} {vs : List V} {p : List Addr}, Dats G F B H vs (ns.map D.int) p → vs = ns.map V.int
  | [], _, _, h => h.unnil.1
  | n :: ns, _, _, h => by
    obtain ⟨v, ws, p, q, rfl, _, h1, h2⟩ := h.uncons
    cases h1
    rw [Dats.to_ints h2]
    rfl
theorem Dats.to_strs : ∀ {ns : List Str} {vs : List V} {p : List Addr}, Dats G F B H vs (ns.map D.str) p → vs = ns.map V.str
  | [], _, _, h => h.unnil.1
  | n :: ns, _, _, h => by
    obtain ⟨v, ws, p, q, rfl, _, h1, h2⟩ := h.uncons
    cases h1
    rw [Dats.to_strs h2]
    rfl
theorem Dats.strs : ∀ (ns : List Str), Dats G F B H (ns.map V.str) (ns.map D.str) []
  | [] => .nil
  | n :: ns => .cons0 (.str n) (Dats.strs ns)

/-! ### pure lists -/
theorem dupAll_append (xs ys : List D) : D.dupAll (xs ++ ys) = (D.dupAll xs && D.dupAll ys) := by
  induction xs with
  | nil => rfl
  | cons x xs ih =>
    show (D.dup x && D.dupAll (xs ++ ys)) = ((D.dup x && D.dupAll xs) && D.dupAll ys)
    rw [ih, Bool.and_assoc]
theorem retAll_append (xs ys : List D) : D.retAll (xs ++ ys) = (D.retAll xs && D.retAll ys) := by
  induction xs with
  | nil => rfl
  | cons x xs ih =>
    show (D.ret x && D.retAll (xs ++ ys)) = ((D.ret x && D.retAll xs) && D.retAll ys)
    rw [ih, Bool.and_assoc]
theorem dupAll_iff {xs : List D} : D.dupAll xs = true ↔ ∀ x ∈ xs, x.dup = true := by
  induction xs with
  | nil => exact ⟨fun _ _ z => (nomatch z), fun _ => rfl⟩
  | cons x xs ih =>
    show (D.dup x && D.dupAll xs) = true ↔ _
    rw [Bool.and_eq_true_iff, ih]
    simp
theorem retAll_iff {xs : List D} : D.retAll xs = true ↔ ∀ x ∈ xs, x.ret = true := by
  induction xs with
  | nil => exact ⟨fun _ _ z => (nomatch z), fun _ => rfl⟩
  | cons x xs ih =>
    show (D.ret x && D.retAll xs) = true ↔ _
    rw [Bool.and_eq_true_iff, ih]
    simp

/-! ### freezing -/
def frzH (H : Hp) (p : List Addr) (F : Hp) : Hp := fun a => if a ∈ p then H a else F a
theorem frzH_in {p : List Addr} {a : Addr} (h : a ∈ p) : frzH H p F a = H a := if_pos h
theorem frzH_out {p : List Addr} {a : Addr} (h : a ∉ p) : frzH H p F a = F a := if_neg h
mutual
theorem D.frz_ret : ∀ (d : D), d.ret = true → d.frz.ret = true
  | .lst .own _, _ => rfl
  | .lst .tmp _, z => nomatch z
  | .lst .frz _, _ => rfl
  | .lst .bor _, z => nomatch z
  | .tup xs, z => D.frzAll_ret xs z
  | .obj _ _, z => nomatch z
  | .scr _, z => nomatch z
  | .non, _ => rfl
  | .bl _, _ => rfl
  | .int _, _ => rfl
  | .str _, _ => rfl
  | .ins _ _, _ => rfl
theorem D.frzAll_ret : ∀ (xs : List D), D.retAll xs = true → D.retAll (D.frzAll xs) = true
  | [], _ => rfl
  | x :: xs, z => by
    obtain ⟨z1, z2⟩ := Bool.and_eq_true_iff.mp z
    exact Bool.and_eq_true_iff.mpr ⟨D.frz_ret x z1, D.frzAll_ret xs z2⟩
end
mutual
theorem D.frz_dup : ∀ (d : D), d.ret = true → d.frz.dup = true
  | .lst .own _, _ => rfl
  | .lst .tmp _, z => nomatch z
  | .lst .frz _, _ => rfl
  | .lst .bor _, z => nomatch z
  | .tup xs, z => D.frzAll_dup xs z
  | .obj _ _, z => nomatch z
  | .scr _, z => nomatch z
  | .non, _ => rfl
  | .bl _, _ => rfl
  | .int _, _ => rfl
  | .str _, _ => rfl
  | .ins _ _, _ => rfl
theorem D.frzAll_dup : ∀ (xs : List D), D.retAll xs = true → D.dupAll (D.frzAll xs) = true
  | [], _ => rfl
  | x :: xs, z => by
    obtain ⟨z1, z2⟩ := Bool.and_eq_true_iff.mp z
    exact Bool.and_eq_true_iff.mpr ⟨D.frz_dup x z1, D.frzAll_dup xs z2⟩
end
mutual
/-- F' holds what stands at p -/
theorem Dat.froz (sf : Same F F') (sb : Same B B') : ∀ {v : V} {d : D} {p : List Addr}, Dat G F B H v d p → d.ret = true → (∀ a ∈ p, F' a = H a) → Dat G F' B' H' v d.frz []
  | _, _, _, .non, _, _ => .non
  | _, _, _, .bl b, _, _ => .bl b
  | _, _, _, .int i, _, _ => .int i
  | _, _, _, .str x, _, _ => .str x
  | _, _, _, .frz e h c, _, k => (Dat.frz e h c).stay sf sb fun _ z => nomatch z
  | _, _, _, .own e n h c, _, k => .frz ((k _ List.mem_cons_self).trans e) (Dats.froz sf sb h c fun a z => k a (List.mem_cons_of_mem _ z)) (Bool.and_eq_true_iff.mpr ⟨D.frzAll_dup _ c, D.frzAll_ret _ c⟩)
  | _, _, _, .tmp e n h, z, _ => nomatch z
  | _, _, _, .bor _ _ _, z, _ => nomatch z
  | _, _, _, .tup e h, z, k => .tup (seqT_same sf e) (Dats.froz sf sb h z k)
  | _, _, _, .ins e m n h c, _, _ => (Dat.ins e m n h c).stay sf sb fun _ z => nomatch z
  | _, _, _, .obj _ _ _ _ _ _, z, _ => nomatch z
  | _, _, _, .scr _, z, _ => nomatch z
theorem Dats.froz (sf : Same F F') (sb : Same B B') : ∀ {vs : List V} {ds : List D} {p : List Addr}, Dats G F B H vs ds p → D.retAll ds = true → (∀ a ∈ p, F' a = H a) → Dats G F' B' H' vs (D.frzAll ds) []
  | _, _, _, .nil, _, _ => .nil
  | _, _, _, .cons h t, z, k => by
    obtain ⟨z1, z2⟩ := Bool.and_eq_true_iff.mp z
    exact .cons0 (Dat.froz sf sb h z1 fun a z => k a (List.mem_append_left _ z)) (Dats.froz sf sb t z2 fun a z => k a (List.mem_append_right _ z))
end
mutual
theorem D.ret_len : ∀ (d : D), d.ret = true → d.len = true
  | .lst .own _, _ => rfl
  | .lst .tmp _, z => nomatch z
  | .lst .frz _, _ => rfl
  | .lst .bor _, _ => rfl
  | .tup xs, z => D.retAll_len xs z
  | .obj _ _, z => nomatch z
  | .scr _, _ => rfl
  | .non, _ => rfl
  | .bl _, _ => rfl
  | .int _, _ => rfl
  | .str _, _ => rfl
  | .ins _ _, _ => rfl
theorem D.retAll_len : ∀ (xs : List D), D.retAll xs = true → D.lenAll xs = true
  | [], _ => rfl
  | x :: xs, z => by
    obtain ⟨z1, z2⟩ := Bool.and_eq_true_iff.mp z
    exact Bool.and_eq_true_iff.mpr ⟨D.ret_len x z1, D.retAll_len xs z2⟩
end
mutual
theorem D.lend_dup : ∀ (d : D), d.len = true → d.lend.dup = true
  | .lst .own _, _ => rfl
  | .lst .tmp _, z => rfl
  | .lst .frz _, _ => rfl
  | .lst .bor _, z => rfl
  | .tup xs, z => D.lendAll_dup xs z
  | .obj _ _, z => nomatch z
  | .scr _, z => rfl
  | .non, _ => rfl
  | .bl _, _ => rfl
  | .int _, _ => rfl
  | .str _, _ => rfl
  | .ins _ _, _ => rfl
theorem D.lendAll_dup : ∀ (xs : List D), D.lenAll xs = true → D.dupAll (D.lendAll xs) = true
  | [], _ => rfl
  | x :: xs, z => by
    obtain ⟨z1, z2⟩ := Bool.and_eq_true_iff.mp z
    exact Bool.and_eq_true_iff.mpr ⟨D.lend_dup x z1, D.lendAll_dup xs z2⟩
end
mutual
/-- lent: B' holds what stands at p -/
theorem Dat.lent (sf : Same F F') (sb : Same B B') : ∀ {v : V} {d : D} {p : List Addr}, Dat G F B H v d p → d.len = true → (∀ a ∈ p, B' a = H a) → Dat G F' B' H' v d.lend []
  | _, _, _, .non, _, _ => .non
  | _, _, _, .bl b, _, _ => .bl b
  | _, _, _, .int i, _, _ => .int i
  | _, _, _, .str x, _, _ => .str x
  | _, _, _, .frz e h c, _, k => (Dat.frz e h c).stay sf sb fun _ z => nomatch z
  | _, _, _, .own e n h c, _, k => .bor ((k _ List.mem_cons_self).trans e) (Dats.lent sf sb h (D.retAll_len _ c) fun a z => k a (List.mem_cons_of_mem _ z)) (D.lendAll_dup _ (D.retAll_len _ c))
  | _, _, _, .tmp e n h, z, k => .bor ((k _ List.mem_cons_self).trans e) (Dats.lent sf sb h z fun a z => k a (List.mem_cons_of_mem _ z)) (D.lendAll_dup _ z)
  | _, _, _, .bor e h c, _, _ => (Dat.bor e h c).stay sf sb fun _ z => nomatch z
  | _, _, _, .tup e h, z, k => .tup (seqT_same sf e) (Dats.lent sf sb h z k)
  | _, _, _, .ins e m n h c, _, _ => (Dat.ins e m n h c).stay sf sb fun _ z => nomatch z
  | _, _, _, .obj _ _ _ _ _ _, z, _ => nomatch z
  | _, _, _, .scr e, _, _ => .scr (sb.seq e)
theorem Dats.lent (sf : Same F F') (sb : Same B B') : ∀ {vs : List V} {ds : List D} {p : List Addr}, Dats G F B H vs ds p → D.lenAll ds = true → (∀ a ∈ p, B' a = H a) → Dats G F' B' H' vs (D.lendAll ds) []
  | _, _, _, .nil, _, _ => .nil
  | _, _, _, .cons h t, z, k => by
    obtain ⟨z1, z2⟩ := Bool.and_eq_true_iff.mp z
    exact .cons0 (Dat.lent sf sb h z1 fun a z => k a (List.mem_append_left _ z)) (Dats.lent sf sb t z2 fun a z => k a (List.mem_append_right _ z))
end
mutual
/-- what may be handed back stands without what was lent -/
theorem Dat.back (fb : Same F B) : ∀ {v : V} {d : D} {p : List Addr}, Dat G F B H v d p → d.ret = true → Dat G F F H v d p
  | _, _, _, .non, _ => .non
  | _, _, _, .bl b, _ => .bl b
  | _, _, _, .int i, _ => .int i
  | _, _, _, .str x, _ => .str x
  | _, _, _, .frz e h c, _ => .frz e (Dats.back fb h (Bool.and_eq_true_iff.mp c).2) c
  | _, _, _, .own e n h c, _ => .own e (fb.free n) (Dats.back fb h c) c
  | _, _, _, .tmp e n h, z => nomatch z
  | _, _, _, .bor e h c, z => nomatch z
  | _, _, _, .tup e h, z => .tup e (Dats.back fb h z)
  | _, _, _, .ins e m n h c, _ => .ins e m n (Dats.back fb h (Bool.and_eq_true_iff.mp c).2) c
  | _, _, _, .obj _ _ _ _ _ _, z => nomatch z
  | _, _, _, .scr e, z => nomatch z
theorem Dats.back (fb : Same F B) : ∀ {vs : List V} {ds : List D} {p : List Addr}, Dats G F B H vs ds p → D.retAll ds = true → Dats G F F H vs ds p
  | _, _, _, .nil, _ => .nil
  | _, _, _, .cons h t, z => by
    obtain ⟨z1, z2⟩ := Bool.and_eq_true_iff.mp z
    exact .cons (Dat.back fb h z1) (Dats.back fb t z2)
end

/-! ### how a heap goes on -/
structure Ext (F B H F' B' H' : Hp) : Prop where
  f : Same F F'
  b : Same B B'
  h : Same H H'
  fb : Same F' B'
  bh : Same B' H'
  of : ∀ a, H a ≠ none → F' a = F a
  ob : ∀ a, H a ≠ none → B' a = B a
theorem Ext.refl (fb : Same F B) (bh : Same B H) : Ext F B H F B H := ⟨.refl _, .refl _, .refl _, fb, bh, fun _ _ => rfl, fun _ _ => rfl⟩
theorem Same.there {H H' : Hp} (e : Same H H') {a : Addr} (h : H a ≠ none) : H' a ≠ none := by
  cases q : H a with
  | none => exact absurd q h
  | some o =>
    rw [e a o q]
    exact fun z => nomatch z
theorem Ext.trans {F2 B2 H2 : Hp} (x : Ext F B H F' B' H') (y : Ext F' B' H' F2 B2 H2) : Ext F B H F2 B2 H2 :=
  ⟨x.f.trans y.f, x.b.trans y.b, x.h.trans y.h, y.fb, y.bh, fun a n => (y.of a (Same.there x.h n)).trans (x.of a n), fun a n => (y.ob a (Same.there x.h n)).trans (x.ob a n)⟩
theorem Ext.at {a : Addr} (x : Ext F B H F' B' H') (n : H a ≠ none) : H' a = H a := by
  cases q : H a with
  | none => exact absurd q n
  | some o => exact x.h a o q
theorem Dat.ext {v : V} {d : D} {p : List Addr} (x : Ext F B H F' B' H') (h : Dat G F B H v d p) : Dat G F' B' H' v d p :=
  h.stay x.f x.b fun a z => ⟨x.at (h.foot a z).1, (x.ob a (h.foot a z).1).trans (h.foot a z).2⟩
theorem Dats.ext {vs : List V} {ds : List D} {p : List Addr} (x : Ext F B H F' B' H') (h : Dats G F B H vs ds p) : Dats G F' B' H' vs ds p :=
  h.stay x.f x.b fun a z => ⟨x.at (h.foot a z).1, (x.ob a (h.foot a z).1).trans (h.foot a z).2⟩
theorem same_upd {H : Hp} {p : Addr} {o : HO} (h : H p = none) : Same H (upd H p o) := fun b x e => by
  rw [upd_ne (ne_of_none e h)]
  exact e
/-- a new object that stays as it is -/
theorem Ext.imm {a : Addr} {o : HO} (fb : Same F B) (bh : Same B H) (n : H a = none) : Ext F B H (upd F a o) (upd B a o) (upd H a o) := by
  have nb : B a = none := bh.free n
  have nf : F a = none := fb.free nb
  refine ⟨same_upd nf, same_upd nb, same_upd n, fun b x e => ?_, fun b x e => ?_, fun b m => ?_, fun b m => ?_⟩
  · by_cases h : b = a
    · subst h; rw [upd_same] at e ⊢; exact e
    · rw [upd_ne h] at e ⊢; exact fb _ _ e
  · by_cases h : b = a
    · subst h; rw [upd_same] at e ⊢; exact e
    · rw [upd_ne h] at e ⊢; exact bh _ _ e
  · exact upd_ne fun z => m (z ▸ n)
  · exact upd_ne fun z => m (z ▸ n)
/-- a new object that is own -/
theorem Ext.new {a : Addr} {o : HO} (fb : Same F B) (bh : Same B H) (n : H a = none) : Ext F B H F B (upd H a o) :=
  ⟨.refl _, .refl _, same_upd n, fb, bh.trans (same_upd n), fun _ _ => rfl, fun _ _ => rfl⟩
theorem mem_frzH {p : List Addr} (hp : ∀ a ∈ p, F a = none) : Same F (frzH H p F) := fun b o e => by
  by_cases h : b ∈ p
  · rw [hp b h] at e; cases e
  · rw [frzH_out h]; exact e
/-- own lists that are new are frozen -/
theorem Ext.freeze {p : List Addr} (fb : Same F' B') (bh : Same B' H') (x : Ext F B H F' B' H') (new : ∀ a ∈ p, H a = none) (foot : ∀ a ∈ p, B' a = none) : Ext F B H (frzH H' p F') (frzH H' p B') H' := by
  have ff : ∀ a ∈ p, F' a = none := fun a z => fb.free (foot a z)
  refine ⟨x.f.trans (mem_frzH ff), x.b.trans (mem_frzH foot), x.h, fun b o e => ?_, fun b o e => ?_, fun a m => ?_, fun a m => ?_⟩
  · by_cases h : b ∈ p
    · rw [frzH_in h] at e ⊢; exact e
    · rw [frzH_out h] at e ⊢; exact fb _ _ e
  · by_cases h : b ∈ p
    · rw [frzH_in h] at e; exact e
    · rw [frzH_out h] at e; exact bh _ _ e
  · rw [frzH_out fun z => m (new a z)]; exact x.of a m
  · rw [frzH_out fun z => m (new a z)]; exact x.ob a m
end
end DH
namespace DH
open PySem L2

inductive Res (α : Type) where
  | ok (a : α)
  | err (c : Str) (fs : List (Str × V))
  | stuck
def Res.bind {α β : Type} : Res α → (α → Res β) → Res β
  | .ok a, g => g a
  | .err c fs, _ => .err c fs
  | .stuck, _ => .stuck
theorem Res.bind_ok {α β : Type} (a : α) (g : α → Res β) : (Res.ok a).bind g = g a := rfl
theorem Res.bind_err {α β : Type} (c : Str) (fs : List (Str × V)) (g : α → Res β) : (Res.err c fs : Res α).bind g = .err c fs := rfl
theorem Res.bind_stuck {α β : Type} (g : α → Res β) : (Res.stuck : Res α).bind g = .stuck := rfl

abbrev Rho := List (Option D)

inductive Slots (G : Tx) (F B H : Hp) : St → Rho → List Addr → Prop
  | nil : Slots G F B H [] [] []
  | un {x : Option V} {σ : St} {ρ : Rho} {p : List Addr} : Slots G F B H σ ρ p → Slots G F B H (x :: σ) (none :: ρ) p
  | val {v : V} {d : D} {σ : St} {ρ : Rho} {p q : List Addr} : Dat G F B H v d p → Slots G F B H σ ρ q → Slots G F B H (some v :: σ) (some d :: ρ) (p ++ q)

structure Base (G : Gam) (F B H : Hp) : Prop where
  f0 : Same G.F0 F
  fb : Same F B
  bh : Same B H
  h0 : Same G.H0 B
  of0 : ∀ a, G.H0 a ≠ none → F a = G.F0 a
def Pinned (G : Gam) (σ : St) : Prop := match G.pin with
  | none => True
  | some (i, a) => σ[i]? = some (some (.ref a))
def PinOk (G : Gam) (i : Nat) : Prop := match G.pin with
  | none => True
  | some (j, _) => i ≠ j
theorem Pinned.set {G : Gam} {σ : St} {i : Nat} {x : Option V} (h : Pinned G σ) (p : PinOk G i) : Pinned G (σ.set i x) := by
  unfold Pinned at h ⊢
  unfold PinOk at p
  split
  · trivial
  · rename_i j a e
    rw [e] at h p
    have p : i ≠ j := p
    rw [List.getElem?_set_ne p]
    exact h
structure RelS (G : Gam) (ρ : Rho) (F B : Hp) (σ : St) (H : Hp) : Prop where
  base : Base G F B H
  slots : ∃ fp, Slots G.T F B H σ ρ fp ∧ fp.Nodup
  pin : Pinned G σ

section
variable {G : Gam} {F B H F' B' H' : Hp} {σ : St} {ρ : Rho}
theorem Base.ext (b : Base G F B H) (x : Ext F B H F' B' H') : Base G F' B' H' :=
  ⟨b.f0.trans x.f, x.fb, x.bh, b.h0.trans x.b, fun a n => (x.of a (Same.there (b.h0.trans b.bh) n)).trans (b.of0 a n)⟩
theorem Slots.stay (sf : Same F F') (sb : Same B B') : ∀ {σ : St} {ρ : Rho} {p : List Addr}, Slots G.T F B H σ ρ p → (∀ a ∈ p, H' a = H a ∧ B' a = none) → Slots G.T F' B' H' σ ρ p
  | _, _, _, .nil, _ => .nil
  | _, _, _, .un t, k => .un (t.stay sf sb k)
  | _, _, _, .val h t, k => .val (h.stay sf sb fun a z => k a (List.mem_append_left _ z)) (t.stay sf sb fun a z => k a (List.mem_append_right _ z))
theorem Slots.foot : ∀ {σ : St} {ρ : Rho} {p : List Addr}, Slots G.T F B H σ ρ p → ∀ a ∈ p, H a ≠ none ∧ B a = none
  | _, _, _, .nil, _, z => nomatch z
  | _, _, _, .un t, a, z => t.foot a z
  | _, _, _, .val h t, a, z => by
    rcases List.mem_append.mp z with z | z
    · exact h.foot a z
    · exact t.foot a z
theorem Slots.ext {p : List Addr} (x : Ext F B H F' B' H') (h : Slots G.T F B H σ ρ p) : Slots G.T F' B' H' σ ρ p :=
  h.stay x.f x.b fun a z => ⟨x.at (h.foot a z).1, (x.ob a (h.foot a z).1).trans (h.foot a z).2⟩
theorem RelS.ext (r : RelS G ρ F B σ H) (x : Ext F B H F' B' H') : RelS G ρ F' B' σ H' :=
  ⟨r.base.ext x, let ⟨fp, h, n⟩ := r.slots; ⟨fp, h.ext x, n⟩, r.pin⟩
theorem RelS.rfl (r : RelS G ρ F B σ H) : Ext F B H F B H := .refl r.base.fb r.base.bh
theorem Slots.get : ∀ {σ : St} {ρ : Rho} {p : List Addr} {i : Nat} {d : D}, Slots G.T F B H σ ρ p → ρ[i]? = some (some d) → ∃ v q, σ[i]? = some (some v) ∧ Dat G.T F B H v d q ∧ (∀ a ∈ q, a ∈ p) ∧ (p.Nodup → q.Nodup)
  | _, _, _, _, _, .nil, e => by simp at e
  | _, _, _, 0, _, .un t, e => by simp at e
  | _, _, _, i + 1, _, .un t, e => by
    obtain ⟨v, q, e1, h, k⟩ := t.get (i := i) (by simpa using e)
    exact ⟨v, q, by simpa using e1, h, k⟩
  | _, _, _, 0, _, .val h t, e => by
    simp at e; subst e
    exact ⟨_, _, by simp, h, fun a z => List.mem_append_left _ z, fun n => (List.nodup_append.mp n).1⟩
  | _, _, _, i + 1, _, .val h t, e => by
    obtain ⟨v, q, e1, h', k, n'⟩ := t.get (i := i) (by simpa using e)
    exact ⟨v, q, by simpa using e1, h', fun a z => List.mem_append_right _ (k a z), fun n => n' (List.nodup_append.mp n).2.1⟩
theorem Slots.length : ∀ {σ : St} {ρ : Rho} {p : List Addr}, Slots G.T F B H σ ρ p → σ.length = ρ.length
  | _, _, _, .nil => by rfl
  | _, _, _, .un t => congrArg (· + 1) t.length
  | _, _, _, .val _ t => congrArg (· + 1) t.length
/-- a slot is stored; its old value goes -/
theorem Slots.set {v : V} {d : D} {r : List Addr} (h : Dat G.T F B H v d r) : ∀ {σ : St} {ρ : Rho} {p : List Addr} {i : Nat}, Slots G.T F B H σ ρ p → i < ρ.length → p.Nodup → r.Nodup → (∀ a ∈ r, a ∉ p) →
    ∃ q, Slots G.T F B H (σ.set i (some v)) (ρ.set i (some d)) q ∧ q.Nodup ∧ ∀ a ∈ q, a ∈ p ∨ a ∈ r
  | _, _, _, _, .nil, hi, _, _, _ => by simp at hi
  | _, _, _, 0, .un t, _, np, nr, k => ⟨_, .val h t, List.nodup_append.mpr ⟨nr, np, fun a z b y e => k a z (e ▸ y)⟩, fun a z => (List.mem_append.mp z).symm⟩
  | _, _, _, 0, .val h' t, _, np, nr, k => by
    have np2 := (List.nodup_append.mp np).2.1
    exact ⟨_, .val h t, List.nodup_append.mpr ⟨nr, np2, fun a z b y e => k a z (e ▸ List.mem_append_right _ y)⟩, fun a z => (List.mem_append.mp z).elim .inr fun z => .inl (List.mem_append_right _ z)⟩
  | _, _, _, i + 1, .un t, hi, np, nr, k => by
    obtain ⟨q, s, nq, kq⟩ := t.set h (i := i) (by simpa using hi) np nr k
    exact ⟨q, .un s, nq, kq⟩
  | _, _, _, i + 1, .val (p := p1) h' t, hi, np, nr, k => by
    obtain ⟨n1, n2, n3⟩ := List.nodup_append.mp np
    obtain ⟨q, s, nq, kq⟩ := t.set h (i := i) (by simpa using hi) n2 nr fun a z y => k a z (List.mem_append_right _ y)
    refine ⟨_, .val h' s, List.nodup_append.mpr ⟨n1, nq, fun a z b y e => ?_⟩, fun a z => ?_⟩
    · subst e
      rcases kq _ y with y | y
      · exact n3 _ z _ y rfl
      · exact k _ y (List.mem_append_left _ z)
    · rcases List.mem_append.mp z with z | z
      · exact .inl (List.mem_append_left _ z)
      · exact (kq a z).imp (fun z => List.mem_append_right _ z) id
theorem Slots.forget : ∀ {σ : St} {ρ : Rho} {p : List Addr} (i : Nat) (x : Option V), Slots G.T F B H σ ρ p → p.Nodup →
    ∃ q, Slots G.T F B H (σ.set i x) (ρ.set i none) q ∧ q.Nodup ∧ ∀ a ∈ q, a ∈ p
  | _, _, _, i, x, .nil, n => ⟨_, by simpa using Slots.nil, n, fun _ z => z⟩
  | _, _, _, 0, x, .un t, n => ⟨_, .un t, n, fun _ z => z⟩
  | _, _, _, 0, x, .val h t, n => ⟨_, .un t, (List.nodup_append.mp n).2.1, fun a z => List.mem_append_right _ z⟩
  | _, _, _, i + 1, x, .un t, n => by
    obtain ⟨q, s, nq, k⟩ := t.forget i x n
    exact ⟨q, .un s, nq, k⟩
  | _, _, _, i + 1, x, .val h t, n => by
    obtain ⟨n1, n2, n3⟩ := List.nodup_append.mp n
    obtain ⟨q, s, nq, k⟩ := t.forget i x n2
    refine ⟨_, .val h s, List.nodup_append.mpr ⟨n1, nq, fun a z b y => n3 a z b (k b y)⟩, fun a z => ?_⟩
    rcases List.mem_append.mp z with z | z
    · exact List.mem_append_left _ z
    · exact List.mem_append_right _ (k a z)
end

/-! ### readings -/
/-- an exception of the class named c with the fields fs -/
def ExcAt (G : Tx) (c : Str) (fs : List (Str × V)) (cv : Value) (x : Option Addr) (H : Hp) : Prop :=
  ∃ C, G.mg c = some (.ref C) ∧ cv = .ref C ∧ match fs with
    | [] => x = none
    | f :: r => ∃ dd, x = some dd ∧ H dd = some (.xd (f :: r))
def kE {α : Type} (G : Tx) (W : WX) (σ : St) (F B H : Hp) (r : Res α) (K : α → Hp → Hp → Hp → Prop) : Prop := match r with
  | .ok a => ∀ F' B' H', Ext F B H F' B' H' → K a F' B' H'
  | .err c fs => ∀ cv x F' B' H', Ext F B H F' B' H' → ExcAt G c fs cv x H' → W cv x σ H'
  | .stuck => False
def tB (G : Gam) (W : WX) (f : Rho → Res D) : TE := fun σ H Q => ∃ ρ F B, RelS G ρ F B σ H ∧ kE G.T W σ F B H (f ρ) fun d F' B' H' => ∀ v p, Dat G.T F' B' H' v d p → Q v H'
def tV (G : Gam) (W : WX) (f : Rho → Res D) : TE := fun σ H Q => ∃ ρ F B, RelS G ρ F B σ H ∧ kE G.T W σ F B H (f ρ) fun d F' B' H' => ∀ v p, Dat G.T F' B' H' v d p → p.Nodup → (∀ a ∈ p, H a = none) → Q v H'
def tT (G : Gam) (W : WX) (f : Rho → Res Bool) : TT := fun σ H Q => ∃ ρ F B, RelS G ρ F B σ H ∧ kE G.T W σ F B H (f ρ) fun b _ _ H' => Q b H'
def tA (G : Gam) (W : WX) (f : Rho → Res (List D)) : TA := fun σ H Q => ∃ ρ F B, RelS G ρ F B σ H ∧ kE G.T W σ F B H (f ρ) fun ds F' B' H' => ∀ vs p, Dats G.T F' B' H' vs ds p → Q vs H'
def tAV (G : Gam) (W : WX) (f : Rho → Res (List D)) : TA := fun σ H Q => ∃ ρ F B, RelS G ρ F B σ H ∧ kE G.T W σ F B H (f ρ) fun ds F' B' H' => ∀ vs p, Dats G.T F' B' H' vs ds p → p.Nodup → (∀ a ∈ p, H a = none) → Q vs H'

/-- read: the value may hold what others hold; made: what is own in it is new -/
abbrev EB (G : Gam) (X : Cx) (W : WX) (e : Expr) (f : Rho → Res D) : Prop := PE X e (tB G W f)
abbrev EV (G : Gam) (X : Cx) (W : WX) (e : Expr) (f : Rho → Res D) : Prop := PE X e (tV G W f)
abbrev ET (G : Gam) (X : Cx) (W : WX) (e : Expr) (f : Rho → Res Bool) : Prop := PT X e (tT G W f)
abbrev EA (G : Gam) (X : Cx) (W : WX) (es : List Expr) (f : Rho → Res (List D)) : Prop := PA X es (tA G W f)
abbrev EAV (G : Gam) (X : Cx) (W : WX) (es : List Expr) (f : Rho → Res (List D)) : Prop := PA X es (tAV G W f)

theorem pe_pre {X : Cx} {e : Expr} {t t' : TE} (h : PE X e t) (k : ∀ σ H Q, t' σ H Q → t σ H Q) : PE X e t' := ⟨fun pins s σ H Q I q => h.run pins s σ H Q I (k σ H Q q)⟩
theorem pt_pre {X : Cx} {e : Expr} {t t' : TT} (h : PT X e t) (k : ∀ σ H Q, t' σ H Q → t σ H Q) : PT X e t' := ⟨fun pins s σ H Q I q => h.run pins s σ H Q I (k σ H Q q)⟩
theorem pw_pre {X : Cx} {e : Expr} {t t' : TT} (h : PW X e t) (k : ∀ σ H Q, t' σ H Q → t σ H Q) : PW X e t' := ⟨fun wh pins s σ H Q I q => h.run wh pins s σ H Q I (k σ H Q q)⟩
theorem pa_pre {X : Cx} {e : List Expr} {t t' : TA} (h : PA X e t) (k : ∀ σ H Q, t' σ H Q → t σ H Q) : PA X e t' := ⟨fun pos pins s σ H Q I q => h.run pos pins s σ H Q I (k σ H Q q)⟩
theorem ps_pre {X : Cx} {e : Stmt} {t t' : TS} (h : PS X e t) (k : ∀ D σ H, t' D σ H → t D σ H) : PS X e t' := ⟨fun pins s σ H D I q => h.run pins s σ H D I (k D σ H q)⟩
theorem pss_pre {X : Cx} {e : List Stmt} {t t' : TS} (h : PSs X e t) (k : ∀ D σ H, t' D σ H → t D σ H) : PSs X e t' := ⟨fun pins s σ H D I q => h.run pins s σ H D I (k D σ H q)⟩

section
variable {G : Gam} {W : WX} {X : Cx} {F B H : Hp} {σ : St} {α β : Type}
theorem kE.bind {r : Res α} {g : α → Res β} {K : β → Hp → Hp → Hp → Prop} (h : kE G.T W σ F B H (r.bind g) K) : kE G.T W σ F B H r fun a F1 B1 H1 => kE G.T W σ F1 B1 H1 (g a) K := by
  cases r with
  | ok a =>
    intro F1 B1 H1 x
    have h : kE G.T W σ F B H (g a) K := h
    show kE G.T W σ F1 B1 H1 (g a) K
    cases q : g a with
    | ok b =>
      rw [q] at h
      exact fun F' B' H' y => h F' B' H' (x.trans y)
    | err c fs =>
      rw [q] at h
      exact fun cv z F' B' H' y => h cv z F' B' H' (x.trans y)
    | stuck => rw [q] at h; exact h
  | err c fs => exact h
  | stuck => exact h
theorem kE.mono {r : Res α} {K K' : α → Hp → Hp → Hp → Prop} (h : kE G.T W σ F B H r K) (k : ∀ a F' B' H', Ext F B H F' B' H' → K a F' B' H' → K' a F' B' H') : kE G.T W σ F B H r K' := by
  cases r with
  | ok a => exact fun F' B' H' x => k a F' B' H' x (h F' B' H' x)
  | err c fs => exact h
  | stuck => exact h
/-- where it is known to stand still -/
theorem kE.ok {a : α} {K : α → Hp → Hp → Hp → Prop} (fb : Same F B) (bh : Same B H) (h : kE G.T W σ F B H (.ok a) K) : K a F B H := h F B H (.refl fb bh)
theorem EV.b {e : Expr} {f : Rho → Res D} (h : EV G X W e f) : EB G X W e f := pe_pre h fun σ H Q ⟨ρ, F, B, r, k⟩ => ⟨ρ, F, B, r, k.mono fun d F' B' H' _ q v p hd _ _ => q v p hd⟩
/-- what is read is made where it holds nothing own -/
def eDup (f : Rho → Res D) : Rho → Res D := fun ρ => (f ρ).bind fun d => if d.dup then .ok d else .stuck
theorem EB.v {e : Expr} {f : Rho → Res D} (h : EB G X W e f) : EV G X W e (eDup f) := pe_pre h fun σ H Q ⟨ρ, F, B, r, k⟩ => ⟨ρ, F, B, r, (kE.bind k).mono fun d F' B' H' x q v p hd => by
  by_cases c : d.dup = true
  · rw [if_pos c] at q
    have e := hd.fp_dup c
    subst e
    exact (kE.ok x.fb x.bh q) v [] hd List.nodup_nil fun _ z => nomatch z
  · rw [if_neg c] at q
    exact q.elim⟩
/-- .. or where it is frozen -/
def eFrz (f : Rho → Res D) : Rho → Res D := fun ρ => (f ρ).bind fun d => if d.ret then .ok d.frz else .stuck
theorem Dat.frozen {v : V} {d : D} {p : List Addr} {F' B' H' : Hp} (hd : Dat G.T F' B' H' v d p) (c : d.ret = true) (fb : Same F' B') : Dat G.T (frzH H' p F') (frzH H' p B') H' v d.frz [] :=
  hd.froz (mem_frzH fun a z => fb.free (hd.foot a z).2) (mem_frzH fun a z => (hd.foot a z).2) c fun a z => frzH_in z
theorem EV.frz {e : Expr} {f : Rho → Res D} (h : EV G X W e f) : EV G X W e (eFrz f) := pe_pre h fun σ H Q ⟨ρ, F, B, r, k⟩ => ⟨ρ, F, B, r, by
  unfold eFrz at k
  cases q : f ρ with
  | ok d =>
    rw [q] at k
    have k : kE G.T W σ F B H (if d.ret then .ok d.frz else .stuck) _ := k
    by_cases c : d.ret = true
    · rw [if_pos c] at k
      intro F' B' H' x v p hd nd new
      exact k _ _ _ (Ext.freeze x.fb x.bh x new fun a z => (hd.foot a z).2) v [] (hd.frozen c x.fb) List.nodup_nil fun _ z => nomatch z
    · rw [if_neg c] at k
      exact k.elim
  | err c fs => rw [q] at k; exact k
  | stuck => rw [q] at k; exact k⟩

/-! ### names, constants -/
def eVar (i : Nat) : Rho → Res D := fun ρ => match ρ[i]? with
  | some (some d) => .ok d
  | _ => .stuck
def eC (d : D) : Rho → Res D := fun _ => .ok d
theorem eb_var (i : Nat) {x : Str} {pos : Pos} (hN : X.N[i]? = some x := by rfl) (hv : Vis X.env.scope x := by first | exact Or.inl rfl | exact Or.inr (Or.inl rfl) | exact Or.inr (Or.inr rfl)) (hd : (x == ("__debug__" : Str)) = false := by decide)
    (hcd : (x == ("__classdict__" : Str)) = false := by decide) : EB G X W (.Name x pos) (eVar i) := pe_pre (pe_var hN hv hd hcd) fun σ H Q ⟨ρ, F, B, r, k⟩ => by
  unfold eVar at k
  split at k
  · rename_i d e
    obtain ⟨fp, s, n⟩ := r.slots
    obtain ⟨v, q, e1, h, _⟩ := s.get e
    exact ⟨v, e1, (kE.ok r.base.fb r.base.bh k) v q h⟩
  · exact k.elim
theorem ev_int {i : Int} {j : Nat} {pos : Pos} : EV G X W (.Constant (.int i) j pos) (eC (.int i)) := pe_pre pe_int fun σ H Q ⟨ρ, F, B, r, k⟩ => (kE.ok r.base.fb r.base.bh k) _ [] (.int i) List.nodup_nil fun _ z => nomatch z
theorem ev_bl {b : Bool} {j : Nat} {pos : Pos} : EV G X W (.Constant (.bool b) j pos) (eC (.bl b)) := pe_pre pe_bl fun σ H Q ⟨ρ, F, B, r, k⟩ => (kE.ok r.base.fb r.base.bh k) _ [] (.bl b) List.nodup_nil fun _ z => nomatch z
theorem ev_non {j : Nat} {pos : Pos} : EV G X W (.Constant .none j pos) (eC .non) := pe_pre pe_non fun σ H Q ⟨ρ, F, B, r, k⟩ => (kE.ok r.base.fb r.base.bh k) _ [] .non List.nodup_nil fun _ z => nomatch z
theorem ev_str {x : Str} {j : Nat} {pos : Pos} : EV G X W (.Constant (.str x) j pos) (eC (.str x)) := pe_pre pe_str fun σ H Q ⟨ρ, F, B, r, k⟩ => (kE.ok r.base.fb r.base.bh k) _ [] (.str x) List.nodup_nil fun _ z => nomatch z
/-- a scalar -/
def sV : D → Option V
  | .non => some .non
  | .bl b => some (.bl b)
  | .int i => some (.int i)
  | .str x => some (.str x)
  | _ => none
theorem sV_dat {d : D} {v : V} (h : sV d = some v) : Dat G.T F B H v d [] := by
  cases d <;> simp [sV] at h <;> subst h <;> constructor
theorem Dat.sV {d : D} {v w : V} {p : List Addr} (h : Dat G.T F B H v d p) (e : DH.sV d = some w) : v = w := by
  cases d <;> simp [DH.sV] at e <;> subst e <;> cases h <;> rfl
theorem ev_glob {x : Str} {d : D} {v : V} {u : Value} {pos : Pos} (hm : X.mg x = some u) (r : RelV v u) (hs : sV d = some v := by rfl) (hg : Gl X x := by rfl) (hd : (x == ("__debug__" : Str)) = false := by decide) : EV G X W (.Name x pos) (eC d) :=
  pe_pre (pe_glob hg hm r hd) fun σ H Q ⟨ρ, F, B, r, k⟩ => (kE.ok r.base.fb r.base.bh k) v [] (sV_dat hs) List.nodup_nil fun _ z => nomatch z

/-! ### operators -/
def eB2 (g : D → D → Res D) (a b : Rho → Res D) : Rho → Res D := fun ρ => (a ρ).bind fun x => (b ρ).bind fun y => g x y
def eU1 (g : D → Res D) (a : Rho → Res D) : Rho → Res D := fun ρ => (a ρ).bind fun x => g x
/-- a relation of HandS is kept by a function over data -/
def Op2 (G : Gam) (r : R2) (g : D → D → Res D) : Prop := ∀ (W : WX) (σ : St) (F B H : Hp) (x y : V) (d e : D) (p q : List Addr) (Q : VK), Base G F B H → Dat G.T F B H x d p → Dat G.T F B H y e q →
  kE G.T W σ F B H (g d e) (fun c F' B' H' => ∀ v p, Dat G.T F' B' H' v c p → p.Nodup → (∀ a ∈ p, H a = none) → Q v H') → r x y H Q
/-- .. whose answer is read -/
def Op2B (G : Gam) (r : R2) (g : D → D → Res D) : Prop := ∀ (W : WX) (σ : St) (F B H : Hp) (x y : V) (d e : D) (p q : List Addr) (Q : VK), Base G F B H → Dat G.T F B H x d p → Dat G.T F B H y e q →
  kE G.T W σ F B H (g d e) (fun c F' B' H' => ∀ v p, Dat G.T F' B' H' v c p → Q v H') → r x y H Q
theorem two_run {r : R2} {a b : Rho → Res D} {g : D → D → Res D} {ρ : Rho} {Q : VK} (ho : Op2 G r g) (rel : RelS G ρ F B σ H)
    (k : kE G.T W σ F B H (eB2 g a b ρ) fun d F' B' H' => ∀ v p, Dat G.T F' B' H' v d p → p.Nodup → (∀ a ∈ p, H a = none) → Q v H') : tOp r (tB G W a) (tB G W b) σ H Q := by
  refine ⟨ρ, F, B, rel, (kE.bind k).mono fun d F1 B1 H1 x k1 v p hd => ⟨ρ, F1, B1, rel.ext x, (kE.bind k1).mono fun e F2 B2 H2 y k2 w q he => ?_⟩⟩
  refine ho W σ F2 B2 H2 v w d e p q Q ((rel.ext x).base.ext y) (hd.ext y) he (k2.mono fun c F3 B3 H3 z k3 v' p' hc np new => k3 v' p' hc np fun a m => ?_)
  exact (x.trans y).h.free (new a m)
theorem two_runB {r : R2} {a b : Rho → Res D} {g : D → D → Res D} {ρ : Rho} {Q : VK} (ho : Op2B G r g) (rel : RelS G ρ F B σ H)
    (k : kE G.T W σ F B H (eB2 g a b ρ) fun d F' B' H' => ∀ v p, Dat G.T F' B' H' v d p → Q v H') : tOp r (tB G W a) (tB G W b) σ H Q := by
  refine ⟨ρ, F, B, rel, (kE.bind k).mono fun d F1 B1 H1 x k1 v p hd => ⟨ρ, F1, B1, rel.ext x, (kE.bind k1).mono fun e F2 B2 H2 y k2 w q he => ?_⟩⟩
  exact ho W σ F2 B2 H2 v w d e p q Q ((rel.ext x).base.ext y) (hd.ext y) he k2
variable {a b : Expr} {fa fb : Rho → Res D} {pos : Pos}
theorem ev_op {op : Operator} {r : R2} {g : D → D → Res D} (hr : OpR X (binaryOp op) r) (ho : Op2 G r g) (ha : EB G X W a fa) (hb : EB G X W b fb) : EV G X W (.BinOp a op b pos) (eB2 g fa fb) :=
  pe_pre (pe_op hr ha hb) fun σ H Q ⟨ρ, F, B, rel, k⟩ => two_run ho rel k
theorem ev_cmp {op : CmpOp} {r : R2} {g : D → D → Res D} (hr : OpR X (compareOp op) r) (ho : Op2 G r g) (ha : EB G X W a fa) (hb : EB G X W b fb) (hm : behindInMarks op b = false) : EV G X W (.Compare a [op] [b] pos) (eB2 g fa fb) :=
  pe_pre (pe_cmpR hr ha hb hm) fun σ H Q ⟨ρ, F, B, rel, k⟩ => two_run ho rel k
/-- where the answer is a scalar -/
theorem Op2.sc {r : R2} {g : D → D → Res D} (h : ∀ (F B H : Hp) (x y : V) (d e : D) (p q : List Addr) (Q : VK) (c : D), Base G F B H → Dat G.T F B H x d p → Dat G.T F B H y e q → g d e = .ok c → (∀ v, sV c = some v → Q v H) → r x y H Q)
    (hn : ∀ d e c fs, g d e ≠ .err c fs) : Op2 G r g := fun W σ F B H x y d e p q Q b hd he k => by
  cases z : g d e with
  | ok c =>
    rw [z] at k
    exact h F B H x y d e p q Q c b hd he z fun v s => (kE.ok b.fb b.bh k) v [] (sV_dat s) List.nodup_nil fun _ z => nomatch z
  | err c fs => exact absurd z (hn d e c fs)
  | stuck => rw [z] at k; exact k.elim
theorem Op2.or1 {r r' : R2} {g : D → D → Res D} (h : Op2 G r g) : Op2 G (fun x y H Q => r x y H Q ∨ r' x y H Q) g := fun W σ F B H x y d e p q Q b hd he k => .inl (h W σ F B H x y d e p q Q b hd he k)
end

/-! ### whole numbers -/
def LINE : Nat := 16777216
theorem line_eq : sizeLine = LINE := sizeLine_eq
def iOp (g : Int → Int → Res D) : D → D → Res D
  | .int i, .int j => g i j
  | _, _ => .stuck
def subD : D → D → Res D := iOp fun i j => .ok (.int (i - j))
def bigI : Int := 18446744073709551616
def mulOk (i j : Int) : Bool := (decide (-bigI < i) && decide (i < bigI)) || (decide (-bigI < j) && decide (j < bigI))
def fdivI (i j : Int) : Res D := if j ≠ 0 ∧ j.natAbs < 1073741824 then .ok (.int (i.fdiv j)) else .stuck
def fdivD : D → D → Res D := iOp fdivI
def modI (i j : Int) : Res D := if j ≠ 0 then .ok (.int (i.fmod j)) else .stuck
def modD : D → D → Res D := iOp modI
def powI (i j : Int) : Res D := if 0 ≤ j ∧ j ≤ 1000000 ∧ i.natAbs < 18446744073709551616 then .ok (.int (i ^ j.toNat)) else .stuck
def powD : D → D → Res D := iOp powI
def ltD : D → D → Res D := iOp fun i j => .ok (.bl (decide (i < j)))
def leD : D → D → Res D := iOp fun i j => .ok (.bl (decide (i ≤ j)))
def gtD : D → D → Res D := iOp fun i j => .ok (.bl (decide (j < i)))
def geD : D → D → Res D := iOp fun i j => .ok (.bl (decide (j ≤ i)))
section
variable {G : Gam}
theorem iOp_ok {g : Int → Int → Res D} {d e : D} {c : D} (h : iOp g d e = .ok c) : ∃ i j, d = .int i ∧ e = .int j ∧ g i j = .ok c := by
  unfold iOp at h
  split at h
  · exact ⟨_, _, rfl, rfl, h⟩
  · cases h
theorem iOp_ne {g : Int → Int → Res D} (hg : ∀ i j c fs, g i j ≠ .err c fs) (d e : D) (c : Str) (fs : List (Str × V)) : iOp g d e ≠ .err c fs := by
  unfold iOp
  split
  · exact hg _ _ _ _
  · exact fun z => nomatch z
theorem Dat.toInt {F B H : Hp} {x : V} {i : Int} {p : List Addr} (h : Dat G.T F B H x (.int i) p) : x = .int i := by cases h; rfl
theorem op2_sub : Op2 G (rI0 fun i j => .int (i - j)) subD := Op2.sc (fun F B H x y d e p q Q c b hd he z k => by
  obtain ⟨i, j, rfl, rfl, z2⟩ := iOp_ok z
  cases z2
  exact ⟨i, j, hd.toInt, he.toInt, k _ rfl⟩) (iOp_ne fun _ _ _ _ z => nomatch z)
theorem op2_fdiv : Op2 G (rI CDivN fun i j => .int (i.fdiv j)) fdivD := Op2.sc (fun F B H x y d e p q Q c b hd he z k => by
  obtain ⟨i, j, rfl, rfl, z2⟩ := iOp_ok z
  unfold fdivI at z2
  split at z2
  · rename_i c0
    cases z2
    exact ⟨i, j, hd.toInt, he.toInt, c0, k _ rfl⟩
  · cases z2) (iOp_ne fun _ _ _ _ z => by unfold fdivI at z; split at z <;> cases z)
theorem op2_mod : Op2 G (rI (fun _ j => j ≠ 0) fun i j => .int (i.fmod j)) modD := Op2.sc (fun F B H x y d e p q Q c b hd he z k => by
  obtain ⟨i, j, rfl, rfl, z2⟩ := iOp_ok z
  unfold modI at z2
  split at z2
  · rename_i c0
    cases z2
    exact ⟨i, j, hd.toInt, he.toInt, c0, k _ rfl⟩
  · cases z2) (iOp_ne fun _ _ _ _ z => by unfold modI at z; split at z <;> cases z)
theorem op2_pow : Op2 G (rI CPow fun i j => .int (i ^ j.toNat)) powD := Op2.sc (fun F B H x y d e p q Q c b hd he z k => by
  obtain ⟨i, j, rfl, rfl, z2⟩ := iOp_ok z
  unfold powI at z2
  split at z2
  · rename_i c0
    cases z2
    exact ⟨i, j, hd.toInt, he.toInt, ⟨c0.1, c0.2.1, c0.2.2⟩, k _ rfl⟩
  · cases z2) (iOp_ne fun _ _ _ _ z => by unfold powI at z; split at z <;> cases z)
theorem op2_lt : Op2 G (rI0 fun i j => .bl (decide (i < j))) ltD := Op2.sc (fun F B H x y d e p q Q c b hd he z k => by
  obtain ⟨i, j, rfl, rfl, z2⟩ := iOp_ok z
  cases z2
  exact ⟨i, j, hd.toInt, he.toInt, k _ rfl⟩) (iOp_ne fun _ _ _ _ z => nomatch z)
theorem op2_le : Op2 G (rI0 fun i j => .bl (decide (i ≤ j))) leD := Op2.sc (fun F B H x y d e p q Q c b hd he z k => by
  obtain ⟨i, j, rfl, rfl, z2⟩ := iOp_ok z
  cases z2
  exact ⟨i, j, hd.toInt, he.toInt, k _ rfl⟩) (iOp_ne fun _ _ _ _ z => nomatch z)
theorem op2_gt : Op2 G (rI0 fun i j => .bl (decide (j < i))) gtD := Op2.sc (fun F B H x y d e p q Q c b hd he z k => by
  obtain ⟨i, j, rfl, rfl, z2⟩ := iOp_ok z
  cases z2
  exact ⟨i, j, hd.toInt, he.toInt, k _ rfl⟩) (iOp_ne fun _ _ _ _ z => nomatch z)
theorem op2_ge : Op2 G (rI0 fun i j => .bl (decide (j ≤ i))) geD := Op2.sc (fun F B H x y d e p q Q c b hd he z k => by
  obtain ⟨i, j, rfl, rfl, z2⟩ := iOp_ok z
  cases z2
  exact ⟨i, j, hd.toInt, he.toInt, k _ rfl⟩) (iOp_ne fun _ _ _ _ z => nomatch z)
end
end DH
namespace DH
open PySem L2

/-! ### lists as data -/
/-- the items may be held by a new list that may be handed back -/
def elOk : LK → List D → Bool
  | .frz, _ => true
  | .own, xs => D.dupAll xs
  | .bor, xs => D.retAll xs
  | .tmp, xs => D.pureAll xs
section
variable {G : Gam} {W : WX} {X : Cx} {F B H F' B' H' : Hp} {σ : St} {x y : V} {k : LK} {ds es : List D} {p q : List Addr} {a : Addr} {vs : List V}
theorem Dat.lst (b : Base G F B H) (h : Dat G.T F B H x (.lst k ds) p) : ∃ a vs q, x = .ref a ∧ H a = some (.lst vs) ∧ Dats G.T F B H vs ds q ∧ (elOk k ds = true → q = [] ∧ D.pureAll ds = true) ∧ (D.dup (.lst k ds) = true → q = [] ∧ p = [] ∧ B a = some (.lst vs)) ∧ ∀ c ∈ q, c ∈ p := by
  cases h with
  | frz e h c => exact ⟨_, _, _, rfl, b.bh _ _ (b.fb _ _ e), h, fun _ => ⟨rfl, c⟩, fun _ => ⟨rfl, rfl, b.fb _ _ e⟩, fun _ z => nomatch z⟩
  | own e n h c => exact ⟨_, _, _, rfl, e, h, fun z => ⟨h.fp_dup z, Bool.and_eq_true_iff.mpr ⟨z, c⟩⟩, (fun z => nomatch z), fun c z => List.mem_cons_of_mem _ z⟩
  | tmp e n h => exact ⟨_, _, _, rfl, e, h, fun z => ⟨h.fp_dup (Bool.and_eq_true_iff.mp z).1, z⟩, (fun z => nomatch z), fun c z => List.mem_cons_of_mem _ z⟩
  | bor e h c => exact ⟨_, _, _, rfl, b.bh _ _ e, h, fun z => ⟨rfl, Bool.and_eq_true_iff.mpr ⟨c, z⟩⟩, fun _ => ⟨rfl, rfl, e⟩, fun _ z => nomatch z⟩
/-- a new own list -/
theorem new_own (b : Base G F B H) (n : H a = none) (h : Dats G.T F B H vs ds []) (c : D.retAll ds = true) : Ext F B H F B (upd H a (.lst vs)) ∧ Dat G.T F B (upd H a (.lst vs)) (.ref a) (.lst .own ds) [a] :=
  ⟨Ext.new b.fb b.bh n, .own upd_same (b.bh.free n) (h.ext (Ext.new b.fb b.bh n)) c⟩
theorem nd1 (a : Addr) : [a].Nodup := by simp
theorem new1 (n : H a = none) : ∀ c ∈ [a], H c = none := fun c z => by
  have e : c = a := by simpa using z
  rw [e]; exact n
/-- .. as an answer -/
theorem ans_own {Q : VK} (b : Base G F B H) (h : Dats G.T F B H vs ds []) (c : D.retAll ds = true) (k : ∀ F' B' H', Ext F B H F' B' H' → ∀ v p, Dat G.T F' B' H' v (.lst .own ds) p → p.Nodup → (∀ a ∈ p, H a = none) → Q v H') :
    ∀ a, H a = none → Q (.ref a) (upd H a (.lst vs)) := fun a n => by
  obtain ⟨x, d⟩ := new_own b n h c
  exact k _ _ _ x _ _ d (nd1 a) (new1 n)
theorem new_tup (b : Base G F B H) (n : H a = none) (h : Dats G.T F B H vs ds p) : Ext F B H (upd F a (.tup vs)) (upd B a (.tup vs)) (upd H a (.tup vs)) ∧ Dat G.T (upd F a (.tup vs)) (upd B a (.tup vs)) (upd H a (.tup vs)) (.ref a) (.tup ds) p :=
  ⟨Ext.imm b.fb b.bh n, .tup (.inl (.inl upd_same)) (h.ext (Ext.imm b.fb b.bh n))⟩
end

/-! ### + and * -/
def addD : D → D → Res D
  | .int i, .int j => .ok (.int (i + j))
  | .str x, .str y => if x.length + y.length ≤ LINE then .ok (.str (x ++ y)) else .stuck
  | .lst k xs, .lst l ys => if elOk k xs = true ∧ elOk l ys = true ∧ xs.length + ys.length ≤ LINE then .ok (.lst .own (xs ++ ys)) else .stuck
  | .tup xs, .tup ys => if xs ≠ [] ∧ ys ≠ [] ∧ D.dupAll xs = true ∧ D.dupAll ys = true ∧ xs.length + ys.length ≤ LINE then .ok (.tup (xs ++ ys)) else .stuck
  | _, _ => .stuck
def mulD : D → D → Res D
  | .int i, .int j => if mulOk i j = true then .ok (.int (i * j)) else .stuck
  | .lst k xs, .int j => if elOk k xs = true ∧ -9223372036854775808 ≤ j ∧ j < 9223372036854775808 ∧ xs.length * j.toNat ≤ LINE then .ok (.lst .own (List.replicate j.toNat xs).flatten) else .stuck
  | _, _ => .stuck
abbrev rAddAll (K : PySem.W.Frag) : R2 := fun x y H Q => rI0 (fun i j => .int (i + j)) x y H Q ∨ (∃ i j, x = .str i ∧ y = .str j ∧ i.length + j.length ≤ sizeLine ∧ Q (.str (i ++ j)) H) ∨ rCat x y H Q ∨ rCatT K x y H Q
theorem opr_add {X : Cx} : OpR X (binaryOp .Add) (rAddAll X.K) := op_add.or (op_add_str.or (op_cat.or op_catT))
theorem retAll_flat {xs : List D} (h : D.retAll xs = true) : ∀ k : Nat, D.retAll (List.replicate k xs).flatten = true
  | 0 => rfl
  | k + 1 => by rw [List.replicate_succ, List.flatten_cons, retAll_append, h, retAll_flat h k]; rfl
theorem kE.ite {α : Type} {G : Gam} {W : WX} {σ : St} {F B H : Hp} {c : Prop} [Decidable c] {r : Res α} {K : α → Hp → Hp → Hp → Prop} (h : kE G.T W σ F B H (if c then r else .stuck) K) : c ∧ kE G.T W σ F B H r K := by
  by_cases z : c
  · rw [if_pos z] at h; exact ⟨z, h⟩
  · rw [if_neg z] at h; exact h.elim
section
variable {G : Gam}
theorem op2_add : Op2 G (rAddAll G.K) addD := fun W σ F B H x y d e p q Q b hd he k => by
  cases d <;> cases e <;> first | exact k.elim | skip
  · cases hd; cases he
    exact .inl ⟨_, _, rfl, rfl, (kE.ok b.fb b.bh k) _ [] (.int _) List.nodup_nil fun _ z => nomatch z⟩
  · cases hd; cases he
    obtain ⟨c, k⟩ := kE.ite k
    rw [← line_eq] at c
    exact .inr (.inl ⟨_, _, rfl, rfl, c, (kE.ok b.fb b.bh k) _ [] (.str _) List.nodup_nil fun _ z => nomatch z⟩)
  · obtain ⟨c, k⟩ := kE.ite k
    obtain ⟨c1, c2, c3⟩ := c
    obtain ⟨a1, vs1, q1, rfl, h1, d1, g1, _⟩ := hd.lst b
    obtain ⟨a2, vs2, q2, rfl, h2, d2, g2, _⟩ := he.lst b
    obtain ⟨rfl, w1⟩ := g1 c1
    obtain ⟨rfl, w2⟩ := g2 c2
    refine .inr (.inr (.inl ⟨a1, a2, vs1, vs2, rfl, rfl, h1, h2, by rw [d1.length, d2.length, line_eq]; exact c3, ?_⟩))
    exact ans_own b (d1.app0 d2) (by rw [retAll_append, (Bool.and_eq_true_iff.mp w1).2, (Bool.and_eq_true_iff.mp w2).2]; rfl) k
  · obtain ⟨c, k⟩ := kE.ite k
    obtain ⟨c1, c2, c3, c4, c5⟩ := c
    cases hd with
    | tup t1 d1 =>
      cases he with
      | tup t2 d2 =>
        have e1 := d1.fp_dup c3
        have e2 := d2.fp_dup c4
        subst e1
        subst e2
        have n1 := d1.length
        have n2 := d2.length
        have hne : ∀ {vs : List V} {ds : List D}, vs.length = ds.length → ds ≠ [] → vs ≠ [] := fun e n z => by
          subst z
          exact n (List.length_eq_zero_iff.mp e.symm)
        refine .inr (.inr (.inr ⟨_, _, _, _, rfl, rfl, seqT_same (b.fb.trans b.bh) t1, seqT_same (b.fb.trans b.bh) t2, hne n1 c1, by rw [n1, n2, line_eq]; exact c5, fun z => absurd z (hne n2 c2), fun _ a na => ?_⟩))
        obtain ⟨x, d⟩ := new_tup b na (d1.app0 d2)
        exact k _ _ _ x _ _ d List.nodup_nil fun _ z => nomatch z
theorem mulOk_of {i j : Int} (h : mulOk i j = true) : CMul i j := by
  unfold mulOk at h
  simp only [Bool.or_eq_true, Bool.and_eq_true, decide_eq_true_eq] at h
  unfold bigI at h
  rcases h with ⟨h1, h2⟩ | ⟨h1, h2⟩
  · exact .inl ⟨by omega, by omega⟩
  · exact .inr ⟨by omega, by omega⟩
abbrev rMulAll : R2 := fun x y H Q => rI CMul (fun i j => .int (i * j)) x y H Q ∨ rRep x y H Q
theorem opr_mul {X : Cx} : OpR X (binaryOp .Mult) rMulAll := op_mul.or op_rep
theorem op2_mul : Op2 G rMulAll mulD := fun W σ F B H x y d e p q Q b hd he k => by
  cases d <;> cases e <;> first | exact k.elim | skip
  · cases hd; cases he
    obtain ⟨c, k⟩ := kE.ite k
    exact .inl ⟨_, _, rfl, rfl, mulOk_of c, (kE.ok b.fb b.bh k) _ [] (.int _) List.nodup_nil fun _ z => nomatch z⟩
  · cases he
    obtain ⟨c, k⟩ := kE.ite k
    obtain ⟨c1, c2, c3, c4⟩ := c
    obtain ⟨a1, vs1, q1, rfl, h1, d1, g1, _⟩ := hd.lst b
    obtain ⟨rfl, w1⟩ := g1 c1
    refine .inr ⟨a1, _, vs1, rfl, rfl, h1, by omega, by omega, by rw [d1.length, line_eq]; exact c4, ?_⟩
    exact ans_own b (d1.rep _) (retAll_flat (Bool.and_eq_true_iff.mp w1).2 _) k
theorem ev_add {W : WX} {X : Cx} {a b : Expr} {fa fb : Rho → Res D} {pos : Pos} (hK : X.K = G.K := by rfl) (ha : EB G X W a fa) (hb : EB G X W b fb) : EV G X W (.BinOp a .Add b pos) (eB2 addD fa fb) := by
  refine ev_op (r := rAddAll G.K) ?_ op2_add ha hb
  rw [← hK]
  exact opr_add
end
end DH
namespace DH
open PySem L2

/-! ### equality -/
mutual
def toPy : D → PyData
  | .non => .none
  | .bl b => .bool b
  | .int i => .int i
  | .str x => .str x
  | .lst _ xs => .list (toPyAll xs)
  | .tup xs => .tuple (toPyAll xs)
  | .scr ns => .list (ns.map PyData.int)
  | .ins _ _ => .dict []
  | .obj _ _ => .dict []
def toPyAll : List D → List PyData
  | [] => []
  | x :: xs => toPy x :: toPyAll xs
end
mutual
/-- data that == goes through: no objects, texts of signs, not too deep -/
def plain : Nat → D → Bool
  | _, .non => true
  | _, .bl _ => true
  | _, .int _ => true
  | _, .str x => PyData.strOk x
  | n + 1, .lst _ xs => plainAll n xs
  | n + 1, .tup xs => plainAll n xs
  | _, _ => false
def plainAll : Nat → List D → Bool
  | _, [] => true
  | n, x :: xs => plain n x && plainAll n xs
end
mutual
theorem plain_py : ∀ (n : Nat) (d : D), plain n d = true → (toPy d).canLay0 = true ∧ (toPy d).depth ≤ n
  | n, .non, _ => by cases n <;> exact ⟨rfl, Nat.zero_le _⟩
  | n, .bl _, _ => by cases n <;> exact ⟨rfl, Nat.zero_le _⟩
  | n, .int _, _ => by cases n <;> exact ⟨rfl, Nat.zero_le _⟩
  | n, .str x, h => by
    have h : PyData.strOk x = true := by cases n <;> exact h
    exact ⟨(by simp only [toPy, PyData.canLay0]; exact h), Nat.zero_le _⟩
  | 0, .lst _ _, h => nomatch h
  | 0, .tup _, h => nomatch h
  | n + 1, .lst _ xs, h => by
    obtain ⟨h1, h2⟩ := plainAll_py n xs h
    exact ⟨(by simp only [toPy, PyData.canLay0]; exact h1), (by simp only [toPy, PyData.depth]; omega)⟩
  | n + 1, .tup xs, h => by
    obtain ⟨h1, h2⟩ := plainAll_py n xs h
    exact ⟨(by simp only [toPy, PyData.canLay0]; exact h1), (by simp only [toPy, PyData.depth]; omega)⟩
  | 0, .ins _ _, h => nomatch h
  | 0, .obj _ _, h => nomatch h
  | 0, .scr _, h => nomatch h
  | n + 1, .ins _ _, h => nomatch h
  | n + 1, .obj _ _, h => nomatch h
  | n + 1, .scr _, h => nomatch h
theorem plainAll_py : ∀ (n : Nat) (xs : List D), plainAll n xs = true → PyData.canLayAll0 (toPyAll xs) = true ∧ PyData.depthAll (toPyAll xs) ≤ n
  | n, [], _ => ⟨rfl, Nat.zero_le _⟩
  | n, x :: xs, h => by
    have h : (plain n x && plainAll n xs) = true := by cases n <;> exact h
    obtain ⟨z1, z2⟩ := Bool.and_eq_true_iff.mp h
    obtain ⟨a1, a2⟩ := plain_py n x z1
    obtain ⟨b1, b2⟩ := plainAll_py n xs z2
    exact ⟨(by simp only [toPyAll, PyData.canLayAll0, a1, b1]; rfl), (by simp only [toPyAll, PyData.depthAll]; omega)⟩
end
theorem plain_shaped {d : D} (h : plain 12 d = true) : SeqAt.shaped (toPy d) = true := by
  obtain ⟨h1, h2⟩ := plain_py 12 d h
  exact Bool.and_eq_true_iff.mpr ⟨h1, decide_eq_true (by omega)⟩
section
variable {G : Gam} {F B H : Hp}
mutual
theorem Dat.dp (b : Base G F B H) : ∀ (n : Nat) {v : V} {d : D} {p : List Addr}, plain n d = true → Dat G.T F B H v d p → Dp G.K H v (toPy d)
  | _, _, _, _, _, .non => .non
  | _, _, _, _, _, .bl b => .bl b
  | _, _, _, _, _, .int i => .int i
  | _, _, _, _, _, .str x => .str x
  | 0, _, _, _, z, .frz _ _ _ => nomatch z
  | 0, _, _, _, z, .own _ _ _ _ => nomatch z
  | 0, _, _, _, z, .tmp _ _ _ => nomatch z
  | 0, _, _, _, z, .bor _ _ _ => nomatch z
  | 0, _, _, _, z, .tup _ _ => nomatch z
  | n + 1, _, _, _, z, .frz e h c => .lst (SqL.of (b.bh _ _ (b.fb _ _ e))) (Dats.dp b n z h)
  | n + 1, _, _, _, z, .own e _ h c => .lst (SqL.of e) (Dats.dp b n z h)
  | n + 1, _, _, _, z, .tmp e _ h => .lst (SqL.of e) (Dats.dp b n z h)
  | n + 1, _, _, _, z, .bor e h c => .lst (SqL.of (b.bh _ _ e)) (Dats.dp b n z h)
  | n + 1, _, _, _, z, .tup e h => .tup (seqT_same (b.fb.trans b.bh) e) (Dats.dp b n z h)
  | 0, _, _, _, z, .ins _ _ _ _ _ => nomatch z
  | n + 1, _, _, _, z, .ins _ _ _ _ _ => nomatch z
  | 0, _, _, _, z, .obj _ _ _ _ _ _ => nomatch z
  | n + 1, _, _, _, z, .obj _ _ _ _ _ _ => nomatch z
  | 0, _, _, _, z, .scr _ => nomatch z
  | n + 1, _, _, _, z, .scr _ => nomatch z
theorem Dats.dp (b : Base G F B H) : ∀ (n : Nat) {vs : List V} {ds : List D} {p : List Addr}, plainAll n ds = true → Dats G.T F B H vs ds p → DpAll G.K H vs (toPyAll ds)
  | _, _, _, _, _, .nil => .nil
  | n, _, d :: ds, _, z, .cons h t => by
    have z : (plain n d && plainAll n ds) = true := by cases n <;> exact z
    obtain ⟨z1, z2⟩ := Bool.and_eq_true_iff.mp z
    exact .cons (Dat.dp b n z1 h) (Dats.dp b n z2 t)
end
end
def eqb (d e : D) : Bool := PyData.eqv (toPy d) (toPy e)
def eqD (d e : D) : Res D := match sV d, sV e with
  | some x, some y => if scal x y = true then .ok (.bl (decide (x = y))) else if plain 12 d = true ∧ plain 12 e = true then .ok (.bl (eqb d e)) else .stuck
  | _, _ => if plain 12 d = true ∧ plain 12 e = true then .ok (.bl (eqb d e)) else .stuck
def notR : Res D → Res D
  | .ok (.bl b) => .ok (.bl (!b))
  | .err c fs => .err c fs
  | _ => .stuck
def neD (d e : D) : Res D := notR (eqD d e)
section
variable {G : Gam}
abbrev rEqAll (K : PySem.W.Frag) : R2 := fun x y H Q => rEq x y H Q ∨ rEqD K x y H Q
abbrev rNeAll (K : PySem.W.Frag) : R2 := fun x y H Q => rNe x y H Q ∨ rNeD K x y H Q
theorem opr_eq {X : Cx} (hu : X.A.units + 64 < cLine) : OpR X (compareOp .Eq) (rEqAll X.K) := op_eq.or (op_eqD hu)
theorem opr_ne {X : Cx} (hu : X.A.units + 64 < cLine) : OpR X (compareOp .NotEq) (rNeAll X.K) := op_ne.or (op_neD hu)
theorem eqD_cases {d e c : D} (h : eqD d e = .ok c) : (∃ x y, sV d = some x ∧ sV e = some y ∧ scal x y = true ∧ c = .bl (decide (x = y))) ∨ (plain 12 d = true ∧ plain 12 e = true ∧ c = .bl (eqb d e)) := by
  unfold eqD at h
  split at h
  · rename_i x y e1 e2
    split at h
    · rename_i s
      cases h
      exact .inl ⟨x, y, e1, e2, s, rfl⟩
    · split at h
      · rename_i c
        cases h
        exact .inr ⟨c.1, c.2, rfl⟩
      · cases h
  · split at h
    · rename_i c
      cases h
      exact .inr ⟨c.1, c.2, rfl⟩
    · cases h
theorem eqD_ne {d e : D} {c : Str} {fs : List (Str × V)} : eqD d e ≠ .err c fs := by
  unfold eqD
  split
  · split
    · exact fun z => nomatch z
    · split <;> exact fun z => nomatch z
  · split <;> exact fun z => nomatch z
theorem op2_eq : Op2 G (rEqAll G.K) eqD := Op2.sc (fun F B H x y d e p q Q c b hd he z k => by
  rcases eqD_cases z with ⟨v, w, h1, h2, s, rfl⟩ | ⟨h1, h2, rfl⟩
  · obtain rfl := hd.sV h1
    obtain rfl := he.sV h2
    exact .inl ⟨s, k _ rfl⟩
  · exact .inr ⟨_, _, hd.dp b 12 h1, he.dp b 12 h2, plain_shaped h1, plain_shaped h2, k _ rfl⟩) fun _ _ _ _ => eqD_ne
theorem op2_ne : Op2 G (rNeAll G.K) neD := Op2.sc (fun F B H x y d e p q Q c b hd he z k => by
  unfold neD at z
  cases z0 : eqD d e with
  | ok c0 =>
    rw [z0] at z
    rcases eqD_cases z0 with ⟨v, w, h1, h2, s, rfl⟩ | ⟨h1, h2, rfl⟩
    · obtain rfl := hd.sV h1
      obtain rfl := he.sV h2
      cases z
      exact .inl ⟨s, k _ rfl⟩
    · cases z
      exact .inr ⟨_, _, hd.dp b 12 h1, he.dp b 12 h2, plain_shaped h1, plain_shaped h2, k _ rfl⟩
  | err c fs => exact absurd z0 eqD_ne
  | stuck => rw [z0] at z; cases z) fun d e c fs z => by
    unfold neD at z
    cases z0 : eqD d e with
    | ok c0 => rw [z0] at z; cases c0 <;> cases z
    | err c fs => exact absurd z0 eqD_ne
    | stuck => rw [z0] at z; cases z
end

/-! ### is -/
def D.isNon : D → Bool
  | .non => true
  | _ => false
def isND (d e : D) : Res D := match e with
  | .non => .ok (.bl d.isNon)
  | .bl b => match d with | .bl c => .ok (.bl (decide (c = b))) | _ => .stuck
  | _ => .stuck
def notND (d e : D) : Res D := notR (isND d e)
abbrev rIsAll : R2 := fun x y H Q => (y = .non ∧ Q (.bl (decide (x = .non))) H) ∨ rIsB x y H Q
abbrev rIsNotAll : R2 := fun x y H Q => (y = .non ∧ Q (.bl (!decide (x = .non))) H) ∨ rNotB x y H Q
section
variable {G : Gam}
theorem opr_is {X : Cx} : OpR X (compareOp .Is) rIsAll := op_isN.or op_isBl
theorem opr_isNot {X : Cx} : OpR X (compareOp .IsNot) rIsNotAll := op_notN.or op_notBl
theorem Dat.isN {F B H : Hp} {x : V} {d : D} {p : List Addr} (h : Dat G.T F B H x d p) : decide (x = .non) = d.isNon := by
  cases h <;> rfl
theorem op2_is : Op2 G rIsAll isND := Op2.sc (fun F B H x y d e p q Q c b hd he z k => by
  cases e <;> first | cases z | skip
  · cases he
    exact .inl ⟨rfl, by rw [hd.isN]; exact k _ rfl⟩
  · cases he
    cases d <;> cases z
    cases hd
    exact .inr ⟨_, _, rfl, rfl, k _ rfl⟩) fun d e c fs z => by cases e <;> cases d <;> cases z
theorem op2_isNot : Op2 G rIsNotAll notND := Op2.sc (fun F B H x y d e p q Q c b hd he z k => by
  cases e <;> first | cases z | skip
  · cases he
    exact .inl ⟨rfl, by rw [hd.isN]; exact k _ rfl⟩
  · cases he
    cases d <;> cases z
    cases hd
    exact .inr ⟨_, _, rfl, rfl, k _ rfl⟩) fun d e c fs z => by cases e <;> cases d <;> cases z
end

/-! ### tests -/
def truthD : D → Res Bool
  | .non => .ok false
  | .bl b => .ok b
  | .int i => .ok (i != 0)
  | .str x => if x.length ≤ LINE then .ok ((x.length : Int) != 0) else .stuck
  | .lst _ xs => .ok (!xs.isEmpty)
  | .tup xs => .ok (!xs.isEmpty)
  | .scr ns => .ok (!ns.isEmpty)
  | _ => .stuck
def bT (f : Rho → Res D) : Rho → Res Bool := fun ρ => (f ρ).bind truthD
def bNot (f : Rho → Res Bool) : Rho → Res Bool := fun ρ => (f ρ).bind fun b => .ok (!b)
def bAnd (f g : Rho → Res Bool) : Rho → Res Bool := fun ρ => (f ρ).bind fun b => if b then g ρ else .ok false
def bOr (f g : Rho → Res Bool) : Rho → Res Bool := fun ρ => (f ρ).bind fun b => if b then .ok true else g ρ
section
variable {G : Gam} {W : WX} {X : Cx} {F B H : Hp} {σ : St} {a b : Expr} {fa fb : Rho → Res D} {pos : Pos}
theorem isEmpty_len {α β : Type} {xs : List α} {ys : List β} (h : xs.length = ys.length) : xs.isEmpty = ys.isEmpty := by
  cases xs <;> cases ys <;> first | rfl | simp at h
theorem Dat.tru {x : V} {d : D} {p : List Addr} {k : Bool} (bs : Base G F B H) (hd : Dat G.T F B H x d p) (h : truthD d = .ok k) : TruV G.K x H k := by
  cases d with
  | non => cases hd; cases h; rfl
  | bl b => cases hd; cases h; rfl
  | int i => cases hd; cases h; rfl
  | str x =>
    cases hd
    have h : (if x.length ≤ LINE then Res.ok ((x.length : Int) != 0) else .stuck) = .ok k := h
    by_cases c : x.length ≤ LINE
    · rw [if_pos c] at h
      cases h
      exact ⟨(by rw [line_eq]; exact c), rfl⟩
    · rw [if_neg c] at h
      cases h
  | lst k' xs =>
    cases h
    obtain ⟨a, vs, q, rfl, e, ds, _⟩ := hd.lst bs
    exact .inl ⟨vs, SqL.of e, by rw [isEmpty_len ds.length]⟩
  | tup xs =>
    cases h
    cases hd with
    | tup e ds => exact .inr (.inl ⟨_, seqT_same (bs.fb.trans bs.bh) e, by rw [isEmpty_len ds.length]⟩)
  | scr ns =>
    cases h
    cases hd with
    | scr e => exact .inl ⟨_, bs.bh.seq e, by rw [isEmpty_len (List.length_map ..)]⟩
  | ins _ _ => cases h
  | obj _ _ => cases h
theorem truthD_ne {d : D} {c : Str} {fs : List (Str × V)} : truthD d ≠ .err c fs := by
  intro z
  cases d with
  | str x =>
    have z : (if x.length ≤ LINE then Res.ok ((x.length : Int) != 0) else .stuck) = .err c fs := z
    by_cases c : x.length ≤ LINE
    · rw [if_pos c] at z; cases z
    · rw [if_neg c] at z; cases z
  | non => cases z
  | bl _ => cases z
  | int _ => cases z
  | lst _ _ => cases z
  | tup _ => cases z
  | ins _ _ => cases z
  | obj _ _ => cases z
  | scr _ => cases z
theorem et_val (hK : X.K = G.K) (ha : EB G X W a fa) (he : ∀ whole, isTrue a X.env whole = (do let v ← whole; standAt a.pos; holding [v] (truthy v)) := by intro _; rfl) : ET G X W a (bT fa) :=
  pt_pre (pt_truth ha he) fun σ H Q ⟨ρ, F, B, rel, k⟩ => ⟨ρ, F, B, rel, (kE.bind k).mono fun d F' B' H' x k' v p hd => by
    cases z : truthD d with
    | ok t =>
      rw [z] at k'
      exact ⟨t, by rw [hK]; exact hd.tru (rel.base.ext x) z, kE.ok x.fb x.bh k'⟩
    | err c fs => exact absurd z truthD_ne
    | stuck => rw [z] at k'; exact k'.elim⟩
def boolR : Res D → Res Bool
  | .ok (.bl b) => .ok b
  | .err c fs => .err c fs
  | _ => .stuck
/-- a comparison as a test -/
def bE (f : Rho → Res D) : Rho → Res Bool := fun ρ => (f ρ).bind fun d => match d with | .bl b => .ok b | _ => .stuck
theorem bE_run {t : TE} {f : Rho → Res D} (h : ∀ σ H Q, tV G W f σ H Q → t σ H Q) (σ : St) (H : Hp) (Q : Bool → Hp → Prop) (k : tT G W (bE f) σ H Q) : tTest t σ H Q := by
  obtain ⟨ρ, F, B, rel, k⟩ := k
  refine h σ H _ ⟨ρ, F, B, rel, (kE.bind k).mono fun d F' B' H' x k' v p hd _ _ => ?_⟩
  cases d <;> first | exact k'.elim | skip
  cases hd
  exact ⟨_, rfl, kE.ok x.fb x.bh k'⟩
theorem et_cmp {op : CmpOp} {r : R2} {g : D → D → Res D} (hr : OpR X (compareOp op) r) (ho : Op2 G r g) (ha : EB G X W a fa) (hb : EB G X W b fb) (hm : behindInMarks op b = false) : ET G X W (.Compare a [op] [b] pos) (bE (eB2 g fa fb)) :=
  pt_pre (pt_cmpR hr ha hb hm) (bE_run fun σ H Q ⟨ρ, F, B, rel, k⟩ => two_run ho rel k)
variable {ta tb : Rho → Res Bool} {rest : List Expr}
theorem et_not (ha : ET G X W a ta) : ET G X W (.UnaryOp .Not a pos) (bNot ta) :=
  pt_pre (pt_not ha) fun σ H Q ⟨ρ, F, B, rel, k⟩ => ⟨ρ, F, B, rel, (kE.bind k).mono fun b F' B' H' x k' => kE.ok x.fb x.bh k'⟩
abbrev EW (G : Gam) (X : Cx) (W : WX) (e : Expr) (f : Rho → Res Bool) : Prop := PW X e (tT G W f)
theorem ew_and1 (ha : ET G X W a ta) : EW G X W (.BoolOp .And [a] pos) ta := pw_and1 ha
theorem ew_or1 (ha : ET G X W a ta) : EW G X W (.BoolOp .Or [a] pos) ta := pw_or1 ha
theorem ew_and (ha : ET G X W a ta) (hb : EW G X W (.BoolOp .And (b :: rest) pos) tb) : EW G X W (.BoolOp .And (a :: b :: rest) pos) (bAnd ta tb) :=
  pw_pre (pw_and ha hb) fun σ H Q ⟨ρ, F, B, rel, k⟩ => ⟨ρ, F, B, rel, (kE.bind k).mono fun c F' B' H' x k' => by
    cases c with
    | true => exact ⟨ρ, F', B', rel.ext x, k'⟩
    | false => exact kE.ok (G := G) (W := W) (σ := σ) x.fb x.bh k'⟩
theorem ew_or (ha : ET G X W a ta) (hb : EW G X W (.BoolOp .Or (b :: rest) pos) tb) : EW G X W (.BoolOp .Or (a :: b :: rest) pos) (bOr ta tb) :=
  pw_pre (pw_or ha hb) fun σ H Q ⟨ρ, F, B, rel, k⟩ => ⟨ρ, F, B, rel, (kE.bind k).mono fun c F' B' H' x k' => by
    cases c with
    | true => exact kE.ok (G := G) (W := W) (σ := σ) x.fb x.bh k'
    | false => exact ⟨ρ, F', B', rel.ext x, k'⟩⟩
theorem et_w (h : EW G X W a ta) : ET G X W a ta := PW.pt h

/-- and, or, not as values -/
def eNot (f : Rho → Res D) : Rho → Res D := fun ρ => (f ρ).bind fun d => (truthD d).bind fun b => .ok (.bl (!b))
def eAnd (f g : Rho → Res D) : Rho → Res D := fun ρ => (f ρ).bind fun d => match d with | .bl b => (if b then g ρ else .ok (.bl false)) | _ => .stuck
def eOr (f g : Rho → Res D) : Rho → Res D := fun ρ => (f ρ).bind fun d => match d with | .bl b => (if b then .ok (.bl true) else g ρ) | _ => .stuck
theorem ev_one {op : BoolOp} {f : Rho → Res D} (h : EV G X W a f) : EV G X W (.BoolOp op [a] pos) f := pe_one h
theorem ev_and (ha : EV G X W a fa) (hb : EV G X W (.BoolOp .And (b :: rest) pos) fb) : EV G X W (.BoolOp .And (a :: b :: rest) pos) (eAnd fa fb) :=
  pe_pre (pe_and ha hb) fun σ H Q ⟨ρ, F, B, rel, k⟩ => ⟨ρ, F, B, rel, (kE.bind k).mono fun d F' B' H' x k' v p hd _ _ => by
    cases d <;> first | exact k'.elim | skip
    rename_i c
    cases hd
    refine ⟨c, rfl, ?_⟩
    cases c with
    | true => exact ⟨ρ, F', B', rel.ext x, kE.mono (r := fb ρ) k' fun e F2 B2 H2 y q v p he nd new => q v p he nd fun a m => x.h.free (new a m)⟩
    | false => exact kE.ok (G := G) (W := W) (σ := σ) x.fb x.bh k' _ [] (.bl _) List.nodup_nil fun _ z => nomatch z⟩
theorem ev_or (ha : EV G X W a fa) (hb : EV G X W (.BoolOp .Or (b :: rest) pos) fb) : EV G X W (.BoolOp .Or (a :: b :: rest) pos) (eOr fa fb) :=
  pe_pre (pe_or ha hb) fun σ H Q ⟨ρ, F, B, rel, k⟩ => ⟨ρ, F, B, rel, (kE.bind k).mono fun d F' B' H' x k' v p hd _ _ => by
    cases d <;> first | exact k'.elim | skip
    rename_i c
    cases hd
    refine ⟨c, rfl, ?_⟩
    cases c with
    | true => exact kE.ok (G := G) (W := W) (σ := σ) x.fb x.bh k' _ [] (.bl _) List.nodup_nil fun _ z => nomatch z
    | false => exact ⟨ρ, F', B', rel.ext x, kE.mono (r := fb ρ) k' fun e F2 B2 H2 y q v p he nd new => q v p he nd fun a m => x.h.free (new a m)⟩⟩
end
end DH
namespace DH
open PySem L2
open PyProof.Rows in
section
variable {X : L2.Cx} {a b c d : Expr} {ta tb tc td : TE} {pos : Pos}
/-- a op1 b op2 c op3 d -/
def tChain3 (r r' r2 : R2) (ta tb tc td : TE) : TE := fun σ H Q => ta σ H fun x H1 => tb σ H1 fun y H2 => r x y H2 fun z H3 => ∃ k, z = .bl k ∧
  (if k = true then tc σ H3 fun w H4 => r' y w H4 fun z' H5 => ∃ k', z' = .bl k' ∧ (if k' = true then td σ H5 fun u H6 => r2 w u H6 Q else Q (.bl false) H5) else Q (.bl false) H3)
theorem pe_chain3 {op op' op2 : CmpOp} {r r' r2 : R2} (ho : OpR X (compareOp op) r) (ho' : OpR X (compareOp op') r') (ho2 : OpR X (compareOp op2) r2) (ha : PE X a ta) (hb : PE X b tb) (hc : PE X c tc) (hd : PE X d td)
    (hm : lastMarks [op, op', op2] [b, c, d] = false := by with_unfolding_all rfl) : PE X (.Compare a [op, op', op2] [b, c, d] pos) (tChain3 r r' r2 ta tb tc td) := by
  refine ⟨fun pins s σ H Q I h => ?_⟩
  refine Compare_chain (thn (ha.run pins s σ H _ I h) fun v s1 ⟨x, H1, I1, r1, q1⟩ => chain_link (thn (hb.run pins s1 σ H1 _ I1 q1) fun u s2 ⟨y, H2, I2, r2, q2⟩ =>
    thn (ho pins s2 σ H2 x y v u _ I2 r1 r2 q2) fun d s3 ⟨z, H3, I3, r3, k, e, q3⟩ => ?_)) hm
  subst e
  cases r3
  refine wpAny_truthy_bool ?_
  cases k with
  | false => exact ite_ff ⟨.bl false, H3, I3, rfl, q3⟩
  | true =>
    refine ite_tt (chain_link (thn (hc.run pins s3 σ H3 _ I3 q3) fun w' s4 ⟨z', H4, I4, r4, q4⟩ => thn (ho' pins s4 σ H4 y z' u w' _ I4 r2 r4 q4) fun d' s5 ⟨z2, H5, I5, r5, k2, e2, q5⟩ => ?_))
    subst e2
    cases r5
    refine wpAny_truthy_bool ?_
    cases k2 with
    | false => exact ite_ff ⟨.bl false, H5, I5, rfl, q5⟩
    | true => exact ite_tt (chain_last (thn (hd.run pins s5 σ H5 _ I5 q5) fun w2 s6 ⟨z3, H6, I6, r6, q6⟩ => ho2 pins s6 σ H6 z' z3 w' w2 Q I6 r4 r6 q6))
theorem pt_chain3 {op op' op2 : CmpOp} {r r' r2 : R2} (ho : OpR X (compareOp op) r) (ho' : OpR X (compareOp op') r') (ho2 : OpR X (compareOp op2) r2) (ha : PE X a ta) (hb : PE X b tb) (hc : PE X c tc) (hd : PE X d td)
    (hm : lastMarks [op, op', op2] [b, c, d] = false := by with_unfolding_all rfl) : PT X (.Compare a [op, op', op2] [b, c, d] pos) (tTest (tChain3 r r' r2 ta tb tc td)) := by
  refine ⟨fun pins s σ H Q I h => ?_⟩
  refine isTrue_chain (thn (ha.run pins s σ H _ I h) fun v s1 ⟨x, H1, I1, r1, q1⟩ => test_link (thn (hb.run pins s1 σ H1 _ I1 q1) fun u s2 ⟨y, H2, I2, r2, q2⟩ =>
    thn (ho pins s2 σ H2 x y v u _ I2 r1 r2 q2) fun d s3 ⟨z, H3, I3, r3, k, e, q3⟩ => ?_)) hm
  subst e
  cases r3
  refine wpAny_truthy_bool ?_
  cases k with
  | false =>
    obtain ⟨k', e', q'⟩ := q3
    cases e'
    exact ite_ff ⟨H3, I3, q'⟩
  | true =>
    refine ite_tt (test_link (thn (hc.run pins s3 σ H3 _ I3 q3) fun w' s4 ⟨z', H4, I4, r4, q4⟩ => thn (ho' pins s4 σ H4 y z' u w' _ I4 r2 r4 q4) fun d' s5 ⟨z2, H5, I5, r5, k2, e2, q5⟩ => ?_))
    subst e2
    cases r5
    refine wpAny_truthy_bool ?_
    cases k2 with
    | false =>
      obtain ⟨k', e', q'⟩ := q5
      cases e'
      exact ite_ff ⟨H5, I5, q'⟩
    | true =>
      refine ite_tt (test_last (thn (hd.run pins s5 σ H5 _ I5 q5) fun w2 s6 ⟨z3, H6, I6, r6, q6⟩ => thn (ho2 pins s6 σ H6 z' z3 w' w2 _ I6 r4 r6 q6) fun d'' s7 ⟨z4, H7, I7, r7, k4, e4, q7⟩ => ?_))
      subst e4
      cases r7
      exact wpAny_truthy_bool ⟨H7, I7, q7⟩
end

section
variable {G : Gam} {W : WX} {X : L2.Cx} {F B H : Hp} {σ : L2.St} {a b c d : Expr} {fa fb fc fd : Rho → Res D} {pos : Pos} {ρ : Rho}
def thenD (x : Res D) (k : Res D) : Res D := x.bind fun d => match d with | .bl b => (if b then k else .ok (.bl false)) | _ => .stuck
def eCh2 (g g' : D → D → Res D) (a b c : Rho → Res D) : Rho → Res D := fun ρ => (a ρ).bind fun x => (b ρ).bind fun y => thenD (g x y) ((c ρ).bind fun z => g' y z)
def eCh3 (g g' g2 : D → D → Res D) (a b c d : Rho → Res D) : Rho → Res D := fun ρ => (a ρ).bind fun x => (b ρ).bind fun y => thenD (g x y) ((c ρ).bind fun z => thenD (g' y z) ((d ρ).bind fun u => g2 z u))
theorem thenD_run {r : R2} {g : D → D → Res D} {x y : V} {dx dy : D} {p q : List Addr} {k : Res D} {K : D → Hp → Hp → Hp → Prop} {Q : VK} (ho : Op2 G r g) (bs : Base G F B H) (hx : Dat G.T F B H x dx p) (hy : Dat G.T F B H y dy q)
    (h : kE G.T W σ F B H (thenD (g dx dy) k) K) (ht : ∀ F' B' H', Ext F B H F' B' H' → kE G.T W σ F' B' H' k K → Q (.bl true) H') (hf : ∀ F' B' H', Ext F B H F' B' H' → K (.bl false) F' B' H' → Q (.bl false) H') :
    r x y H Q := by
  refine ho W σ F B H x y dx dy p q Q bs hx hy ((kE.bind h).mono fun e F' B' H' ex k' v p he _ _ => ?_)
  cases e <;> first | exact k'.elim | skip
  rename_i t
  cases he
  cases t with
  | true => exact ht _ _ _ ex k'
  | false => exact hf _ _ _ ex (kE.ok ex.fb ex.bh k')
theorem ch2_run {r r' : R2} {g g' : D → D → Res D} {Q : VK} (ho : Op2 G r g) (ho' : Op2 G r' g') (rel : RelS G ρ F B σ H)
    (k : kE G.T W σ F B H (eCh2 g g' fa fb fc ρ) fun d F' B' H' => ∀ v p, Dat G.T F' B' H' v d p → p.Nodup → (∀ a ∈ p, H a = none) → Q v H') : tChain r r' (tB G W fa) (tB G W fb) (tB G W fc) σ H Q := by
  refine ⟨ρ, F, B, rel, (kE.bind k).mono fun dx F1 B1 H1 x1 k1 v p hx => ⟨ρ, F1, B1, rel.ext x1, (kE.bind k1).mono fun dy F2 B2 H2 x2 k2 w q hy => ?_⟩⟩
  refine thenD_run ho ((rel.ext x1).base.ext x2) (hx.ext x2) hy k2 (fun F3 B3 H3 x3 k3 => ⟨true, rfl, ?_⟩) fun F3 B3 H3 x3 k3 => ⟨false, rfl, ?_⟩
  · rw [if_pos rfl]
    refine ⟨ρ, F3, B3, ((rel.ext x1).ext x2).ext x3, (kE.bind k3).mono fun dz F4 B4 H4 x4 k4 u p2 hz => ?_⟩
    refine ho' W σ F4 B4 H4 w u dy dz q p2 Q ((((rel.ext x1).ext x2).ext x3).ext x4).base ((hy.ext x3).ext x4) hz (kE.mono k4 fun e F5 B5 H5 x5 k5 v' p' he nd new => k5 v' p' he nd fun a m => ?_)
    exact (((x1.trans x2).trans x3).trans x4).h.free (new a m)
  · rw [if_neg Bool.false_ne_true]
    exact k3 _ [] (.bl false) List.nodup_nil fun _ z => nomatch z
theorem ch3_run {r r' r2 : R2} {g g' g2 : D → D → Res D} {Q : VK} (ho : Op2 G r g) (ho' : Op2 G r' g') (ho2 : Op2 G r2 g2) (rel : RelS G ρ F B σ H)
    (k : kE G.T W σ F B H (eCh3 g g' g2 fa fb fc fd ρ) fun d F' B' H' => ∀ v p, Dat G.T F' B' H' v d p → p.Nodup → (∀ a ∈ p, H a = none) → Q v H') : tChain3 r r' r2 (tB G W fa) (tB G W fb) (tB G W fc) (tB G W fd) σ H Q := by
  refine ⟨ρ, F, B, rel, (kE.bind k).mono fun dx F1 B1 H1 x1 k1 v p hx => ⟨ρ, F1, B1, rel.ext x1, (kE.bind k1).mono fun dy F2 B2 H2 x2 k2 w q hy => ?_⟩⟩
  refine thenD_run ho ((rel.ext x1).base.ext x2) (hx.ext x2) hy k2 (fun F3 B3 H3 x3 k3 => ⟨true, rfl, ?_⟩) fun F3 B3 H3 x3 k3 => ⟨false, rfl, ?_⟩
  · rw [if_pos rfl]
    refine ⟨ρ, F3, B3, ((rel.ext x1).ext x2).ext x3, (kE.bind k3).mono fun dz F4 B4 H4 x4 k4 u p2 hz => ?_⟩
    refine thenD_run ho' ((((rel.ext x1).ext x2).ext x3).ext x4).base ((hy.ext x3).ext x4) hz k4 (fun F5 B5 H5 x5 k5 => ⟨true, rfl, ?_⟩) fun F5 B5 H5 x5 k5 => ⟨false, rfl, ?_⟩
    · rw [if_pos rfl]
      refine ⟨ρ, F5, B5, ((((rel.ext x1).ext x2).ext x3).ext x4).ext x5, (kE.bind k5).mono fun du F6 B6 H6 x6 k6 u2 p3 hu => ?_⟩
      refine ho2 W σ F6 B6 H6 u u2 dz du p2 p3 Q ((((((rel.ext x1).ext x2).ext x3).ext x4).ext x5).ext x6).base ((hz.ext x5).ext x6) hu (kE.mono k6 fun e F7 B7 H7 x7 k7 v' p' he nd new => k7 v' p' he nd fun a m => ?_)
      exact (((((x1.trans x2).trans x3).trans x4).trans x5).trans x6).h.free (new a m)
    · rw [if_neg Bool.false_ne_true]
      exact k5 _ [] (.bl false) List.nodup_nil fun _ z => nomatch z
  · rw [if_neg Bool.false_ne_true]
    exact k3 _ [] (.bl false) List.nodup_nil fun _ z => nomatch z
theorem ev_ch2 {op op' : CmpOp} {r r' : R2} {g g' : D → D → Res D} (hr : OpR X (compareOp op) r) (ho : Op2 G r g) (hr' : OpR X (compareOp op') r') (ho' : Op2 G r' g') (ha : EB G X W a fa) (hb : EB G X W b fb) (hc : EB G X W c fc)
    (hm : lastMarks [op, op'] [b, c] = false := by with_unfolding_all rfl) : EV G X W (.Compare a [op, op'] [b, c] pos) (eCh2 g g' fa fb fc) :=
  pe_pre (pe_chain hr hr' ha hb hc hm) fun σ H Q ⟨ρ, F, B, rel, k⟩ => ch2_run ho ho' rel k
theorem et_ch2 {op op' : CmpOp} {r r' : R2} {g g' : D → D → Res D} (hr : OpR X (compareOp op) r) (ho : Op2 G r g) (hr' : OpR X (compareOp op') r') (ho' : Op2 G r' g') (ha : EB G X W a fa) (hb : EB G X W b fb) (hc : EB G X W c fc)
    (hm : lastMarks [op, op'] [b, c] = false := by with_unfolding_all rfl) : ET G X W (.Compare a [op, op'] [b, c] pos) (bE (eCh2 g g' fa fb fc)) :=
  pt_pre (pt_chain hr hr' ha hb hc hm) (bE_run fun σ H Q ⟨ρ, F, B, rel, k⟩ => ch2_run ho ho' rel k)
theorem ev_ch3 {op op' op2 : CmpOp} {r r' r2 : R2} {g g' g2 : D → D → Res D} (hr : OpR X (compareOp op) r) (ho : Op2 G r g) (hr' : OpR X (compareOp op') r') (ho' : Op2 G r' g') (hr2 : OpR X (compareOp op2) r2) (ho2 : Op2 G r2 g2) (ha : EB G X W a fa) (hb : EB G X W b fb) (hc : EB G X W c fc) (hd : EB G X W d fd)
    (hm : lastMarks [op, op', op2] [b, c, d] = false := by with_unfolding_all rfl) : EV G X W (.Compare a [op, op', op2] [b, c, d] pos) (eCh3 g g' g2 fa fb fc fd) :=
  pe_pre (pe_chain3 hr hr' hr2 ha hb hc hd hm) fun σ H Q ⟨ρ, F, B, rel, k⟩ => ch3_run ho ho' ho2 rel k
theorem et_ch3 {op op' op2 : CmpOp} {r r' r2 : R2} {g g' g2 : D → D → Res D} (hr : OpR X (compareOp op) r) (ho : Op2 G r g) (hr' : OpR X (compareOp op') r') (ho' : Op2 G r' g') (hr2 : OpR X (compareOp op2) r2) (ho2 : Op2 G r2 g2) (ha : EB G X W a fa) (hb : EB G X W b fb) (hc : EB G X W c fc) (hd : EB G X W d fd)
    (hm : lastMarks [op, op', op2] [b, c, d] = false := by with_unfolding_all rfl) : ET G X W (.Compare a [op, op', op2] [b, c, d] pos) (bE (eCh3 g g' g2 fa fb fc fd)) :=
  pt_pre (pt_chain3 hr hr' hr2 ha hb hc hd hm) (bE_run fun σ H Q ⟨ρ, F, B, rel, k⟩ => ch3_run ho ho' ho2 rel k)

/-! ### arguments, displays -/
def aNil : Rho → Res (List D) := fun _ => .ok []
def aCons (f : Rho → Res D) (g : Rho → Res (List D)) : Rho → Res (List D) := fun ρ => (f ρ).bind fun d => (g ρ).bind fun ds => .ok (d :: ds)
variable {e : Expr} {es : List Expr} {fe : Rho → Res D} {fs : Rho → Res (List D)}
theorem ea_nil : EA G X W [] aNil := pa_pre pa_nil fun σ H Q ⟨ρ, F, B, rel, k⟩ => kE.ok rel.base.fb rel.base.bh k [] [] .nil
theorem eav_nil : EAV G X W [] aNil := pa_pre pa_nil fun σ H Q ⟨ρ, F, B, rel, k⟩ => kE.ok rel.base.fb rel.base.bh k [] [] .nil List.nodup_nil fun _ z => nomatch z
theorem ea_cons (h : EB G X W e fe) (t : EA G X W es fs) (hs : starEach (e :: es) X.env = (false, eval e X.env) :: starEach es X.env := by rfl) : EA G X W (e :: es) (aCons fe fs) :=
  pa_pre (pa_cons h t hs) fun σ H Q ⟨ρ, F, B, rel, k⟩ => ⟨ρ, F, B, rel, (kE.bind k).mono fun d F1 B1 H1 x1 k1 v p hd => ⟨ρ, F1, B1, rel.ext x1, (kE.bind k1).mono fun ds F2 B2 H2 x2 k2 vs q hs =>
    kE.ok x2.fb x2.bh k2 (v :: vs) (p ++ q) (.cons (hd.ext x2) hs)⟩⟩
theorem eav_cons (h : EV G X W e fe) (t : EAV G X W es fs) (hs : starEach (e :: es) X.env = (false, eval e X.env) :: starEach es X.env := by rfl) : EAV G X W (e :: es) (aCons fe fs) :=
  pa_pre (pa_cons h t hs) fun σ H Q ⟨ρ, F, B, rel, k⟩ => ⟨ρ, F, B, rel, (kE.bind k).mono fun d F1 B1 H1 x1 k1 v p hd nd new => ⟨ρ, F1, B1, rel.ext x1, (kE.bind k1).mono fun ds F2 B2 H2 x2 k2 vs q hs nds news =>
    kE.ok x2.fb x2.bh k2 (v :: vs) (p ++ q) (.cons (hd.ext x2) hs) (List.nodup_append.mpr ⟨nd, nds, fun a z b y e => (hd.foot a z).1 (e ▸ news b y)⟩) fun a z => by
      rcases List.mem_append.mp z with z | z
      · exact new a z
      · exact x1.h.free (news a z)⟩⟩
theorem EAV.toB (h : EAV G X W es fs) : EA G X W es fs := pa_pre h fun σ H Q ⟨ρ, F, B, rel, k⟩ => ⟨ρ, F, B, rel, k.mono fun ds F1 B1 H1 x1 k1 vs p h _ _ => k1 vs p h⟩
def eTup (f : Rho → Res (List D)) : Rho → Res D := fun ρ => (f ρ).bind fun ds => if ds.length ≤ LINE then .ok (.tup ds) else .stuck
def eLst (f : Rho → Res (List D)) : Rho → Res D := fun ρ => (f ρ).bind fun ds => if ds.length ≤ LINE ∧ D.retAll ds = true then .ok (.lst .own ds) else .stuck
def eTmp (f : Rho → Res (List D)) : Rho → Res D := fun ρ => (f ρ).bind fun ds => if ds.length ≤ LINE then .ok (.lst .tmp ds) else .stuck
theorem ev_tup {x1} (h : EAV G X W es fs) : EV G X W (.Tuple es x1 pos) (eTup fs) :=
  pe_pre (pe_tup h) fun σ H Q ⟨ρ, F, B, rel, k⟩ => ⟨ρ, F, B, rel, (kE.bind k).mono fun ds F1 B1 H1 x1 k1 vs p hs nd new => by
    obtain ⟨c, k1⟩ := kE.ite k1
    refine ⟨by rw [hs.length, line_eq]; exact c, fun a na => ?_⟩
    obtain ⟨x, d⟩ := new_tup (rel.base.ext x1) na hs
    exact k1 _ _ _ x _ _ d nd new⟩
theorem eb_tup {x1} (h : EA G X W es fs) : EB G X W (.Tuple es x1 pos) (eTup fs) :=
  pe_pre (pe_tup h) fun σ H Q ⟨ρ, F, B, rel, k⟩ => ⟨ρ, F, B, rel, (kE.bind k).mono fun ds F1 B1 H1 x1 k1 vs p hs => by
    obtain ⟨c, k1⟩ := kE.ite k1
    refine ⟨by rw [hs.length, line_eq]; exact c, fun a na => ?_⟩
    obtain ⟨x, d⟩ := new_tup (rel.base.ext x1) na hs
    exact k1 _ _ _ x _ _ d⟩
theorem ev_lst (h : EAV G X W es fs) : EV G X W (.List es pos) (eLst fs) :=
  pe_pre (pe_lst h) fun σ H Q ⟨ρ, F, B, rel, k⟩ => ⟨ρ, F, B, rel, (kE.bind k).mono fun ds F1 B1 H1 x1 k1 vs p hs nd new => by
    obtain ⟨c, k1⟩ := kE.ite k1
    refine ⟨by rw [hs.length, line_eq]; exact c.1, fun a na => ?_⟩
    have b1 := rel.base.ext x1
    have x := Ext.new (o := .lst vs) b1.fb b1.bh na
    exact k1 _ _ _ x _ _ (.own upd_same (b1.bh.free na) (hs.ext x) c.2) (List.nodup_cons.mpr ⟨fun z => (hs.foot a z).1 na, nd⟩) fun b z => by
      rcases List.mem_cons.mp z with rfl | z
      · exact x1.h.free na
      · exact new b z⟩
theorem eb_lst (h : EA G X W es fs) : EB G X W (.List es pos) (eTmp fs) :=
  pe_pre (pe_lst h) fun σ H Q ⟨ρ, F, B, rel, k⟩ => ⟨ρ, F, B, rel, (kE.bind k).mono fun ds F1 B1 H1 x1 k1 vs p hs => by
    obtain ⟨c, k1⟩ := kE.ite k1
    refine ⟨by rw [hs.length, line_eq]; exact c, fun a na => ?_⟩
    have b1 := rel.base.ext x1
    have x := Ext.new (o := .lst vs) b1.fb b1.bh na
    exact k1 _ _ _ x _ _ (.tmp upd_same (b1.bh.free na) (hs.ext x))⟩

/-! ### items, fields -/
def ixA {α : Type} (xs : List α) (i : Int) (k : α → Res D) : Res D := match atI xs i with
  | some d => k d
  | none => .stuck
def ixD : D → D → Res D
  | .lst _ xs, .int i => ixA xs i .ok
  | .tup xs, .int i => ixA xs i .ok
  | .scr ns, .int i => ixA ns i fun n => .ok (.int n)
  | .str x, .int i => if x.length ≤ LINE then ixA x.cps.toList i fun c => .ok (.str ⟨#[c]⟩) else .stuck
  | _, _ => .stuck
theorem atI_map {α β : Type} (f : α → β) (xs : List α) (i : Int) : atI (xs.map f) i = (atI xs i).map f := by
  unfold atI
  rw [List.length_map]
  cases w : ixN xs.length i with
  | none => rfl
  | some j => exact List.getElem?_map ..
theorem ixA_run {α : Type} {xs : List α} {i : Int} {k : α → Res D} {K : D → Hp → Hp → Hp → Prop} (h : kE G.T W σ F B H (ixA xs i k) K) : ∃ d, atI xs i = some d ∧ kE G.T W σ F B H (k d) K := by
  unfold ixA at h
  split at h
  · rename_i d e; exact ⟨d, e, h⟩
  · exact h.elim
theorem Dats.atI {vs : List V} {ds : List D} {p : List Addr} {i : Int} {d : D} (h : Dats G.T F B H vs ds p) (e : L2.atI ds i = some d) : ∃ v q, L2.atI vs i = some v ∧ Dat G.T F B H v d q := by
  unfold L2.atI at e ⊢
  rw [h.length]
  cases z : ixN ds.length i with
  | none => rw [z] at e; cases e
  | some j =>
    rw [z] at e
    obtain ⟨v, q, e1, h1, _⟩ := h.get (i := j) e
    exact ⟨v, q, e1, h1⟩
theorem op2_ix : Op2B G (rIx G.K) ixD := fun W σ F B H x y d e p q Q b hd he k => by
  cases e <;> first | (cases d <;> exact k.elim) | skip
  cases he
  cases d <;> first | exact k.elim | skip
  · cases hd
    obtain ⟨c, k⟩ := kE.ite k
    obtain ⟨z, e, k⟩ := ixA_run k
    exact .inr (.inr ⟨_, _, _, rfl, rfl, by rw [line_eq]; exact c, e, kE.ok b.fb b.bh k _ [] (.str _)⟩)
  · obtain ⟨z, e, k⟩ := ixA_run k
    obtain ⟨a, vs, q', rfl, ea, ds, _⟩ := hd.lst b
    obtain ⟨v, q2, e1, h1⟩ := ds.atI e
    exact .inl ⟨a, vs, _, v, rfl, rfl, SqL.of ea, e1, kE.ok b.fb b.bh k _ _ h1⟩
  · obtain ⟨z, e, k⟩ := ixA_run k
    cases hd with
    | tup ea ds =>
      obtain ⟨v, q2, e1, h1⟩ := ds.atI e
      exact .inr (.inl ⟨_, _, _, v, rfl, rfl, seqT_same (b.fb.trans b.bh) ea, e1, kE.ok b.fb b.bh k _ _ h1⟩)
  · obtain ⟨z, e, k⟩ := ixA_run k
    cases hd with
    | scr ea =>
      exact .inl ⟨_, _, _, .int z, rfl, rfl, b.bh.seq ea, (by rw [atI_map, e]; rfl), kE.ok b.fb b.bh k _ [] (.int _)⟩
theorem eb_ix (hK : X.K = G.K) (ha : EB G X W a fa) (hb : EB G X W b fb) (hs : PlainIx b := by exact fun _ _ => rfl) : EB G X W (.Subscript a b pos) (eB2 ixD fa fb) := by
  refine pe_pre (pe_ix (r := rIx G.K) ?_ ha hb hs) fun σ H Q ⟨ρ, F, B, rel, k⟩ => two_runB op2_ix rel k
  rw [← hK]
  exact ix_seq
theorem lookup_dats {f : Str} : ∀ {fvs : List (Str × V)} {fs : List (Str × D)} {d : D}, fvs.map (·.1) = fs.map (·.1) → Dats G.T F B H (fvs.map (·.2)) (fs.map (·.2)) [] → fs.lookup f = some d → ∃ v, fvs.lookup f = some v ∧ Dat G.T F B H v d [] ∧ f ∈ fs.map (·.1)
  | _, [], _, _, _, e => nomatch e
  | [], _ :: _, _, e, _, _ => nomatch e
  | (g, v) :: fvs, (g', d') :: fs, d, e, h, l => by
    obtain ⟨e1, e2⟩ := List.cons.inj e
    have e1 : g = g' := e1
    subst e1
    obtain ⟨v', ws, e3, h1, h2⟩ := Dats.uncons0 (ds := fs.map (·.2)) (d := d') h
    obtain ⟨rfl, rfl⟩ := List.cons.inj e3
    by_cases c : f = g
    · subst c
      simp only [List.lookup, beq_self_eq_true] at l ⊢
      cases l
      exact ⟨v, rfl, h1, List.mem_cons_self⟩
    · have c' : (f == g) = false := by simpa using c
      simp only [List.lookup, c'] at l ⊢
      obtain ⟨v2, z1, z2, z3⟩ := lookup_dats e2 h2 l
      exact ⟨v2, z1, z2, List.mem_cons_of_mem _ z3⟩
def fldF (f : Str) (fs : List (Str × D)) : Res D := match fs.lookup f with
  | some d => .ok d
  | none => .stuck
def fldD (f : Str) : D → Res D
  | .ins _ fs => fldF f fs
  | .obj _ fs => fldF f fs
  | _ => .stuck
theorem fldF_run {f : Str} {fs : List (Str × D)} {K : D → Hp → Hp → Hp → Prop} (h : kE G.T W σ F B H (fldF f fs) K) : ∃ d, fs.lookup f = some d ∧ kE G.T W σ F B H (.ok d) K := by
  unfold fldF at h
  split at h
  · rename_i d e; exact ⟨d, e, h⟩
  · exact h.elim
theorem eb_fld {f : Str} (hK : X.K = G.K) (ha : EB G X W a fa) (hb : attributeBase a f X.env (eval a X.env) = eval a X.env := by rfl) : EB G X W (.Attribute a f pos) (eU1 (fldD f) fa) :=
  pe_pre (pe_fld ha hb) fun σ H Q ⟨ρ, F, B, rel, k⟩ => ⟨ρ, F, B, rel, (kE.bind k).mono fun d F1 B1 H1 x1 k1 v p hd => by
    have b1 := rel.base.ext x1
    rw [hK]
    cases d <;> first | exact k1.elim | skip
    · obtain ⟨d', l, k2⟩ := fldF_run k1
      cases hd with
      | ins e m n h c =>
        obtain ⟨w, z1, z2, z3⟩ := lookup_dats n h l
        exact ⟨_, _, _, _, w, rfl, b1.bh _ _ (b1.fb _ _ e), m.cls, m.no f z3, z1, kE.ok b1.fb b1.bh k2 _ _ z2⟩
    · obtain ⟨d', l, k2⟩ := fldF_run k1
      cases hd with
      | obj e bn m n h c =>
        obtain ⟨w, z1, z2, z3⟩ := lookup_dats n h l
        exact ⟨_, _, _, _, w, rfl, e, m.cls, m.no f z3, z1, kE.ok b1.fb b1.bh k2 _ _ z2⟩⟩
end
end DH
namespace DH
open PySem L2

/-! ### built-in functions -/
def eN (g : List D → Res D) (f : Rho → Res (List D)) : Rho → Res D := fun ρ => (f ρ).bind g
def OpN (G : Gam) (r : List V → Hp → VK → Prop) (g : List D → Res D) : Prop := ∀ (W : WX) (σ : L2.St) (F B H : Hp) (vs : List V) (ds : List D) (p : List Addr) (Q : VK), Base G F B H → Dats G.T F B H vs ds p →
  kE G.T W σ F B H (g ds) (fun c F' B' H' => ∀ v p, Dat G.T F' B' H' v c p → p.Nodup → (∀ a ∈ p, H a = none) → Q v H') → r vs H Q
section
variable {G : Gam} {W : WX} {X : L2.Cx} {F B H : Hp} {σ : L2.St} {e : Expr} {es : List Expr} {fs : Rho → Res (List D)} {pos p : Pos} {ρ : Rho} {r : List V → Hp → VK → Prop} {g : List D → Res D} {x : Str} {id T : String}
theorem n_run {Q : VK} (ho : OpN G r g) (rel : RelS G ρ F B σ H) (k : kE G.T W σ F B H (eN g fs ρ) fun d F' B' H' => ∀ v p, Dat G.T F' B' H' v d p → p.Nodup → (∀ a ∈ p, H a = none) → Q v H') : tCB r (tA G W fs) σ H Q :=
  ⟨ρ, F, B, rel, (kE.bind k).mono fun ds F1 B1 H1 x1 k1 vs p hs => ho W σ F1 B1 H1 vs ds p Q (rel.base.ext x1) hs (kE.mono k1 fun c F2 B2 H2 x2 k2 v q hd nd new => k2 v q hd nd fun a m => x1.h.free (new a m))⟩
theorem ev_callB (hc : CallR X (.builtin id) r) (ho : OpN G r g) (hm : X.mg x = none) (hv : bootBuiltins x = some (.builtin id)) (ha : EA G X W (e :: es) fs) (hg : Gl X x := by rfl) (hn : x ≠ "__name__" := by decide) (hdb : (x == ("__debug__" : Str)) = false := by decide)
    (he : starEach (e :: es) X.env = (false, eval e X.env) :: starEach es X.env := by rfl) (hpl : (backTo pos (starEach es X.env)).any (·.1) = false := by rfl) : EV G X W (.Call (.Name x p) (e :: es) [] pos) (eN g fs) :=
  pe_pre (pe_callB hc hg hm hv ha hn hdb he hpl) fun σ H Q ⟨ρ, F, B, rel, k⟩ => n_run ho rel k
theorem ev_callTy (hc : CallR X (.type T) r) (ho : OpN G r g) (hm : X.mg x = none) (hv : bootBuiltins x = some (.type T)) (ha : EA G X W (e :: es) fs) (hg : Gl X x := by rfl) (hn : x ≠ "__name__" := by decide) (hdb : (x == ("__debug__" : Str)) = false := by decide)
    (he : starEach (e :: es) X.env = (false, eval e X.env) :: starEach es X.env := by rfl) (hpl : (backTo pos (starEach es X.env)).any (·.1) = false := by rfl) : EV G X W (.Call (.Name x p) (e :: es) [] pos) (eN g fs) :=
  pe_pre (pe_callTy hc hg hm hv ha hn hdb he hpl) fun σ H Q ⟨ρ, F, B, rel, k⟩ => n_run ho rel k
/-- where the answer is a scalar -/
theorem OpN.sc (h : ∀ (F B H : Hp) (vs : List V) (ds : List D) (p : List Addr) (Q : VK) (c : D), Base G F B H → Dats G.T F B H vs ds p → g ds = .ok c → (∀ v, sV c = some v → Q v H) → r vs H Q) (hn : ∀ ds c fs, g ds ≠ .err c fs) : OpN G r g :=
  fun W σ F B H vs ds p Q b hs k => by
    cases z : g ds with
    | ok c =>
      rw [z] at k
      exact h F B H vs ds p Q c b hs z fun v s => (kE.ok b.fb b.bh k) v [] (sV_dat s) List.nodup_nil fun _ z => nomatch z
    | err c fs => exact absurd z (hn ds c fs)
    | stuck => rw [z] at k; exact k.elim
theorem Dats.one {vs : List V} {d : D} {p : List Addr} (h : Dats G.T F B H vs [d] p) : ∃ v, vs = [v] ∧ Dat G.T F B H v d p := by
  obtain ⟨v, ws, q, r, rfl, e, h1, h2⟩ := h.uncons
  obtain ⟨rfl, rfl⟩ := h2.unnil
  rw [List.append_nil] at e
  rw [e]
  exact ⟨v, rfl, h1⟩
theorem Dats.two {vs : List V} {d d' : D} {p : List Addr} (h : Dats G.T F B H vs [d, d'] p) : ∃ v v' q q', vs = [v, v'] ∧ Dat G.T F B H v d q ∧ Dat G.T F B H v' d' q' := by
  obtain ⟨v, ws, q, r, rfl, e, h1, h2⟩ := h.uncons
  obtain ⟨v', rfl, h3⟩ := h2.one
  exact ⟨v, v', _, _, rfl, h1, h3⟩
end

def lenD : List D → Res D
  | [.lst _ xs] => .ok (.int xs.length)
  | [.tup xs] => .ok (.int xs.length)
  | [.scr ns] => .ok (.int ns.length)
  | [.str x] => if x.length ≤ LINE then .ok (.int x.length) else .stuck
  | _ => .stuck
def absD : List D → Res D
  | [.int i] => .ok (.int (if i < 0 then -i else i))
  | _ => .stuck
def max2D : List D → Res D
  | [.int i, .int j] => .ok (.int (if j > i then j else i))
  | _ => .stuck
def min2D : List D → Res D
  | [.int i, .int j] => .ok (.int (if j < i then j else i))
  | _ => .stuck
def intD : List D → Res D
  | [.int i] => .ok (.int i)
  | [.bl k] => .ok (.int (if k then 1 else 0))
  | _ => .stuck
def strD : List D → Res D
  | [.int i] => if i.natAbs.log2 < 1920 then .ok (.str (toString i)) else .stuck
  | _ => .stuck
/-- all are ints -/
def toInts : List D → Option (List Int)
  | [] => some []
  | .int i :: r => (toInts r).map (i :: ·)
  | _ :: _ => none
theorem toInts_of : ∀ {ds : List D} {ns : List Int}, toInts ds = some ns → ds = ns.map D.int
  | [], ns, h => by cases h; rfl
  | d :: ds, ns, h => by
    cases d <;> first | (cases h; done) | skip
    cases z : toInts ds with
    | none => simp [toInts, z] at h
    | some ms =>
      simp [toInts, z] at h
      subst h
      rw [toInts_of z]
      rfl
theorem toInts_map {α : Type} (f : α → Int) (xs : List α) : toInts (xs.map fun x => D.int (f x)) = some (xs.map f) := by
  induction xs with
  | nil => rfl
  | cons x xs ih => simp only [List.map_cons, toInts, ih, Option.map_some]
theorem toInts_int (ns : List Int) : toInts (ns.map D.int) = some ns := by
  have h := toInts_map id ns
  simpa using h
def sumR : Option (List Int) → Res D
  | some ns => .ok (.int ns.sum)
  | none => .stuck
def sumD : List D → Res D
  | [.lst _ xs] => sumR (toInts xs)
  | _ => .stuck
def maxL (n : Int) (ns : List Int) : Int := ns.foldl (fun a b => max a b) n
def minL (n : Int) (ns : List Int) : Int := ns.foldl (fun a b => min a b) n
def maxR : Option (List Int) → Res D
  | some (n :: ns) => .ok (.int (maxL n ns))
  | _ => .stuck
def minR : Option (List Int) → Res D
  | some (n :: ns) => .ok (.int (minL n ns))
  | _ => .stuck
def max1D : List D → Res D
  | [.lst _ xs] => maxR (toInts xs)
  | _ => .stuck
def min1D : List D → Res D
  | [.lst _ xs] => minR (toInts xs)
  | _ => .stuck
theorem maxL_spec : ∀ (n : Int) (ns : List Int), (maxL n ns ∈ n :: ns) ∧ ∀ y ∈ n :: ns, y ≤ maxL n ns
  | n, [] => ⟨List.mem_cons_self, fun y h => by simp at h; subst h; exact Int.le_refl _⟩
  | n, m :: ns => by
    obtain ⟨h1, h2⟩ := maxL_spec (max n m) ns
    have e : maxL n (m :: ns) = maxL (max n m) ns := rfl
    rw [e]
    refine ⟨?_, fun y h => ?_⟩
    · rcases List.mem_cons.mp h1 with h | h
      · rw [h]
        have : max n m = n ∨ max n m = m := by omega
        rcases this with q | q <;> rw [q] <;> simp
      · exact List.mem_cons_of_mem _ (List.mem_cons_of_mem _ h)
    · have hm := h2 (max n m) List.mem_cons_self
      rcases List.mem_cons.mp h with rfl | h
      · omega
      · rcases List.mem_cons.mp h with rfl | h
        · omega
        · exact h2 y (List.mem_cons_of_mem _ h)
theorem minL_spec : ∀ (n : Int) (ns : List Int), (minL n ns ∈ n :: ns) ∧ ∀ y ∈ n :: ns, minL n ns ≤ y
  | n, [] => ⟨List.mem_cons_self, fun y h => by simp at h; subst h; exact Int.le_refl _⟩
  | n, m :: ns => by
    obtain ⟨h1, h2⟩ := minL_spec (min n m) ns
    have e : minL n (m :: ns) = minL (min n m) ns := rfl
    rw [e]
    refine ⟨?_, fun y h => ?_⟩
    · rcases List.mem_cons.mp h1 with h | h
      · rw [h]
        have : min n m = n ∨ min n m = m := by omega
        rcases this with q | q <;> rw [q] <;> simp
      · exact List.mem_cons_of_mem _ (List.mem_cons_of_mem _ h)
    · have hm := h2 (min n m) List.mem_cons_self
      rcases List.mem_cons.mp h with rfl | h
      · omega
      · rcases List.mem_cons.mp h with rfl | h
        · omega
        · exact h2 y (List.mem_cons_of_mem _ h)
/-- ascending, by insertion -/
def insI (n : Int) : List Int → List Int
  | [] => [n]
  | m :: r => if n ≤ m then n :: m :: r else m :: insI n r
def sortI : List Int → List Int
  | [] => []
  | n :: r => insI n (sortI r)
theorem insI_perm (n : Int) : ∀ xs : List Int, (insI n xs).Perm (n :: xs)
  | [] => .refl _
  | m :: r => by
    unfold insI
    split
    · exact .refl _
    · exact ((insI_perm n r).cons m).trans (.swap n m r)
theorem sortI_perm : ∀ xs : List Int, (sortI xs).Perm xs
  | [] => .refl _
  | n :: r => (insI_perm n (sortI r)).trans ((sortI_perm r).cons n)
theorem insI_sorted (n : Int) : ∀ {xs : List Int}, xs.Pairwise (· ≤ ·) → (insI n xs).Pairwise (· ≤ ·)
  | [], _ => by simp [insI]
  | m :: r, h => by
    obtain ⟨h1, h2⟩ := List.pairwise_cons.mp h
    unfold insI
    split
    · rename_i c
      exact List.pairwise_cons.mpr ⟨fun y hy => (List.mem_cons.mp hy).elim (fun e => e ▸ c) fun hy => Int.le_trans c (h1 y hy), h⟩
    · rename_i c
      refine List.pairwise_cons.mpr ⟨fun y hy => ?_, insI_sorted n h2⟩
      rcases List.mem_cons.mp ((insI_perm n r).mem_iff.mp hy) with rfl | hy
      · omega
      · exact h1 y hy
theorem sortI_sorted : ∀ xs : List Int, (sortI xs).Pairwise (· ≤ ·)
  | [] => List.Pairwise.nil
  | n :: r => insI_sorted n (sortI_sorted r)
theorem sorted_uniq : ∀ {xs ys : List Int}, xs.Pairwise (· ≤ ·) → ys.Pairwise (· ≤ ·) → xs.Perm ys → xs = ys
  | [], ys, _, _, p => (List.nil_perm.mp p).symm
  | x :: xs, [], _, _, p => absurd p.length_eq (by simp)
  | x :: xs, y :: ys, hx, hy, p => by
    obtain ⟨x1, x2⟩ := List.pairwise_cons.mp hx
    obtain ⟨y1, y2⟩ := List.pairwise_cons.mp hy
    have e : x = y := by
      have a : x ∈ y :: ys := p.mem_iff.mp List.mem_cons_self
      have b : y ∈ x :: xs := p.mem_iff.mpr List.mem_cons_self
      rcases List.mem_cons.mp a with a | a
      · exact a
      · rcases List.mem_cons.mp b with b | b
        · exact b.symm
        · exact Int.le_antisymm (x1 y b) (y1 x a)
    subst e
    rw [sorted_uniq x2 y2 (List.Perm.cons_inv p)]
def sortR : Option (List Int) → Res D
  | some ns => .ok (.lst .own ((sortI ns).map D.int))
  | none => .stuck
def sortD : List D → Res D
  | [.lst _ xs] => sortR (toInts xs)
  | _ => .stuck
def revR : Option (List Int) → Res D
  | some ns => .ok (.lst .own ((sortI ns).reverse.map D.int))
  | none => .stuck
def sortRevD : List D → Res D
  | [.lst _ xs] => revR (toInts xs)
  | _ => .stuck
def listD : List D → Res D
  | [.lst k xs] => if elOk k xs = true then .ok (.lst .own xs) else .stuck
  | [.tup xs] => if D.pureAll xs = true then .ok (.lst .own xs) else .stuck
  | [.scr ns] => .ok (.lst .own (ns.map D.int))
  | _ => .stuck
def tupleD : List D → Res D
  | [.lst k xs] => if elOk k xs = true then .ok (.tup xs) else .stuck
  | [.tup xs] => if D.dupAll xs = true then .ok (.tup xs) else .stuck
  | _ => .stuck
theorem retAll_ints (ns : List Int) : D.retAll (ns.map D.int) = true := by
  induction ns with
  | nil => rfl
  | cons n ns ih => exact ih
theorem dupAll_ints (ns : List Int) : D.dupAll (ns.map D.int) = true := by
  induction ns with
  | nil => rfl
  | cons n ns ih => exact ih

section
variable {G : Gam} {F B H : Hp}
theorem Dats.lists {vs : List V} {k : LK} {xs : List D} {p : List Addr} {ns : List Int} (b : Base G F B H) (h : Dats G.T F B H vs [.lst k xs] p) (e : toInts xs = some ns) : ∃ a, vs = [.ref a] ∧ SqL G.K H a (ns.map V.int) := by
  obtain ⟨v, rfl, hd⟩ := h.one
  obtain ⟨a, ws, q, rfl, ea, ds, _⟩ := hd.lst b
  rw [toInts_of e] at ds
  rw [ds.to_ints] at ea
  exact ⟨a, rfl, SqL.of ea⟩
theorem kE_stuck {α : Type} {W : WX} {σ : L2.St} {K : α → Hp → Hp → Hp → Prop} {P : Prop} (h : kE G.T W σ F B H .stuck K) : P := h.elim
abbrev rLen (K : PySem.W.Frag) : List V → Hp → VK → Prop := fun xs H Q => ∃ x n, xs = [x] ∧ LenV K x H n ∧ Q (.int n) H
theorem opn_len : OpN G (rLen G.K) lenD := fun W σ F B H vs ds p Q b hs k => by
  match ds, k with
  | [.lst _ xs], k =>
    obtain ⟨v, rfl, hd⟩ := hs.one
    obtain ⟨a, ws, q, rfl, ea, ds, _⟩ := hd.lst b
    exact ⟨_, _, rfl, .inl ⟨ws, SqL.of ea, ds.length.symm⟩, kE.ok b.fb b.bh k _ [] (.int _) List.nodup_nil fun _ z => nomatch z⟩
  | [.tup xs], k =>
    obtain ⟨v, rfl, hd⟩ := hs.one
    cases hd with
    | tup e ds => exact ⟨_, _, rfl, .inr ⟨_, seqT_same (b.fb.trans b.bh) e, ds.length.symm⟩, kE.ok b.fb b.bh k _ [] (.int _) List.nodup_nil fun _ z => nomatch z⟩
  | [.scr ns], k =>
    obtain ⟨v, rfl, hd⟩ := hs.one
    cases hd with
    | scr e => exact ⟨_, _, rfl, .inl ⟨_, b.bh.seq e, (List.length_map ..).symm⟩, kE.ok b.fb b.bh k _ [] (.int _) List.nodup_nil fun _ z => nomatch z⟩
  | [.str x], k =>
    obtain ⟨v, rfl, hd⟩ := hs.one
    cases hd
    obtain ⟨c, k⟩ := kE.ite k
    exact ⟨_, _, rfl, ⟨(by rw [line_eq]; exact c), rfl⟩, kE.ok b.fb b.bh k _ [] (.int _) List.nodup_nil fun _ z => nomatch z⟩
theorem opn_abs : OpN G (fun xs H Q => ∃ i, xs = [.int i] ∧ Q (.int (if i < 0 then -i else i)) H) absD := fun W σ F B H vs ds p Q b hs k => by
  match ds, k with
  | [.int i], k =>
    obtain ⟨v, rfl, hd⟩ := hs.one
    cases hd
    exact ⟨_, rfl, kE.ok b.fb b.bh k _ [] (.int _) List.nodup_nil fun _ z => nomatch z⟩
theorem opn_max2 : OpN G (fun xs H Q => ∃ i j, xs = [.int i, .int j] ∧ Q (.int (if j > i then j else i)) H) max2D := fun W σ F B H vs ds p Q b hs k => by
  match ds, k with
  | [.int i, .int j], k =>
    obtain ⟨v, v', q, q', rfl, hd, hd'⟩ := hs.two
    cases hd; cases hd'
    exact ⟨_, _, rfl, kE.ok b.fb b.bh k _ [] (.int _) List.nodup_nil fun _ z => nomatch z⟩
theorem opn_min2 : OpN G (fun xs H Q => ∃ i j, xs = [.int i, .int j] ∧ Q (.int (if j < i then j else i)) H) min2D := fun W σ F B H vs ds p Q b hs k => by
  match ds, k with
  | [.int i, .int j], k =>
    obtain ⟨v, v', q, q', rfl, hd, hd'⟩ := hs.two
    cases hd; cases hd'
    exact ⟨_, _, rfl, kE.ok b.fb b.bh k _ [] (.int _) List.nodup_nil fun _ z => nomatch z⟩
theorem opn_int : OpN G (fun xs H Q => (∃ i, xs = [.int i] ∧ Q (.int i) H) ∨ ∃ k, xs = [.bl k] ∧ Q (.int (if k then 1 else 0)) H) intD := fun W σ F B H vs ds p Q b hs k => by
  match ds, k with
  | [.int i], k =>
    obtain ⟨v, rfl, hd⟩ := hs.one
    cases hd
    exact .inl ⟨_, rfl, kE.ok b.fb b.bh k _ [] (.int _) List.nodup_nil fun _ z => nomatch z⟩
  | [.bl i], k =>
    obtain ⟨v, rfl, hd⟩ := hs.one
    cases hd
    exact .inr ⟨_, rfl, kE.ok b.fb b.bh k _ [] (.int _) List.nodup_nil fun _ z => nomatch z⟩
theorem opn_str : OpN G (fun xs H Q => ∃ i, xs = [.int i] ∧ i.natAbs.log2 < 1920 ∧ Q (.str (toString i)) H) strD := fun W σ F B H vs ds p Q b hs k => by
  match ds, k with
  | [.int i], k =>
    obtain ⟨v, rfl, hd⟩ := hs.one
    cases hd
    obtain ⟨c, k⟩ := kE.ite k
    exact ⟨_, rfl, c, kE.ok b.fb b.bh k _ [] (.str _) List.nodup_nil fun _ z => nomatch z⟩
theorem opn_sum : OpN G (rSum G.K) sumD := fun W σ F B H vs ds p Q b hs k => by
  match ds, k with
  | [.lst _ xs], k =>
    have k : kE G.T W σ F B H (sumR (toInts xs)) _ := k
    cases e : toInts xs with
    | none => rw [e] at k; exact k.elim
    | some ns =>
      rw [e] at k
      obtain ⟨a, rfl, sq⟩ := hs.lists b e
      exact ⟨a, ns, rfl, sq, kE.ok b.fb b.bh k _ [] (.int _) List.nodup_nil fun _ z => nomatch z⟩
theorem opn_max1 : OpN G (rMax G.K) max1D := fun W σ F B H vs ds p Q b hs k => by
  match ds, k with
  | [.lst _ xs], k =>
    have k : kE G.T W σ F B H (maxR (toInts xs)) _ := k
    cases e : toInts xs with
    | none => rw [e] at k; exact k.elim
    | some ns =>
      rw [e] at k
      obtain ⟨a, rfl, sq⟩ := hs.lists b e
      cases ns with
      | nil => exact k.elim
      | cons n ns =>
        refine ⟨a, n :: ns, rfl, sq, Nat.succ_pos _, fun m h1 h2 => ?_⟩
        obtain ⟨s1, s2⟩ := maxL_spec n ns
        rw [Int.le_antisymm (s2 m h1) (h2 _ s1)]
        exact kE.ok b.fb b.bh k _ [] (.int _) List.nodup_nil fun _ z => nomatch z
theorem opn_min1 : OpN G (rMin G.K) min1D := fun W σ F B H vs ds p Q b hs k => by
  match ds, k with
  | [.lst _ xs], k =>
    have k : kE G.T W σ F B H (minR (toInts xs)) _ := k
    cases e : toInts xs with
    | none => rw [e] at k; exact k.elim
    | some ns =>
      rw [e] at k
      obtain ⟨a, rfl, sq⟩ := hs.lists b e
      cases ns with
      | nil => exact k.elim
      | cons n ns =>
        refine ⟨a, n :: ns, rfl, sq, Nat.succ_pos _, fun m h1 h2 => ?_⟩
        obtain ⟨s1, s2⟩ := minL_spec n ns
        rw [Int.le_antisymm (h2 _ s1) (s2 m h1)]
        exact kE.ok b.fb b.bh k _ [] (.int _) List.nodup_nil fun _ z => nomatch z
theorem opn_sorted : OpN G (rSortedI G.K) sortD := fun W σ F B H vs ds p Q b hs k => by
  match ds, k with
  | [.lst _ xs], k =>
    have k : kE G.T W σ F B H (sortR (toInts xs)) _ := k
    cases e : toInts xs with
    | none => rw [e] at k; exact k.elim
    | some ns =>
      rw [e] at k
      obtain ⟨a, rfl, sq⟩ := hs.lists b e
      refine ⟨a, ns, rfl, sq, fun ns' p pm so np => ?_⟩
      rw [sorted_uniq so (sortI_sorted ns) (pm.trans (sortI_perm ns).symm)]
      exact ans_own b (Dats.ints _) (retAll_ints _) k p np
theorem opn_list : OpN G (fun xs H Q => ∃ p ys, xs = [.ref p] ∧ (SqL G.K H p ys ∨ SqT G.K H p ys) ∧ ∀ l, H l = none → Q (.ref l) (upd H l (.lst ys))) listD := fun W σ F B H vs ds p Q b hs k => by
  match ds, k with
  | [.lst _ xs], k =>
    obtain ⟨v, rfl, hd⟩ := hs.one
    obtain ⟨c, k⟩ := kE.ite k
    obtain ⟨a, ws, q, rfl, ea, ds, g1, _⟩ := hd.lst b
    obtain ⟨rfl, w⟩ := g1 c
    exact ⟨a, ws, rfl, .inl (SqL.of ea), ans_own b ds (Bool.and_eq_true_iff.mp w).2 k⟩
  | [.tup xs], k =>
    obtain ⟨v, rfl, hd⟩ := hs.one
    obtain ⟨c, k⟩ := kE.ite k
    obtain ⟨c1, c2⟩ := Bool.and_eq_true_iff.mp c
    cases hd with
    | tup e ds =>
      obtain rfl := ds.fp_dup c1
      exact ⟨_, _, rfl, .inr (seqT_same (b.fb.trans b.bh) e), ans_own b ds c2 k⟩
  | [.scr ns], k =>
    obtain ⟨v, rfl, hd⟩ := hs.one
    cases hd with
    | scr e => exact ⟨_, _, rfl, .inl (b.bh.seq e), ans_own b (Dats.ints _) (retAll_ints _) k⟩
theorem opn_tuple : OpN G (fun xs H Q => ∃ p ys, xs = [.ref p] ∧ ((SqL G.K H p ys ∧ ∀ l, H l = none → Q (.ref l) (upd H l (.tup ys))) ∨ (SqT G.K H p ys ∧ Q (.ref p) H))) tupleD := fun W σ F B H vs ds p Q b hs k => by
  match ds, k with
  | [.lst _ xs], k =>
    obtain ⟨v, rfl, hd⟩ := hs.one
    obtain ⟨c, k⟩ := kE.ite k
    obtain ⟨a, ws, q, rfl, ea, ds, g1, _⟩ := hd.lst b
    obtain ⟨rfl, w⟩ := g1 c
    refine ⟨a, ws, rfl, .inl ⟨SqL.of ea, fun l nl => ?_⟩⟩
    obtain ⟨x, d⟩ := new_tup b nl ds
    exact k _ _ _ x _ _ d List.nodup_nil fun _ z => nomatch z
  | [.tup xs], k =>
    obtain ⟨v, rfl, hd⟩ := hs.one
    obtain ⟨c, k⟩ := kE.ite k
    cases hd with
    | tup e ds =>
      obtain rfl := ds.fp_dup c
      exact ⟨_, _, rfl, .inr ⟨seqT_same (b.fb.trans b.bh) e, kE.ok b.fb b.bh k _ [] (.tup e ds) List.nodup_nil fun _ z => nomatch z⟩⟩
end

/-! ### slices -/
def cutA {α : Type} (xs : List α) (lo hi : Option Int) : List α := (xs.drop (HT.sIx xs.length 0 lo)).take (HT.sIx xs.length xs.length hi - HT.sIx xs.length 0 lo)
def cutD (lo hi : Option Int) : D → Res D
  | .lst k xs => if elOk k xs = true then .ok (.lst .own (cutA xs lo hi)) else .stuck
  | .str x => if x.length ≤ LINE then .ok (.str (cutS x lo hi)) else .stuck
  | .tup xs => if D.dupAll xs = true ∧ ¬ (HT.sIx xs.length 0 lo = 0 ∧ HT.sIx xs.length xs.length hi = xs.length) then .ok (.tup (cutA xs lo hi)) else .stuck
  | _ => .stuck
def oInt : D → Res (Option Int)
  | .int i => .ok (some i)
  | _ => .stuck
def oNone : Rho → Res (Option Int) := fun _ => .ok none
def oSome (f : Rho → Res D) : Rho → Res (Option Int) := fun ρ => (f ρ).bind oInt
def eCut (f : Rho → Res D) (lo hi : Rho → Res (Option Int)) : Rho → Res D := fun ρ => (f ρ).bind fun d => (lo ρ).bind fun l => (hi ρ).bind fun h => cutD l h d
def tO (G : Gam) (W : WX) (f : Rho → Res (Option Int)) : TO := fun σ H Q => ∃ ρ F B, RelS G ρ F B σ H ∧ kE G.T W σ F B H (f ρ) fun o F' B' H' => Q o H'
abbrev EO (G : Gam) (X : L2.Cx) (W : WX) (o : Option Expr) (f : Rho → Res (Option Int)) : Prop := PO X o (tO G W f)
section
variable {G : Gam} {W : WX} {X : L2.Cx} {F B H : Hp} {σ : L2.St} {e : Expr} {fe : Rho → Res D} {pos p2 : Pos} {ρ : Rho}
theorem po_pre {X : L2.Cx} {e : Option Expr} {t t' : TO} (h : PO X e t) (k : ∀ σ H Q, t' σ H Q → t σ H Q) : PO X e t' := ⟨fun pins s σ H Q I q => h.run pins s σ H Q I (k σ H Q q)⟩
theorem eo_none : EO G X W none oNone := po_pre po_none fun σ H Q ⟨ρ, F, B, rel, k⟩ => kE.ok rel.base.fb rel.base.bh k
theorem eo_some (h : EB G X W e fe) : EO G X W (some e) (oSome fe) := po_pre (po_some h) fun σ H Q ⟨ρ, F, B, rel, k⟩ => ⟨ρ, F, B, rel, (kE.bind k).mono fun d F' B' H' x k' v p hd => by
  cases d <;> first | exact k'.elim | skip
  cases hd
  exact ⟨_, rfl, kE.ok x.fb x.bh k'⟩⟩
abbrev rSlAll (K : PySem.W.Frag) : V → Option Int → Option Int → Hp → VK → Prop := fun x lo hi H Q => rSlL K x lo hi H Q ∨ rSlS x lo hi H Q ∨ rSlT K x lo hi H Q
theorem Dats.cut {vs : List V} {ds : List D} (lo hi : Option Int) (h : Dats G.T F B H vs ds []) : Dats G.T F B H (cutV vs lo hi) (cutA ds lo hi) [] := by
  unfold cutV cutA
  rw [h.length]
  exact (h.drop _).take _
theorem mem_cutA {α : Type} {xs : List α} {lo hi : Option Int} {a : α} (h : a ∈ cutA xs lo hi) : a ∈ xs := List.mem_of_mem_drop (List.mem_of_mem_take h)
theorem retAll_cut {ds : List D} (lo hi : Option Int) (h : D.retAll ds = true) : D.retAll (cutA ds lo hi) = true := retAll_iff.mpr fun x m => retAll_iff.mp h x (mem_cutA m)
theorem dupAll_cut {ds : List D} (lo hi : Option Int) (h : D.dupAll ds = true) : D.dupAll (cutA ds lo hi) = true := dupAll_iff.mpr fun x m => dupAll_iff.mp h x (mem_cutA m)
theorem ev_cut {lo hi : Option Expr} {fl fh : Rho → Res (Option Int)} (hK : X.K = G.K) (he : EB G X W e fe) (hl : EO G X W lo fl) (hh : EO G X W hi fh) : EV G X W (.Subscript e (.Slice lo hi none p2) pos) (eCut fe fl fh) := by
  refine pe_pre (pe_slice (r := rSlAll G.K) (by rw [← hK]; exact sl_list.or (sl_str.or sl_tup)) he hl hh) fun σ H Q ⟨ρ, F, B, rel, k⟩ => ?_
  refine ⟨ρ, F, B, rel, (kE.bind k).mono fun d F1 B1 H1 x1 k1 v p hd => ⟨ρ, F1, B1, rel.ext x1, (kE.bind k1).mono fun l F2 B2 H2 x2 k2 => ⟨ρ, F2, B2, (rel.ext x1).ext x2, (kE.bind k2).mono fun h F3 B3 H3 x3 k3 => ?_⟩⟩⟩
  have b3 := (((rel.ext x1).ext x2).ext x3).base
  have hd3 := (hd.ext x2).ext x3
  have nw : ∀ {q : List Addr}, (∀ a ∈ q, H3 a = none) → ∀ a ∈ q, H a = none := fun n a m => ((x1.trans x2).trans x3).h.free (n a m)
  cases d <;> first | exact k3.elim | skip
  · cases hd3
    obtain ⟨c, k3⟩ := kE.ite k3
    exact .inr (.inl ⟨_, rfl, (by rw [line_eq]; exact c), kE.ok b3.fb b3.bh k3 _ [] (.str _) List.nodup_nil fun _ z => nomatch z⟩)
  · obtain ⟨c, k3⟩ := kE.ite k3
    obtain ⟨a, ws, q, rfl, ea, ds, g1, _⟩ := hd3.lst b3
    obtain ⟨rfl, w⟩ := g1 c
    exact .inl ⟨a, ws, rfl, SqL.of ea, ans_own b3 (ds.cut l h) (retAll_cut l h (Bool.and_eq_true_iff.mp w).2) fun F4 B4 H4 x4 v q hd nd new => k3 F4 B4 H4 x4 v q hd nd (nw new)⟩
  · obtain ⟨c, k3⟩ := kE.ite k3
    cases hd3 with
    | tup ea ds =>
      obtain rfl := ds.fp_dup c.1
      refine .inr (.inr ⟨_, _, rfl, seqT_same (b3.fb.trans b3.bh) ea, (by rw [ds.length]; exact c.2), fun a na => ?_⟩)
      obtain ⟨x, d⟩ := new_tup b3 na (ds.cut l h)
      exact k3 _ _ _ x _ _ d List.nodup_nil fun _ z => nomatch z
end
end DH
namespace DH
open PySem L2

/-! ### isinstance -/
def isiD (T : String) : D → Res D
  | .int _ => .ok (.bl (T == "int"))
  | .bl _ => .ok (.bl (T == "int" || T == "bool"))
  | .str _ => .ok (.bl (T == "str"))
  | .lst _ _ => .ok (.bl (T == "list"))
  | .tup _ => .ok (.bl (T == "tuple"))
  | .non => .ok (.bl false)
  | _ => .stuck
section
variable {G : Gam} {W : WX} {X : L2.Cx} {F B H : Hp} {σ : L2.St} {e : Expr} {fe : Rho → Res D} {pos p p2 : Pos} {ρ : Rho}
theorem seqT_tyx {K : PySem.W.Frag} {a : Addr} {vs : List V} (h : SqT K H a vs) : TyX K H (.ref a) (.type "tuple") := by
  rcases h with (h | ⟨o, h⟩) | ⟨o, its, n, h1, h2, _⟩
  · exact .base (.tup h)
  · exact .fTuple h
  · exact .kTuple h1 h2
theorem isi_run {T x : Str} {v : V} {d c : D} {p : List Addr} {K : PySem.W.Frag} {t : String} (hK : K = G.K) (b : Base G F B H) (hd : Dat G.T F B H v d p) (h : isiD t d = .ok c) (ht : t = "int" ∨ t = "bool" ∨ t = "str" ∨ t = "list" ∨ t = "tuple") :
    ∃ (u : Value) (r : Bool), TyX K H v u ∧ PySem.W.kitOne K u (.type t) = some r ∧ c = .bl r := by
  subst hK
  have kit : ∀ {a : String} {r : Bool}, kitB a t = some r → PySem.W.kitOne G.K (.type a) (.type t) = some r := fun h => kit_ty h
  cases d <;> first | (cases h; done) | skip
  · cases hd; cases h
    refine ⟨_, false, .base .non, kit ?_, rfl⟩
    rcases ht with rfl | rfl | rfl | rfl | rfl <;> decide +kernel
  · cases hd; cases h
    refine ⟨_, _, .base (.bl _), kit ?_, rfl⟩
    rcases ht with rfl | rfl | rfl | rfl | rfl <;> decide +kernel
  · cases hd; cases h
    refine ⟨_, _, .base (.int _), kit ?_, rfl⟩
    rcases ht with rfl | rfl | rfl | rfl | rfl <;> decide +kernel
  · cases hd; cases h
    refine ⟨_, _, .base (.str _), kit ?_, rfl⟩
    rcases ht with rfl | rfl | rfl | rfl | rfl <;> decide +kernel
  · cases h
    obtain ⟨a, ws, q, rfl, ea, ds, _⟩ := hd.lst b
    refine ⟨_, _, .base (.lst ea), kit ?_, rfl⟩
    rcases ht with rfl | rfl | rfl | rfl | rfl <;> decide +kernel
  · cases h
    cases hd with
    | tup e ds =>
      refine ⟨_, _, seqT_tyx (seqT_same (b.fb.trans b.bh) e), kit ?_, rfl⟩
      rcases ht with rfl | rfl | rfl | rfl | rfl <;> decide +kernel
theorem isiD_ne {t : String} {d : D} {c : Str} {fs : List (Str × V)} : isiD t d ≠ .err c fs := by
  intro z
  cases d <;> cases z
theorem ev_isi {T : Str} {t : String} (hK : X.K = G.K) (hm : X.mg "isinstance" = none) (hT : X.mg T = none) (hv : bootBuiltins T = some (.type t)) (he : EB G X W e fe) (ht : t = "int" ∨ t = "bool" ∨ t = "str" ∨ t = "list" ∨ t = "tuple")
    (hg : Gl X "isinstance" := by rfl) (hgT : Gl X T := by rfl) (hnT : T ≠ "__name__" := by decide) (hdT : (T == ("__debug__" : Str)) = false := by decide)
    (hs : starEach [e, .Name T p2] X.env = (false, eval e X.env) :: starEach [.Name T p2] X.env := by rfl) (hs2 : starEach [.Name T p2] X.env = (false, eval (.Name T p2) X.env) :: starEach [] X.env := by rfl)
    (hpl : (backTo pos (starEach [.Name T p2] X.env)).any (·.1) = false := by rfl) : EV G X W (.Call (.Name "isinstance" p) [e, .Name T p2] [] pos) (eU1 (isiD t) fe) :=
  pe_pre (pe_callB call_isi hg hm PyProof.Rows.boot_isinstance (pa_cons he (pa_cons (pe_bltn (v := .ty t) hgT hT hv rfl hnT hdT) pa_nil hs2) hs) (by decide) (by decide) hs hpl) fun σ H Q ⟨ρ, F, B, rel, k⟩ =>
    ⟨ρ, F, B, rel, (kE.bind k).mono fun d F1 B1 H1 x1 k1 v p hd => by
      cases z : isiD t d with
      | ok c =>
        rw [z] at k1
        obtain ⟨u, r, h1, h2, rfl⟩ := isi_run (T := T) (x := T) hK (rel.base.ext x1) hd z ht
        exact ⟨v, .ty t, u, .type t, r, rfl, .ty t, h1, h2, kE.ok x1.fb x1.bh k1 _ [] (.bl r) List.nodup_nil fun _ z => nomatch z⟩
      | err c fs => exact absurd z isiD_ne
      | stuck => rw [z] at k1; exact k1.elim⟩
end

/-! ### statements -/
inductive Out where
  | next (ρ : Rho)
  | ret (d : D)
  | brk (ρ : Rho)
  | cnt (ρ : Rho)
  | err (c : Str) (fs : List (Str × V)) (ρ : Rho)
  | stuck
def kS (G : Gam) (W : WX) (D' : Ends) : Out → Prop
  | .next ρ => ∀ σ F B H, RelS G ρ F B σ H → D'.nx σ H
  | .ret d => ∀ v F B H p, Base G F B H → Dat G.T F B H v d p → p.Nodup → D'.rt v H
  | .brk ρ => ∀ σ F B H, RelS G ρ F B σ H → D'.bk σ H
  | .cnt ρ => ∀ σ F B H, RelS G ρ F B σ H → D'.ct σ H
  | .err c fs ρ => ∀ cv x σ F B H, RelS G ρ F B σ H → ExcAt G.T c fs cv x H → W cv x σ H
  | .stuck => False
def tS (G : Gam) (W : WX) (f : Rho → Out) : TS := fun D' σ H => ∃ ρ F B, RelS G ρ F B σ H ∧ kS G W D' (f ρ)
abbrev SS (G : Gam) (X : L2.Cx) (W : WX) (st : Stmt) (f : Rho → Out) : Prop := PS X st (tS G W f)
abbrev SB (G : Gam) (X : L2.Cx) (W : WX) (st : List Stmt) (f : Rho → Out) : Prop := PSs X st (tS G W f)
/-- an expression's answer, then -/
def oBind {α : Type} (r : Res α) (ρ : Rho) (k : α → Out) : Out := match r with
  | .ok a => k a
  | .err c fs => .err c fs ρ
  | .stuck => .stuck
section
variable {G : Gam} {W : WX} {X : L2.Cx} {F B H : Hp} {σ : L2.St} {ρ : Rho} {D' : Ends} {st : Stmt} {rest : List Stmt} {f g : Rho → Out} {e a : Expr} {fe fa : Rho → Res D} {pos pos' : Pos} {α : Type}
theorem kS.bind {r : Res α} {k : α → Out} (rel : RelS G ρ F B σ H) (h : kS G W D' (oBind r ρ k)) : kE G.T W σ F B H r fun a _ _ _ => kS G W D' (k a) := by
  cases r with
  | ok a => exact fun _ _ _ _ => h
  | err c fs => exact fun cv x F' B' H' ex ea => h cv x σ F' B' H' (rel.ext ex) ea
  | stuck => exact h
theorem kS.mono {o : Out} {D2 : Ends} (h : kS G W D' o) (k1 : ∀ σ H, D'.nx σ H → D2.nx σ H) (k2 : ∀ v H, D'.rt v H → D2.rt v H) (k3 : ∀ σ H, D'.bk σ H → D2.bk σ H) (k4 : ∀ σ H, D'.ct σ H → D2.ct σ H) : kS G W D2 o := by
  cases o with
  | next ρ => exact fun σ F B H r => k1 _ _ (h σ F B H r)
  | ret d => exact fun v F B H p b hd n => k2 _ _ (h v F B H p b hd n)
  | brk ρ => exact fun σ F B H r => k3 _ _ (h σ F B H r)
  | cnt ρ => exact fun σ F B H r => k4 _ _ (h σ F B H r)
  | err c fs ρ => exact h
  | stuck => exact h
def sNil : Rho → Out := fun ρ => .next ρ
def sSeq (f g : Rho → Out) : Rho → Out := fun ρ => match f ρ with
  | .next ρ' => g ρ'
  | o => o
theorem sb_nil : SB G X W [] sNil := pss_pre pss_nil fun D' σ H ⟨ρ, F, B, rel, k⟩ => k σ F B H rel
theorem seq_run (k : kS G W D' (sSeq f g ρ)) : kS G W { D' with nx := tS G W g D' } (f ρ) := by
  unfold sSeq at k
  split at k
  · rename_i ρ' e
    rw [e]
    exact fun σ F B H rel => ⟨ρ', F, B, rel, k⟩
  · rename_i o hn
    cases z : f ρ with
    | next ρ' => exact absurd z (hn ρ')
    | ret d => rw [z] at k; exact k
    | brk ρ => rw [z] at k; exact k
    | cnt ρ => rw [z] at k; exact k
    | err c fs ρ => rw [z] at k; exact k
    | stuck => rw [z] at k; exact k
theorem sb_cons (h : SS G X W st f) (t : SB G X W rest g) : SB G X W (st :: rest) (sSeq f g) := pss_pre (pss_cons h t) fun D' σ H ⟨ρ, F, B, rel, k⟩ => ⟨ρ, F, B, rel, seq_run k⟩
theorem sb_one (h : SS G X W st f) : SB G X W [st] f := pss_one h
theorem ss_pass : SS G X W (.Pass pos) sNil := ps_pre ps_pass fun D' σ H ⟨ρ, F, B, rel, k⟩ => k σ F B H rel
def sBrk : Rho → Out := fun ρ => .brk ρ
def sCnt : Rho → Out := fun ρ => .cnt ρ
theorem ss_break : SS G X W (.Break pos) sBrk := ps_pre ps_break fun D' σ H ⟨ρ, F, B, rel, k⟩ => k σ F B H rel
theorem ss_continue : SS G X W (.Continue pos) sCnt := ps_pre ps_continue fun D' σ H ⟨ρ, F, B, rel, k⟩ => k σ F B H rel
def sDrop (f : Rho → Res D) : Rho → Out := fun ρ => oBind (f ρ) ρ fun _ => .next ρ
theorem ss_drop (h : EB G X W e fe) (hs : swapsWith e none pos.line X.env = pure false := by rfl) : SS G X W (.Expr e pos) (sDrop fe) :=
  ps_pre (ps_expr h hs) fun D' σ H ⟨ρ, F, B, rel, k⟩ => ⟨ρ, F, B, rel, (kS.bind rel k).mono fun d F1 B1 H1 x1 k1 v p _ => k1 σ F1 B1 H1 (rel.ext x1)⟩
def retK (d : D) : Out := if d.ret then .ret d else .stuck
def sRet (f : Rho → Res D) : Rho → Out := fun ρ => oBind (f ρ) ρ retK
theorem retK_run {d : D} (k : kS G W D' (retK d)) : d.ret = true ∧ kS G W D' (.ret d) := by
  unfold retK at k
  by_cases c : d.ret = true
  · rw [if_pos c] at k; exact ⟨c, k⟩
  · rw [if_neg c] at k; exact k.elim
theorem ss_ret (h : EV G X W e fe) : SS G X W (.Return (some e) pos) (sRet fe) :=
  ps_pre (ps_ret h) fun D' σ H ⟨ρ, F, B, rel, k⟩ => ⟨ρ, F, B, rel, (kS.bind rel k).mono fun d F1 B1 H1 x1 k1 v p hd nd _ => (retK_run k1).2 v F1 B1 H1 p (rel.base.ext x1) hd nd⟩
/-- return of a name: what it holds goes -/
def sRetV (i : Nat) : Rho → Out := fun ρ => match ρ[i]? with
  | some (some d) => retK d
  | _ => .stuck
theorem ss_retV (i : Nat) {x : Str} {p : Pos} (hN : X.N[i]? = some x := by rfl) (hv : Vis X.env.scope x := by first | exact Or.inl rfl | exact Or.inr (Or.inl rfl) | exact Or.inr (Or.inr rfl)) (hd : (x == ("__debug__" : Str)) = false := by decide)
    (hcd : (x == ("__classdict__" : Str)) = false := by decide) : SS G X W (.Return (some (.Name x p)) pos) (sRetV i) :=
  ps_pre (ps_ret (pe_var hN hv hd hcd)) fun D' σ H ⟨ρ, F, B, rel, k⟩ => by
    unfold sRetV at k
    split at k
    · rename_i d e
      obtain ⟨fp, s, n⟩ := rel.slots
      obtain ⟨v, q, e1, h, _, nq⟩ := s.get e
      exact ⟨v, e1, (retK_run k).2 v F B H q rel.base h (nq n)⟩
    · exact k.elim
def sRetN : Rho → Out := fun _ => .ret .non
theorem ss_retN : SS G X W (.Return none pos) sRetN := ps_pre ps_retN fun D' σ H ⟨ρ, F, B, rel, k⟩ => k .non F B H [] rel.base .non List.nodup_nil
theorem Slots.set' {v : V} {d : D} {r : List Addr} (h : Dat G.T F B H v d r) {σ : L2.St} {ρ : Rho} {p : List Addr} (i : Nat) (s : Slots G.T F B H σ ρ p) (np : p.Nodup) (nr : r.Nodup) (k : ∀ a ∈ r, a ∉ p) :
    ∃ q, Slots G.T F B H (σ.set i (some v)) (ρ.set i (some d)) q ∧ q.Nodup := by
  by_cases hi : i < ρ.length
  · obtain ⟨q, s', n, _⟩ := s.set h hi np nr k
    exact ⟨q, s', n⟩
  · refine ⟨p, ?_, np⟩
    rw [List.set_eq_of_length_le (by rw [s.length]; omega), List.set_eq_of_length_le (by omega)]
    exact s
theorem Slots.set_dup {v : V} {d : D} (h : Dat G.T F B H v d []) {σ : L2.St} {ρ : Rho} {p : List Addr} (i : Nat) (s : Slots G.T F B H σ ρ p) (np : p.Nodup) : ∃ q, Slots G.T F B H (σ.set i (some v)) (ρ.set i (some d)) q ∧ q.Nodup :=
  Slots.set' h i s np List.nodup_nil fun _ z => nomatch z
theorem RelS.set {v : V} {d : D} {r : List Addr} {F' B' H' : Hp} (rel : RelS G ρ F B σ H) (x : Ext F B H F' B' H') (i : Nat) (hp : PinOk G i) (h : Dat G.T F' B' H' v d r) (nr : r.Nodup) (new : ∀ a ∈ r, H a = none) : RelS G (ρ.set i (some d)) F' B' (σ.set i (some v)) H' := by
  obtain ⟨fp, s, n⟩ := rel.slots
  exact ⟨rel.base.ext x, Slots.set' h i (s.ext x) n nr fun a z y => (s.foot a y).1 (new a z), rel.pin.set hp⟩
def sSet (i : Nat) (f : Rho → Res D) : Rho → Out := fun ρ => oBind (f ρ) ρ fun d => .next (ρ.set i (some d))
theorem ss_set (i : Nat) {x : Str} (hp : PinOk G i) (hN : X.N.Nodup) (he : EV G X W e fe) (hi : X.N[i]? = some x := by rfl) (hx : Loc X.env.scope x := by first | exact Or.inl rfl | exact Or.inr rfl) (hs : swapsWith e (some (.Name x pos')) pos.line X.env = pure false := by rfl)
    (hf : X.fn x = true ∨ X.env.scope.names.lookup x = some .local := by first | exact .inl rfl | exact .inr rfl) : SS G X W (.Assign [.Name x pos'] e pos) (sSet i fe) :=
  ps_pre (ps_set hN hi hx he hs hf) fun D' σ H ⟨ρ, F, B, rel, k⟩ => ⟨ρ, F, B, rel, (kS.bind rel k).mono fun d F1 B1 H1 x1 k1 v p hd nd new => k1 _ F1 B1 H1 (rel.set x1 i hp hd nd new)⟩

/-! ### targets -/
abbrev GG := D → Rho → Option Rho
/-- but for the places vs the slots are the same -/
structure Agree (vs : List Nat) (σ σ' : L2.St) : Prop where
  len : σ'.length = σ.length
  at_ : ∀ j, j ∉ vs → σ'[j]? = σ[j]?
def tG (G : Gam) (vs : List Nat) (g : GG) : TG := fun v σ H Q => ∃ ρ F B d ρ', RelS G ρ F B σ H ∧ Dat G.T F B H v d [] ∧ g d ρ = some ρ' ∧ ∀ σ', RelS G ρ' F B σ' H → Agree vs σ σ' → Q σ' H
abbrev GGs := List D → Rho → Option Rho
def tGs (G : Gam) (ws : List Nat) (g : GGs) : TGs := fun vs σ H Q => ∃ ρ F B ds ρ', RelS G ρ F B σ H ∧ Dats G.T F B H vs ds [] ∧ g ds ρ = some ρ' ∧ ∀ σ', RelS G ρ' F B σ' H → Agree ws σ σ' → Q σ' H
abbrev GT (G : Gam) (X : L2.Cx) (vs : List Nat) (tg : Expr) (g : GG) : Prop := PG X tg (tG G vs g)
abbrev GTs (G : Gam) (X : L2.Cx) (vs : List Nat) (tgs : List Expr) (g : GGs) : Prop := PGs X tgs (tGs G vs g)
theorem pg_pre {e : Expr} {t t' : TG} (h : PG X e t) (k : ∀ v σ H Q, t' v σ H Q → t v σ H Q) : PG X e t' := ⟨fun pins s σ H v u Q I r q => h.run pins s σ H v u Q I r (k v σ H Q q)⟩
theorem pgs_pre {e : List Expr} {t t' : TGs} (h : PGs X e t) (k : ∀ v σ H Q, t' v σ H Q → t v σ H Q) : PGs X e t' := ⟨fun pins s σ H v u Q I r q => h.run pins s σ H v u Q I r (k v σ H Q q)⟩
def gN (i : Nat) : GG := fun d ρ => some (ρ.set i (some d))
theorem gt_name (i : Nat) {x : Str} (hp : PinOk G i) (hN : X.N.Nodup) (hi : X.N[i]? = some x := by rfl) (hx : Loc X.env.scope x := by first | exact Or.inl rfl | exact Or.inr rfl) (hf : X.fn x = true ∨ X.env.scope.names.lookup x = some .local := by first | exact .inl rfl | exact .inr rfl) :
    GT G X [i] (.Name x pos) (gN i) := pg_pre (pg_name hN hi hx hf) fun v σ H Q ⟨ρ, F, B, d, ρ', rel, hd, e, k⟩ => by
  cases e
  refine k _ (rel.set (.refl rel.base.fb rel.base.bh) i hp hd List.nodup_nil fun _ z => nomatch z) ⟨List.length_set .., fun j hj => ?_⟩
  exact List.getElem?_set_ne fun e => hj (by simp [e])
def gNl : GGs := fun ds ρ => match ds with | [] => some ρ | _ => none
def gCn (t : GG) (u : GGs) : GGs := fun ds ρ => match ds with
  | d :: r => (t d ρ).bind fun ρ' => u r ρ'
  | [] => none
def gTp (u : GGs) : GG := fun d ρ => match d with
  | .tup ds => u ds ρ
  | _ => none
theorem gts_nil : GTs G X [] [] gNl := pgs_pre pgs_nil fun vs σ H Q ⟨ρ, F, B, ds, ρ', rel, hd, e, k⟩ => by
  cases ds with
  | nil =>
    obtain ⟨rfl, _⟩ := hd.unnil
    cases e
    exact ⟨rfl, k σ rel ⟨rfl, fun _ _ => rfl⟩⟩
  | cons _ _ => cases e
theorem Agree.trans {v1 v2 : List Nat} {σ σ1 σ2 : L2.St} (a : Agree v1 σ σ1) (b : Agree v2 σ1 σ2) : Agree (v1 ++ v2) σ σ2 :=
  ⟨b.len.trans a.len, fun j hj => (b.at_ j fun z => hj (List.mem_append_right _ z)).trans (a.at_ j fun z => hj (List.mem_append_left _ z))⟩
theorem gts_cons {es : List Expr} {t : GG} {u : GGs} {v1 v2 : List Nat} (h : GT G X v1 e t) (r : GTs G X v2 es u) (hs : (assignEach (e :: es) X.env).map (·.2) = assign e X.env :: (assignEach es X.env).map (·.2) := by rfl) : GTs G X (v1 ++ v2) (e :: es) (gCn t u) :=
  pgs_pre (pgs_cons h r hs) fun vs σ H Q ⟨ρ, F, B, ds, ρ', rel, hd, e, k⟩ => by
    cases ds with
    | nil => cases e
    | cons d ds =>
      obtain ⟨v, ws, rfl, h1, h2⟩ := hd.uncons0
      have e : (t d ρ).bind (fun ρ' => u ds ρ') = some ρ' := e
      cases z : t d ρ with
      | none => rw [z] at e; cases e
      | some ρ1 =>
        rw [z] at e
        exact ⟨v, ws, rfl, ρ, F, B, d, ρ1, rel, h1, z, fun σ1 rel1 a1 => ⟨ρ1, F, B, ds, ρ', rel1, h2, e, fun σ2 rel2 a2 => k σ2 rel2 (a1.trans a2)⟩⟩
/-- how many items a list of targets takes -/
def GLen (u : GGs) (n : Nat) : Prop := ∀ ds ρ ρ', u ds ρ = some ρ' → ds.length = n
theorem gl0 : GLen gNl 0 := fun ds ρ ρ' h => by
  cases ds with
  | nil => rfl
  | cons _ _ => cases h
theorem gl1 {t : GG} {u : GGs} {n : Nat} (h : GLen u n) : GLen (gCn t u) (n + 1) := fun ds ρ ρ' e => by
  cases ds with
  | nil => cases e
  | cons d ds =>
    have e : (t d ρ).bind (fun ρ' => u ds ρ') = some ρ' := e
    cases z : t d ρ with
    | none => rw [z] at e; cases e
    | some ρ1 =>
      rw [z] at e
      exact congrArg (· + 1) (h ds ρ1 ρ' e)
theorem gt_tup {es : List Expr} {k : Nat} {u : GGs} {n : Nat} {vs : List Nat} (hl : GLen u n) (hK : X.K = G.K) (hc : X.calm = true) (h : GTs G X vs es u) (hn : (assignEach es X.env).length = n := by rfl) (hst : (assignEach es X.env).findIdx? (·.1) = none := by rfl) : GT G X vs (.Tuple es k pos) (gTp u) :=
  pg_pre (pg_tup hc h hn hst) fun v σ H Q ⟨ρ, F, B, d, ρ', rel, hd, e, k⟩ => by
    cases d <;> first | (cases e; done) | skip
    cases hd with
    | tup ea ds =>
      exact ⟨_, _, rfl, (by rw [hK]; exact seqT_same (rel.base.fb.trans rel.base.bh) ea), (by rw [ds.length]; exact hl _ _ _ e), ρ, F, B, _, ρ', rel, ds, e, k⟩
end
end DH
namespace DH
open PySem L2

section
variable {G : Gam} {W : WX} {X : L2.Cx} {F B H : Hp} {σ : L2.St} {ρ : Rho} {D' : Ends} {st : Stmt} {rest body orelse : List Stmt} {f g : Rho → Out} {e a tg iter : Expr} {fe fa : Rho → Res D} {pos pos' : Pos} {α : Type}
/-! ### a, b = e -/
def unpK (g : GG) (ρ : Rho) (d : D) : Out := if d.dup then (match g d ρ with | some ρ' => .next ρ' | none => .stuck) else .stuck
def sUnp (g : GG) (f : Rho → Res D) : Rho → Out := fun ρ => oBind (f ρ) ρ (unpK g ρ)
theorem ss_unp {g : GG} {vs : List Nat} (he : EB G X W e fe) (hg : GT G X vs tg g) (hs : swapsWithSole [tg] e pos.line X.env = pure false := by rfl) (hw : swappedStores [tg] e X.env = pure none := by rfl) (h1 : (assignEach [tg] X.env).map (·.2) = [assign tg X.env] := by rfl) :
    SS G X W (.Assign [tg] e pos) (sUnp g fe) :=
  ps_pre (ps_asg he hg hs hw h1) fun D' σ H ⟨ρ, F, B, rel, k⟩ => ⟨ρ, F, B, rel, (kS.bind rel k).mono fun d F1 B1 H1 x1 k1 v p hd => by
    unfold unpK at k1
    by_cases c : d.dup = true
    · rw [if_pos c] at k1
      obtain rfl := hd.fp_dup c
      cases z : g d ρ with
      | none => rw [z] at k1; exact k1.elim
      | some ρ' => rw [z] at k1; exact ⟨ρ, F1, B1, d, ρ', rel.ext x1, hd, z, fun σ' rel' _ => k1 σ' F1 B1 H1 rel'⟩
    · rw [if_neg c] at k1; exact k1.elim⟩

/-! ### x += e (whole numbers) -/
def augK (op : Int → Int → Int) (i : Nat) (ρ : Rho) (d : D) : Out := match ρ[i]?, d with
  | some (some (.int x)), .int y => .next (ρ.set i (some (.int (op x y))))
  | _, _ => .stuck
def sAug (op : Int → Int → Int) (i : Nat) (f : Rho → Res D) : Rho → Out := fun ρ => match ρ[i]? with
  | some (some (.int _)) => oBind (f ρ) ρ (augK op i ρ)
  | _ => .stuck
theorem ss_aug {op : Operator} {g : Int → Int → Int} (i : Nat) {x : Str} (ho : PIp X op (ipI g)) (hp : PinOk G i) (hN : X.N.Nodup) (he : EB G X W e fe) (hi : X.N[i]? = some x := by rfl) (hx : Loc X.env.scope x := by first | exact Or.inl rfl | exact Or.inr rfl)
    (hf : X.fn x = true ∨ X.env.scope.names.lookup x = some .local := by first | exact .inl rfl | exact .inr rfl) : SS G X W (.AugAssign (.Name x pos') op e pos) (sAug g i fe) :=
  ps_pre (ps_aug hN hi hx he ho hf) fun D' σ H ⟨ρ, F, B, rel, k⟩ => by
    unfold sAug at k
    split at k
    · rename_i n en
      obtain ⟨fp, s, nd⟩ := rel.slots
      obtain ⟨v, q, e1, h, _⟩ := s.get en
      cases h
      refine ⟨_, e1, ρ, F, B, rel, (kS.bind rel k).mono fun d F1 B1 H1 x1 k1 v p hd => ?_⟩
      unfold augK at k1
      rw [en] at k1
      cases d <;> first | exact k1.elim | skip
      cases hd
      exact ⟨_, _, rfl, rfl, k1 _ F1 B1 H1 (rel.set x1 i hp (.int _) List.nodup_nil fun _ z => nomatch z)⟩
    · exact k.elim

/-! ### own lists changed -/
theorem upd_same_at {a b : Addr} {o : HO} (h : b ≠ a) : upd H a o b = H b := upd_ne h
/-- an own list in a slot gets other items -/
theorem Slots.mut {ds : List D} : ∀ {σ : L2.St} {ρ : Rho} {p : List Addr} {i : Nat}, Slots G.T F B H σ ρ p → ρ[i]? = some (some (.lst .own ds)) → p.Nodup →
    ∃ a vs q, σ[i]? = some (some (.ref a)) ∧ H a = some (.lst vs) ∧ B a = none ∧ Dats G.T F B H vs ds q ∧ D.retAll ds = true ∧ (a :: q).Nodup ∧ (∀ b ∈ a :: q, b ∈ p) ∧
      ∀ vs' ds' q', Dats G.T F B (upd H a (.lst vs')) vs' ds' q' → D.retAll ds' = true → (a :: q').Nodup → (∀ b ∈ q', b ∈ q ∨ b ∉ p) →
        ∃ p', Slots G.T F B (upd H a (.lst vs')) σ (ρ.set i (some (.lst .own ds'))) p' ∧ p'.Nodup ∧ ∀ b ∈ p', b ∈ p ∨ b ∈ q'
  | _, _, _, _, .nil, e, _ => by simp at e
  | _, _, _, 0, .un t, e, _ => by simp at e
  | _, _, _, i + 1, .un t, e, n => by
    obtain ⟨a, vs, q, h1, h2, h3, h4, h5, h6, h7, k⟩ := t.mut (i := i) (by simpa using e) n
    refine ⟨a, vs, q, by simpa using h1, h2, h3, h4, h5, h6, h7, fun vs' ds' q' g1 g2 g3 g4 => ?_⟩
    obtain ⟨p', s, n', m⟩ := k vs' ds' q' g1 g2 g3 g4
    exact ⟨p', .un s, n', m⟩
  | _, _, _, 0, .val (q := r) hd t, e, n => by
    simp at e
    subst e
    cases hd with
    | own ea en es er =>
      obtain ⟨n1, n2, n3⟩ := List.nodup_append.mp n
      refine ⟨_, _, _, by simp, ea, en, es, er, n1, fun b z => List.mem_append_left _ z, fun vs' ds' q' g1 g2 g3 g4 => ?_⟩
      refine ⟨_, .val (.own upd_same en g1 g2) (t.stay (.refl _) (.refl _) fun b z => ⟨upd_ne fun y => n3 _ List.mem_cons_self _ z y.symm, (t.foot b z).2⟩), List.nodup_append.mpr ⟨g3, n2, fun b z c y w => ?_⟩, fun b z => ?_⟩
      · subst w
        rcases List.mem_cons.mp z with rfl | z
        · exact n3 _ List.mem_cons_self _ y rfl
        · rcases g4 _ z with w | w
          · exact n3 _ (List.mem_cons_of_mem _ w) _ y rfl
          · exact w (List.mem_append_right _ y)
      · rcases List.mem_append.mp z with z | z
        · rcases List.mem_cons.mp z with rfl | z
          · exact .inl (List.mem_append_left _ List.mem_cons_self)
          · exact .inr z
        · exact .inl (List.mem_append_right _ z)
  | _, _, _, i + 1, .val (p := p1) (q := r) hd t, e, n => by
    obtain ⟨n1, n2, n3⟩ := List.nodup_append.mp n
    obtain ⟨a, vs, q, h1, h2, h3, h4, h5, h6, h7, k⟩ := t.mut (i := i) (by simpa using e) n2
    refine ⟨a, vs, q, by simpa using h1, h2, h3, h4, h5, h6, fun b z => List.mem_append_right _ (h7 b z), fun vs' ds' q' g1 g2 g3 g4 => ?_⟩
    obtain ⟨p', s, n', m⟩ := k vs' ds' q' g1 g2 g3 fun b z => (g4 b z).imp id fun y w => y (List.mem_append_right _ w)
    refine ⟨_, .val (hd.stay (.refl _) (.refl _) fun b z => ⟨upd_ne fun y => n3 _ z _ (h7 a List.mem_cons_self) y, (hd.foot b z).2⟩) s, List.nodup_append.mpr ⟨n1, n', fun b z c y w => ?_⟩, fun b z => ?_⟩
    · subst w
      rcases m _ y with w | w
      · exact n3 _ z _ w rfl
      · rcases g4 _ w with w | w
        · exact n3 _ z _ (h7 _ (List.mem_cons_of_mem _ w)) rfl
        · exact w (List.mem_append_left _ z)
    · rcases List.mem_append.mp z with z | z
      · exact .inl (List.mem_append_left _ z)
      · exact (m b z).imp (fun w => List.mem_append_right _ w) id
theorem Base.upd {a : Addr} {o : HO} (b : Base G F B H) (n : B a = none) : Base G F B (upd H a o) :=
  ⟨b.f0, b.fb, fun c x e => by rw [upd_ne (ne_of_none e n)]; exact b.bh c x e, b.h0, b.of0⟩
def appK (i : Nat) (ρ : Rho) (d : D) : Out := match ρ[i]? with
  | some (some (.lst .own xs)) => if d.ret = true ∧ xs.length < LINE then .next (ρ.set i (some (.lst .own (xs ++ [d])))) else .stuck
  | _ => .stuck
def sApp (i : Nat) (f : Rho → Res D) : Rho → Out := fun ρ => match ρ[i]? with
  | some (some (.lst .own _)) => oBind (f ρ) ρ (appK i ρ)
  | _ => .stuck
theorem ss_app (i : Nat) {x : Str} {p1 p2 p3 : Pos} (hK : X.K = G.K) (he : EV G X W e fe) (hi : X.N[i]? = some x := by rfl) (hv : Vis X.env.scope x := by first | exact Or.inl rfl | exact Or.inr (Or.inl rfl) | exact Or.inr (Or.inr rfl))
    (hd : (x == ("__debug__" : Str)) = false := by decide) (hcd : (x == ("__classdict__" : Str)) = false := by decide)
    (hbase : attributeBase (.Name x p1) "append" X.env (eval (.Name x p1) X.env) = eval (.Name x p1) X.env := by rfl)
    (hfew : ((backTo p3 (starEach (e :: []) X.env)).all (fun x => !x.1) && (backToKw p3 (keywordEach [] X.env)).all (fun x => x.1.isSome)
      && decide ((e :: []).length + ([] : List Keyword).length + (if ([] : List Keyword).isEmpty then 0 else 1) < 30)) = true := by rfl)
    (hline : (p2.endLine == p3.line) = true := by rfl) (hs : starEach (e :: []) X.env = (false, eval e X.env) :: starEach [] X.env := by rfl) (hplain : (backTo p3 (starEach [] X.env)).any (·.1) = false := by rfl)
    (hsw : swapsWith (.Call (.Attribute (.Name x p1) "append" p2) [e] [] p3) none pos.line X.env = pure false := by rfl) :
    SS G X W (.Expr (.Call (.Attribute (.Name x p1) "append" p2) [e] [] p3) pos) (sApp i fe) :=
  ps_pre (ps_expr (pe_bm PySem.F.plainAttrs_list PySem.F.slot_list_append PySem.F.type_list_append mt_append (pe_var hi hv hd hcd) (pa_cons he pa_nil hs) hbase hfew hline hs hplain) hsw) fun D' σ H ⟨ρ, F, B, rel, k⟩ => by
    unfold sApp at k
    split at k
    · rename_i xs en
      obtain ⟨fp, s, nd⟩ := rel.slots
      obtain ⟨a, vs, q, h1, h2, _⟩ := s.mut en nd
      refine ⟨.ref a, h1, Or.inl ⟨rfl, _, SqL.of h2⟩, ρ, F, B, rel, (kS.bind rel k).mono fun d F1 B1 H1 x1 k1 v p hd ndp new => ?_⟩
      unfold appK at k1
      rw [en] at k1
      have k1 : kS G W D' (if d.ret = true ∧ xs.length < LINE then .next (ρ.set i (some (.lst .own (xs ++ [d])))) else .stuck) := k1
      by_cases c : d.ret = true ∧ xs.length < LINE
      · rw [if_pos c] at k1
        obtain ⟨a', vs', q', g1, g2, g3, g4, g5, g6, g7, kk⟩ := (s.ext x1).mut en nd
        rw [h1] at g1
        cases g1
        refine ⟨a, vs', v, rfl, rfl, g2, by rw [g4.length, line_eq]; exact c.2, ?_⟩
        have na : H a ≠ none := by rw [h2]; exact fun z => nomatch z
        have nap : a ∉ p := fun z => na (new a z)
        have naq : a ∉ q' := (List.nodup_cons.mp g6).1
        have hfr : ∀ b ∈ q', upd H1 a (.lst (vs' ++ [v])) b = H1 b ∧ B1 b = none := fun b z => ⟨upd_ne fun y => naq (y ▸ z), (g4.foot b z).2⟩
        have hfp : ∀ b ∈ p, upd H1 a (.lst (vs' ++ [v])) b = H1 b ∧ B1 b = none := fun b z => ⟨upd_ne fun y => nap (y ▸ z), (hd.foot b z).2⟩
        have new' : ∀ b ∈ p, b ∉ fp := fun b z y => ((s.foot b y).1) (new b z)
        have dd : Dats G.T F1 B1 (upd H1 a (.lst (vs' ++ [v]))) (vs' ++ [v]) (xs ++ [d]) (q' ++ (p ++ [])) := (g4.stay (.refl _) (.refl _) hfr).append (.cons (hd.stay (.refl _) (.refl _) hfp) .nil)
        rw [List.append_nil] at dd
        obtain ⟨p', s', n', _⟩ := kk _ _ _ dd (by rw [retAll_append, g5]; show (true && (d.ret && true)) = true; rw [c.1]; rfl)
          (List.nodup_cons.mpr ⟨fun z => (List.mem_append.mp z).elim naq nap, List.nodup_append.mpr ⟨(List.nodup_cons.mp g6).2, ndp, fun b z c y w => by subst w; exact new' _ y (g7 _ (List.mem_cons_of_mem _ z))⟩⟩)
          fun b z => (List.mem_append.mp z).imp id fun y => new' b y
        exact k1 σ F1 B1 _ ⟨((rel.ext x1).base).upd g3, ⟨p', s', n'⟩, rel.pin⟩
      · rw [if_neg c] at k1; exact k1.elim
    · exact k.elim

/-! ### xs[i] = e -/
def setK (i : Nat) (ρ : Rho) (j : D) (d : D) : Out := match ρ[i]?, j with
  | some (some (.lst .own xs)), .int n => (match ixN xs.length n with
    | some m => if d.ret = true ∧ d.dup = true ∧ D.dupAll xs = true then .next (ρ.set i (some (.lst .own (xs.set m d)))) else .stuck
    | none => .stuck)
  | _, _ => .stuck
/-- the item's place is asked behind the value -/
def sIx (i : Nat) (fi f : Rho → Res D) : Rho → Out := fun ρ => match ρ[i]? with
  | some (some (.lst .own _)) => oBind (f ρ) ρ fun d => oBind (fi ρ) ρ fun j => setK i ρ j d
  | _ => .stuck
theorem Dats.set0 : ∀ {vs : List V} {ds : List D} (m : Nat) {v : V} {d : D}, Dats G.T F B H vs ds [] → Dat G.T F B H v d [] → Dats G.T F B H (vs.set m v) (ds.set m d) []
  | _, [], m, v, d, h, hd => by
    obtain ⟨rfl, _⟩ := h.unnil
    exact h
  | _, c :: ds, 0, v, d, h, hd => by
    obtain ⟨w, ws, rfl, h1, h2⟩ := h.uncons0
    exact .cons0 hd h2
  | _, c :: ds, m + 1, v, d, h, hd => by
    obtain ⟨w, ws, rfl, h1, h2⟩ := h.uncons0
    exact .cons0 h1 (Dats.set0 m h2 hd)
theorem retAll_set {ds : List D} {m : Nat} {d : D} (h : D.retAll ds = true) (hd : d.ret = true) : D.retAll (ds.set m d) = true := retAll_iff.mpr fun x z => (List.mem_or_eq_of_mem_set z).elim (retAll_iff.mp h x) fun e => e ▸ hd
theorem dupAll_set {ds : List D} {m : Nat} {d : D} (h : D.dupAll ds = true) (hd : d.dup = true) : D.dupAll (ds.set m d) = true := dupAll_iff.mpr fun x z => (List.mem_or_eq_of_mem_set z).elim (dupAll_iff.mp h x) fun e => e ▸ hd
theorem ss_ix (i : Nat) {x : Str} {p1 p2 : Pos} {ix : Expr} {fi : Rho → Res D} (he : EB G X W e fe) (hix : EB G X W ix fi) (hi : X.N[i]? = some x := by rfl) (hv : Vis X.env.scope x := by first | exact Or.inl rfl | exact Or.inr (Or.inl rfl) | exact Or.inr (Or.inr rfl))
    (hd : (x == ("__debug__" : Str)) = false := by decide) (hcd : (x == ("__classdict__" : Str)) = false := by decide)
    (ha : ∀ v, assign (.Subscript (.Name x p1) ix p2) X.env v = (do
      let ov ← holding [v] (eval (.Name x p1) X.env)
      let iv ← holding [v, ov] (eval ix X.env)
      standAt p2
      holding [v, ov, iv] (setItem ov iv v)
      release [v, ov, iv] []) := by intro _; rfl)
    (hs : swapsWithSole [.Subscript (.Name x p1) ix p2] e pos.line X.env = pure false := by rfl) (hw : swappedStores [.Subscript (.Name x p1) ix p2] e X.env = pure none := by rfl)
    (h1 : (assignEach [.Subscript (.Name x p1) ix p2] X.env).map (·.2) = [assign (.Subscript (.Name x p1) ix p2) X.env] := by rfl) :
    SS G X W (.Assign [.Subscript (.Name x p1) ix p2] e pos) (sIx i fi fe) :=
  ps_pre (ps_asg he (pg_sub (pe_var hi hv hd hcd) hix set_list ha) hs hw h1) fun D' σ H ⟨ρ, F, B, rel, k⟩ => by
    unfold sIx at k
    split at k
    · rename_i xs en
      refine ⟨ρ, F, B, rel, (kS.bind rel k).mono fun d F1 B1 H1 x1 k1 v p hd => ?_⟩
      obtain ⟨fp, s, nd⟩ := rel.slots
      obtain ⟨a, vs, q, h1, h2, _⟩ := s.mut en nd
      refine ⟨.ref a, h1, ρ, F1, B1, rel.ext x1, (kS.bind (rel.ext x1) k1).mono fun j F2 B2 H2 x2 k2 w r hj => ?_⟩
      cases j <;> first | (unfold setK at k2; rw [en] at k2; exact k2.elim) | skip
      rename_i n
      cases hj
      unfold setK at k2
      rw [en] at k2
      cases z : ixN xs.length n with
      | none => simp only [z] at k2; exact k2.elim
      | some m =>
        simp only [z] at k2
        by_cases c : d.ret = true ∧ d.dup = true ∧ D.dupAll xs = true
        · rw [if_pos c] at k2
          obtain ⟨c1, c2, c3⟩ := c
          obtain rfl := hd.fp_dup c2
          have hd2 := hd.ext x2
          obtain ⟨a', vs', q', g1, g2, g3, g4, g5, g6, g7, kk⟩ := (s.ext (x1.trans x2)).mut en nd
          rw [h1] at g1
          cases g1
          obtain rfl := g4.fp_dup c3
          refine ⟨a, vs', n, m, rfl, rfl, g2, by rw [g4.length]; exact z, ?_⟩
          obtain ⟨p', s', n', _⟩ := kk (vs'.set m v) (xs.set m d) [] ((g4.set0 m hd2).stay (.refl _) (.refl _) fun _ z => nomatch z) (retAll_set g5 c1) (nd1 a) fun _ z => nomatch z
          exact k2 σ F2 B2 _ ⟨(((rel.ext x1).ext x2).base).upd g3, ⟨p', s', n'⟩, rel.pin⟩
        · rw [if_neg c] at k2; exact k2.elim
    · exact k.elim

/-! ### what a slot holds is frozen from here on -/
theorem Slots.frz : ∀ {σ : L2.St} {ρ : Rho} {p : List Addr} {i : Nat} {d : D}, Slots G.T F B H σ ρ p → ρ[i]? = some (some d) → d.ret = true → p.Nodup →
    ∃ q r : List Addr, (∀ b ∈ q, B b = none ∧ H b ≠ none) ∧ (∀ F' B' : Hp, Same F F' → Same B B' → (∀ b ∈ q, F' b = H b) → (∀ b, b ∉ q → B' b = B b) → Slots G.T F' B' H σ (ρ.set i (some d.frz)) r) ∧ r.Nodup ∧ (∀ b ∈ q, b ∉ r) ∧ (∀ b ∈ r, b ∈ p) ∧ ∀ b ∈ q, b ∈ p
  | _, _, _, _, _, .nil, e, _, _ => by simp at e
  | _, _, _, 0, _, .un t, e, _, _ => by simp at e
  | _, _, _, i + 1, _, .un t, e, c, n => by
    obtain ⟨q, r, h1, h2, h3, h4, h5, h6⟩ := t.frz (i := i) (by simpa using e) c n
    exact ⟨q, r, h1, fun F' B' g1 g2 g3 g4 => .un (h2 F' B' g1 g2 g3 g4), h3, h4, h5, h6⟩
  | _, _, _, 0, _, .val (p := p1) (q := r) hd t, e, c, n => by
    simp at e
    subst e
    obtain ⟨n1, n2, n3⟩ := List.nodup_append.mp n
    refine ⟨p1, r, fun b z => ⟨(hd.foot b z).2, (hd.foot b z).1⟩, fun F' B' g1 g2 g3 g4 => ?_, n2, fun b z y => n3 b z b y rfl, fun b z => List.mem_append_right _ z, fun b z => List.mem_append_left _ z⟩
    exact Slots.val (hd.froz g1 g2 c g3) (t.stay g1 g2 fun b z => ⟨rfl, (g4 b fun y => n3 b y b z rfl).trans (t.foot b z).2⟩)
  | _, _, _, i + 1, _, .val (p := p1) (q := r0) hd t, e, c, n => by
    obtain ⟨n1, n2, n3⟩ := List.nodup_append.mp n
    obtain ⟨q, r, h1, h2, h3, h4, h5, h6⟩ := t.frz (i := i) (by simpa using e) c n2
    refine ⟨q, p1 ++ r, h1, fun F' B' g1 g2 g3 g4 => .val (hd.stay g1 g2 fun b z => ⟨rfl, (g4 b fun y => n3 b z b (h6 b y) rfl).trans (hd.foot b z).2⟩) (h2 F' B' g1 g2 g3 g4), List.nodup_append.mpr ⟨n1, h3, fun b z c y => n3 b z c (h5 c y)⟩, fun b z y => ?_, fun b z => ?_, fun b z => List.mem_append_right _ (h6 b z)⟩
    · rcases List.mem_append.mp y with y | y
      · exact n3 b y b (h6 b z) rfl
      · exact h4 b z y
    · rcases List.mem_append.mp z with z | z
      · exact List.mem_append_left _ z
      · exact List.mem_append_right _ (h5 b z)
def sFrz (i : Nat) (f : Rho → Out) : Rho → Out := fun ρ => match ρ[i]? with
  | some (some d) => if d.ret then f (ρ.set i (some d.frz)) else .stuck
  | _ => .stuck
theorem sb_frz (i : Nat) (h : SB G X W rest f) : SB G X W rest (sFrz i f) := pss_pre h fun D' σ H ⟨ρ, F, B, rel, k⟩ => by
  unfold sFrz at k
  split at k
  · rename_i d e
    by_cases c : d.ret = true
    · rw [if_pos c] at k
      obtain ⟨fp, s, nd⟩ := rel.slots
      obtain ⟨q, r, h1, h2, h3, h4, h5, h6⟩ := s.frz e c nd
      have fn : ∀ b ∈ q, F b = none := fun b z => rel.base.fb.free (h1 b z).1
      refine ⟨_, frzH H q F, frzH H q B, ⟨⟨rel.base.f0.trans (mem_frzH fn), fun b o y => ?_, fun b o y => ?_, rel.base.h0.trans (mem_frzH fun b z => (h1 b z).1), fun a n => ?_⟩,
        ⟨r, h2 _ _ (mem_frzH fn) (mem_frzH fun b z => (h1 b z).1) (fun b z => frzH_in z) fun b z => frzH_out z, h3⟩, rel.pin⟩, k⟩
      · by_cases z : b ∈ q
        · rw [frzH_in z] at y ⊢; exact y
        · rw [frzH_out z] at y ⊢; exact rel.base.fb _ _ y
      · by_cases z : b ∈ q
        · rw [frzH_in z] at y; exact y
        · rw [frzH_out z] at y; exact rel.base.bh _ _ y
      · have z : a ∉ q := fun z => by
          have w := (h1 a z).1
          cases y : G.H0 a with
          | none => exact n y
          | some o =>
            rw [rel.base.h0 a o y] at w
            cases w
        rw [frzH_out z]
        exact rel.base.of0 a n
    · rw [if_neg c] at k; exact k.elim
  · exact k.elim

/-! ### if -/
def sIf (t : Rho → Res Bool) (f g : Rho → Out) : Rho → Out := fun ρ => oBind (t ρ) ρ fun b => if b then f ρ else g ρ
theorem ss_if {c : Expr} {tc : Rho → Res Bool} {b1 b2 : List Stmt} (hc : ET G X W c tc) (h1 : SB G X W b1 f) (h2 : SB G X W b2 g) : SS G X W (.If c b1 b2 pos) (sIf tc f g) :=
  ps_pre (ps_if hc h1 h2) fun D' σ H ⟨ρ, F, B, rel, k⟩ => ⟨ρ, F, B, rel, (kS.bind rel k).mono fun b F1 B1 H1 x1 k1 => by
    cases b with
    | true => exact ⟨ρ, F1, B1, rel.ext x1, k1⟩
    | false => exact ⟨ρ, F1, B1, rel.ext x1, k1⟩⟩
end
end DH
namespace DH
open PySem L2

/-! ### what is walked -/
/-- the iterator J gives the items ds, which stand in F, B -/
def ItS (T : Tx) (J : It) (F B : Hp) (ds : List D) : Prop :=
  ∀ i Hc, Same B Hc → (i < ds.length → J.go i Hc) ∧ (ds.length ≤ i → J.stop i Hc) ∧ ∀ x H', J.yld i Hc x H' → H' = Hc ∧ ∀ d, ds[i]? = some d → Dat T F B Hc x d []
def tI (G : Gam) (W : WX) (f : Rho → Res (List D)) : TI := fun σ H R => ∃ ρ F B, RelS G ρ F B σ H ∧ kE G.T W σ F B H (f ρ) fun ds F' B' H' => ∀ J F2 B2, Ext F B H F2 B2 H' → ItS G.T J F2 B2 ds → R J H'
abbrev IT (G : Gam) (X : L2.Cx) (W : WX) (tg iter : Expr) (f : Rho → Res (List D)) : Prop := PI X tg iter (tI G W f)
/-- the items of a list or a tuple: what is own and new is lent -/
def itemsD : D → Res (List D)
  | .lst .frz xs => .ok xs
  | .lst .bor xs => .ok xs
  | .tup xs => if D.dupAll xs then .ok xs else .stuck
  | _ => .stuck
/-- the items of a new list -/
def newItemsD : D → Res (List D)
  | .lst .own xs => if D.dupAll xs then .ok xs else .stuck
  | .lst .frz xs => .ok xs
  | .lst .bor xs => .ok xs
  | _ => .stuck
def iOf (f : Rho → Res D) : Rho → Res (List D) := fun ρ => (f ρ).bind itemsD
def iNew (f : Rho → Res D) : Rho → Res (List D) := fun ρ => (f ρ).bind newItemsD
def rngL (lo : Int) (n : Nat) : List D := (List.range n).map fun (i : Nat) => .int (lo + (i : Int))
def rng1D : List D → Res (List D)
  | [.int n] => if n < 4611686018427387904 ∧ -4611686018427387904 ≤ n then .ok (rngL 0 n.toNat) else .stuck
  | _ => .stuck
def rng2D : List D → Res (List D)
  | [.int a, .int b] => if a < 4611686018427387904 ∧ -4611686018427387904 ≤ a ∧ b < 4611686018427387904 ∧ -4611686018427387904 ≤ b then .ok (rngL a (b - a).toNat) else .stuck
  | _ => .stuck
def iRg (g : List D → Res (List D)) (f : Rho → Res (List D)) : Rho → Res (List D) := fun ρ => (f ρ).bind g
section
variable {G : Gam} {W : WX} {X : L2.Cx} {F B H : Hp} {σ : L2.St} {ρ : Rho} {D' : Ends} {st : Stmt} {rest body orelse : List Stmt} {f : Rho → Out} {e a tg iter : Expr} {fe fa : Rho → Res D} {pos pos' p : Pos} {α : Type}
theorem pi_pre {tg iter : Expr} {t t' : TI} (h : PI X tg iter t) (k : ∀ σ H R, t' σ H R → t σ H R) : PI X tg iter t' := ⟨fun pins s σ H R I q => h.run pins s σ H R I (k σ H R q)⟩
theorem its_listI {T : Tx} {a : Addr} {vs : List V} {ds : List D} (e : B a = some (.lst vs)) (h : Dats T F B H vs ds []) : ItS T (Itl T.K a) F B ds := fun i Hc s => by
  have sq : SqL T.K Hc a vs := SqL.of (s _ _ e)
  have hl := h.length
  refine ⟨fun hi => ?_, fun hi => ⟨vs, sq, by omega⟩, fun x H' ⟨e1, k⟩ => ⟨e1, fun d hd => ?_⟩⟩
  · have hi' : i < vs.length := by omega
    exact ⟨vs, vs[i], sq, List.getElem?_eq_getElem hi'⟩
  · obtain ⟨v, q, e2, h2, m⟩ := h.get hd
    have e3 := k vs sq
    rw [e2] at e3
    cases e3
    have q0 : q = [] := by
      cases q with
      | nil => rfl
      | cons b q => exact absurd (m b List.mem_cons_self) (by simp)
    subst q0
    exact h2.stay (.refl _) (.refl _) fun _ z => nomatch z
theorem its_tup {T : Tx} {a : Addr} {vs : List V} {ds : List D} (fb : Same F B) (e : SqT T.K F a vs) (h : Dats T F B H vs ds []) : ItS T (Itt T.K a) F B ds := fun i Hc s => by
  have sq : SqT T.K Hc a vs := seqT_same (fb.trans s) e
  have hl := h.length
  refine ⟨fun hi => ?_, fun hi => ⟨vs, sq, by omega⟩, fun x H' ⟨e1, k⟩ => ⟨e1, fun d hd => ?_⟩⟩
  · have hi' : i < vs.length := by omega
    exact ⟨vs, vs[i], sq, List.getElem?_eq_getElem hi'⟩
  · obtain ⟨v, q, e2, h2, m⟩ := h.get hd
    have e3 := k vs sq
    rw [e2] at e3
    cases e3
    have q0 : q = [] := by
      cases q with
      | nil => rfl
      | cons b q => exact absurd (m b List.mem_cons_self) (by simp)
    subst q0
    exact h2.stay (.refl _) (.refl _) fun _ z => nomatch z
theorem its_rng {T : Tx} (lo : Int) (n : Nat) : ItS T (Itr lo n) F B (rngL lo n) := fun i Hc s => by
  have hl : (rngL lo n).length = n := by unfold rngL; rw [List.length_map, List.length_range]
  refine ⟨fun hi => ?_, fun hi => ?_, fun x H' ⟨e1, e2⟩ => ⟨e1, fun d hd => ?_⟩⟩
  · rw [hl] at hi; exact hi
  · rw [hl] at hi; exact hi
  · unfold rngL at hd
    rw [List.getElem?_map] at hd
    cases z : (List.range n)[i]? with
    | none => rw [z] at hd; cases hd
    | some j =>
      rw [z] at hd
      obtain ⟨h1, h2⟩ := List.getElem?_eq_some_iff.mp z
      rw [List.getElem_range] at h2
      subst h2
      cases hd
      subst e2
      exact .int _
/-- a list or a tuple walked -/
theorem pi_seq {l : Expr} {tl : TE} (hl : PE X l tl) : PI X tg l (fun σ H R => tl σ H fun x H1 => ∃ a, x = .ref a ∧ (((∃ xs, SqL X.K H1 a xs) ∧ R (Itl X.K a) H1) ∨ ((∃ xs, SqT X.K H1 a xs) ∧ R (Itt X.K a) H1))) := by
  refine ⟨fun pins s σ H R I h => ?_⟩
  refine thn (hl.run pins s σ H _ I h) fun v s1 ⟨x, H1, I1, r1, q1⟩ => ?_
  obtain ⟨a, e, q1⟩ := q1
  subst e
  cases r1
  rcases q1 with ⟨⟨xs, hq⟩, q⟩ | ⟨⟨xs, hq⟩, q⟩
  · obtain ⟨its, rv, p, hz⟩ := I1.list hq
    refine wpAny_pyIter_list p.isList ?_
    refine ⟨s1.heap.objs.size, [s1.heap.objs.size], _, _, H1, rfl, I1.kept (t' := s1.toks) fun b o e => Heap.get?_push_of_some _ e, turn_list a _, ⟨_, Heap.get?_push_size _ rfl, rfl, rfl⟩, fun b hb => ?_, q⟩
    have e : b = s1.heap.objs.size := by simpa using hb
    subst e
    exact I1.fpOk (Nat.le_refl _) (I1.hok.fresh (Nat.le_refl _))
  · obtain ⟨its, rv, p, hz⟩ := I1.tuple hq
    refine wpAny_pyIter_tuple (show s1.heap.IsTuple a its.toArray from p) ?_
    refine ⟨s1.heap.objs.size, [s1.heap.objs.size], _, _, H1, rfl, I1.kept (t' := s1.toks) fun b o e => Heap.get?_push_of_some _ e, turn_tuple a _, ⟨_, Heap.get?_push_size _ rfl, rfl, rfl⟩, fun b hb => ?_, q⟩
    have e : b = s1.heap.objs.size := by simpa using hb
    subst e
    exact I1.fpOk (Nat.le_refl _) (I1.hok.fresh (Nat.le_refl _))
/-- .. that is frozen or lent -/
theorem it_seq (hK : X.K = G.K) (h : EB G X W e fe) : IT G X W tg e (iOf fe) :=
  pi_pre (pi_seq h) fun σ H R ⟨ρ, F, B, rel, k⟩ => ⟨ρ, F, B, rel, (kE.bind k).mono fun d F1 B1 H1 x1 k1 v p hd => by
    have b1 := rel.base.ext x1
    rw [hK]
    cases d with
    | lst l xs =>
      obtain ⟨a, vs, q, rfl, ea, ds, _, g2, _⟩ := hd.lst b1
      cases l with
      | frz =>
        obtain ⟨rfl, rfl, eb⟩ := g2 rfl
        exact ⟨a, rfl, .inl ⟨⟨vs, SqL.of ea⟩, kE.ok x1.fb x1.bh k1 _ F1 B1 x1 (its_listI eb ds)⟩⟩
      | bor =>
        obtain ⟨rfl, rfl, eb⟩ := g2 rfl
        exact ⟨a, rfl, .inl ⟨⟨vs, SqL.of ea⟩, kE.ok x1.fb x1.bh k1 _ F1 B1 x1 (its_listI eb ds)⟩⟩
      | own => exact k1.elim
      | tmp => exact k1.elim
    | tup xs =>
      have k1 : kE G.T W σ F1 B1 H1 (if D.dupAll xs then .ok xs else .stuck) _ := k1
      by_cases c : D.dupAll xs = true
      · rw [if_pos c] at k1
        cases hd with
        | tup ea ds =>
          obtain rfl := ds.fp_dup c
          exact ⟨_, rfl, .inr ⟨⟨_, seqT_same (x1.fb.trans x1.bh) ea⟩, kE.ok x1.fb x1.bh k1 _ F1 B1 x1 (its_tup x1.fb ea ds)⟩⟩
      · rw [if_neg c] at k1; exact k1.elim
    | _ => exact k1.elim⟩
theorem Ext.lend {F' B' H' : Hp} {p : List Addr} (x : Ext F B H F' B' H') (new : ∀ a ∈ p, H a = none) (foot : ∀ a ∈ p, B' a = none) : Ext F B H F' (frzH H' p B') H' := by
  refine ⟨x.f, x.b.trans (mem_frzH foot), x.h, x.fb.trans (mem_frzH foot), fun b o e => ?_, x.of, fun a m => ?_⟩
  · by_cases h : b ∈ p
    · rw [frzH_in h] at e; exact e
    · rw [frzH_out h] at e; exact x.bh _ _ e
  · rw [frzH_out fun z => m (new a z)]; exact x.ob a m
/-- .. that is new -/
theorem it_new (hK : X.K = G.K) (h : EV G X W e fe) : IT G X W tg e (iNew fe) :=
  pi_pre (pi_seq h) fun σ H R ⟨ρ, F, B, rel, k⟩ => ⟨ρ, F, B, rel, (kE.bind k).mono fun d F1 B1 H1 x1 k1 v p hd nd new => by
    have b1 := rel.base.ext x1
    rw [hK]
    cases d with
    | lst l xs =>
      obtain ⟨a, vs, q, rfl, ea, ds, _, g2, _⟩ := hd.lst b1
      cases l with
      | frz =>
        obtain ⟨rfl, rfl, eb⟩ := g2 rfl
        exact ⟨a, rfl, .inl ⟨⟨vs, SqL.of ea⟩, kE.ok x1.fb x1.bh k1 _ F1 B1 x1 (its_listI eb ds)⟩⟩
      | bor =>
        obtain ⟨rfl, rfl, eb⟩ := g2 rfl
        exact ⟨a, rfl, .inl ⟨⟨vs, SqL.of ea⟩, kE.ok x1.fb x1.bh k1 _ F1 B1 x1 (its_listI eb ds)⟩⟩
      | own =>
        have k1 : kE G.T W σ F1 B1 H1 (if D.dupAll xs then .ok xs else .stuck) _ := k1
        by_cases c : D.dupAll xs = true
        · rw [if_pos c] at k1
          obtain rfl := ds.fp_dup c
          have foot : ∀ b ∈ p, B1 b = none := fun b z => (hd.foot b z).2
          have xl := x1.lend new foot
          have ma : a ∈ p := by
            cases hd with
            | own _ _ _ _ => exact List.mem_cons_self
          refine ⟨a, rfl, .inl ⟨⟨vs, SqL.of ea⟩, kE.ok x1.fb x1.bh k1 _ F1 (frzH H1 p B1) xl (its_listI (H := H1) ?_ (ds.stay (.refl _) (mem_frzH foot) fun _ z => nomatch z))⟩⟩
          rw [frzH_in ma]
          exact ea
        · rw [if_neg c] at k1; exact k1.elim
      | tmp => exact k1.elim
    | _ => exact k1.elim⟩
variable {fs : Rho → Res (List D)}
theorem it_rng1 (hm : X.mg "range" = none) (ha : EA G X W [a] fs) (hg : Gl X "range" := by rfl) (hs : starEach [a] X.env = [(false, eval a X.env)] := by rfl) : IT G X W tg (.Call (.Name "range" p) [a] [] pos) (iRg rng1D fs) :=
  pi_pre (pi_range1 hg hm ha hs) fun σ H R ⟨ρ, F, B, rel, k⟩ => ⟨ρ, F, B, rel, (kE.bind k).mono fun ds F1 B1 H1 x1 k1 vs q hd => by
    match ds, k1 with
    | [.int n], k1 =>
      obtain ⟨v, rfl, h1⟩ := hd.one
      cases h1
      obtain ⟨c, k1⟩ := kE.ite k1
      exact ⟨n, rfl, by omega, by omega, kE.ok x1.fb x1.bh k1 _ F1 B1 x1 (its_rng 0 n.toNat)⟩⟩
theorem it_rng2 {b : Expr} (hm : X.mg "range" = none) (ha : EA G X W [a, b] fs) (hg : Gl X "range" := by rfl) (hs : starEach [a, b] X.env = [(false, eval a X.env), (false, eval b X.env)] := by rfl) (hs2 : starEach [b] X.env = [(false, eval b X.env)] := by rfl) :
    IT G X W tg (.Call (.Name "range" p) [a, b] [] pos) (iRg rng2D fs) :=
  pi_pre (pi_range2 hg hm ha hs hs2) fun σ H R ⟨ρ, F, B, rel, k⟩ => ⟨ρ, F, B, rel, (kE.bind k).mono fun ds F1 B1 H1 x1 k1 vs q hd => by
    match ds, k1 with
    | [.int n, .int m], k1 =>
      obtain ⟨v, v', q, q', rfl, h1, h2⟩ := hd.two
      cases h1; cases h2
      obtain ⟨c, k1⟩ := kE.ite k1
      exact ⟨n, m, rfl, ⟨by omega, by omega, by omega, by omega⟩, kE.ok x1.fb x1.bh k1 _ F1 B1 x1 (its_rng n (m - n).toNat)⟩⟩

/-! ### for -/
def forD (g : GG) (f : Rho → Out) : List D → Rho → Out
  | [], ρ => .next ρ
  | d :: ds, ρ => match g d ρ with
    | none => .stuck
    | some ρ1 => match f ρ1 with
      | .next ρ2 => forD g f ds ρ2
      | .cnt ρ2 => forD g f ds ρ2
      | .brk ρ2 => .next ρ2
      | o => o
def sFor (g : GG) (src : Rho → Res (List D)) (f : Rho → Out) : Rho → Out := fun ρ => oBind (src ρ) ρ fun ds => forD g f ds ρ
theorem RelS.at {F1 B1 : Hp} (rel : RelS G ρ F B σ H) (x0 : Same G.F0 F1) (y0 : Same G.H0 B1) (o0 : ∀ a, G.H0 a ≠ none → F1 a = G.F0 a) (f : Same F1 F) (b : Same B1 B) (o : ∀ a, B1 a ≠ none → F a = F1 a) : RelS (G.at B1 F1) ρ F B σ H :=
  ⟨⟨f, rel.base.fb, rel.base.bh, b, o⟩, rel.slots, rel.pin⟩
theorem RelS.un {F1 B1 : Hp} (rel : RelS (G.at B1 F1) ρ F B σ H) (x0 : Same G.F0 F1) (y0 : Same G.H0 B1) (o0 : ∀ a, G.H0 a ≠ none → F1 a = G.F0 a) : RelS G ρ F B σ H :=
  ⟨⟨x0.trans rel.base.f0, rel.base.fb, rel.base.bh, y0.trans rel.base.h0, fun a n => (rel.base.of0 a (Same.there y0 n)).trans (o0 a n)⟩, rel.slots, rel.pin⟩
theorem ss_for {src : Rho → Res (List D)} {g : GG} (hpo : PassesOwn (model X.prog X.w) X.A X.env X.xe) (hc : X.calm = true) (hi : IT G X W tg iter src) {vs : List Nat} (hg : ∀ H0 F0, GT (G.at H0 F0) X vs tg g) (hb : ∀ H0 F0, SB (G.at H0 F0) X W body f)
    (hs : ∀ x, foldedSetIterable iter X.env x = pure x := by intro _; rfl) : SS G X W (.For tg iter body [] pos) (sFor g src f) := by
  refine ⟨fun pins s σ H D' I ⟨ρ, F, B, rel, k⟩ => ?_⟩
  have h1 := kS.bind rel k
  -- the context of the turns is chosen when the source is there
  refine (ps_for (tg := tg) (iter := iter) (body := body) (pos := pos) (wi := tI G W src) (g := fun v σ H Q => ∃ H0 F0, tG (G.at H0 F0) vs g v σ H Q) (tb := fun D σ H => ∃ H0 F0, tS (G.at H0 F0) W f D σ H) hpo hc hi ?_ ?_ hs).run pins s σ H D' I ?_
  · exact ⟨fun pins s σ H v u Q I r ⟨H0, F0, q⟩ => (hg H0 F0).run pins s σ H v u Q I r q⟩
  · exact ⟨fun pins s σ H D I ⟨H0, F0, q⟩ => (hb H0 F0).run pins s σ H D I q⟩
  · refine ⟨ρ, F, B, rel, h1.mono fun ds F1 B1 H1 x1 k1 J F2 B2 x2 hJ => ?_⟩
    have b2 := rel.base.ext x2
    have x0 := b2.f0
    have y0 := b2.h0
    have o0 := b2.of0
    have rel2 : RelS (G.at B2 F2) ρ F2 B2 σ H1 := (rel.ext x2).at x0 y0 o0 (.refl _) (.refl _) fun _ _ => rfl
    refine ⟨fun i m σ H => m = ds.length - i ∧ i ≤ ds.length ∧ ∃ ρ F B, RelS (G.at B2 F2) ρ F B σ H ∧ kS G W D' (forD g f (ds.drop i) ρ), ⟨ds.length, by simp, Nat.zero_le _, ρ, F2, B2, rel2, k1⟩, ?_⟩
    rintro i m σ3 H3 ⟨rfl, hi, ρ3, F3, B3, rel3, k3⟩
    have sb : Same B2 H3 := rel3.base.h0.trans rel3.base.bh
    obtain ⟨j1, j2, j3⟩ := hJ i H3 sb
    by_cases hlt : i < ds.length
    · have ed : ds.drop i = ds[i] :: ds.drop (i + 1) := List.drop_eq_getElem_cons hlt
      rw [ed] at k3
      refine .inr ⟨j1 hlt, fun σ' H' => ∃ ρ F B, RelS (G.at B2 F2) ρ F B σ' H' ∧ kS G W D' (forD g f (ds.drop (i + 1)) ρ), fun σ' H' ⟨ρ', F', B', r', k'⟩ => ⟨ds.length - (i + 1), by omega, rfl, hlt, ρ', F', B', r', k'⟩, fun x H' y => ?_⟩
      obtain ⟨rfl, hd⟩ := j3 x H' y
      have hd := hd _ (List.getElem?_eq_getElem hlt)
      have hd : Dat G.T F3 B3 H' x ds[i] [] := hd.stay rel3.base.f0 rel3.base.h0 fun _ z => nomatch z
      unfold forD at k3
      split at k3
      · exact k3.elim
      · rename_i ρ4 e4
        refine ⟨B2, F2, ρ3, F3, B3, ds[i], ρ4, rel3, hd, e4, fun σ4 rel4 _ => ⟨B2, F2, ρ4, F3, B3, rel4, ?_⟩⟩
        cases z : f ρ4 with
        | next ρ5 => rw [z] at k3; exact fun σ F B H r => ⟨ρ5, F, B, r, k3⟩
        | cnt ρ5 => rw [z] at k3; exact fun σ F B H r => ⟨ρ5, F, B, r, k3⟩
        | brk ρ5 => rw [z] at k3; exact fun σ F B H r => k3 σ F B H (r.un x0 y0 o0)
        | ret d =>
          rw [z] at k3
          exact fun v F B H p b hd n => k3 v F B H p ⟨x0.trans b.f0, b.fb, b.bh, y0.trans b.h0, fun a n => (b.of0 a (Same.there y0 n)).trans (o0 a n)⟩ hd n
        | err c fs ρ5 => rw [z] at k3; exact fun cv x σ F B H r ea => k3 cv x σ F B H (r.un x0 y0 o0) ea
        | stuck => rw [z] at k3; exact k3
    · have e : ds.drop i = [] := List.drop_eq_nil_of_le (by omega)
      rw [e] at k3
      exact .inl ⟨j2 (by omega), k3 σ3 F3 B3 H3 (rel3.un x0 y0 o0)⟩
end
end DH
namespace DH
open PySem L2

abbrev W0 : WX := fun _ _ _ _ => False
/-- an error within a comprehension is not told -/
def noErr {α : Type} : Res α → Res α
  | .ok a => .ok a
  | _ => .stuck
def compD (g : GG) (c : Rho → Res Bool) (f : Rho → Res D) (ρ : Rho) : List D → Res (List D)
  | [] => .ok []
  | d :: ds => match g d ρ with
    | none => .stuck
    | some ρ1 => (noErr (c ρ1)).bind fun b => if b then (noErr (f ρ1)).bind fun y => (compD g c f ρ ds).bind fun ys => .ok (y :: ys) else compD g c f ρ ds
def wipeR (ρ : Rho) : List Nat → Rho
  | [] => ρ
  | v :: vs => (wipeR ρ vs).set v none
def eComp (vs : List Nat) (src : Rho → Res (List D)) (g : GG) (c : Rho → Res Bool) (f : Rho → Res D) : Rho → Res D := fun ρ =>
  (src ρ).bind fun ds => (compD g c f (wipeR ρ vs) ds).bind fun ys => if ys.length ≤ LINE ∧ D.retAll ys = true then .ok (.lst .own ys) else .stuck
def bYes : Rho → Res Bool := fun _ => .ok true
theorem noErr_ok {α : Type} {r : Res α} {a : α} (h : noErr r = .ok a) : r = .ok a := by
  cases r <;> cases h
  rfl
theorem noErr_ne {α : Type} {r : Res α} {c : Str} {fs : List (Str × V)} : noErr r ≠ .err c fs := by
  intro h
  cases r <;> cases h
theorem bind_ne {α β : Type} {r : Res α} {g : α → Res β} {c : Str} {fs : List (Str × V)} (h : ∀ c fs, r ≠ .err c fs) (k : ∀ a c fs, r = .ok a → g a ≠ .err c fs) : r.bind g ≠ .err c fs := by
  cases z : r with
  | ok a => exact k a c fs z
  | err c' fs' => exact absurd z (h c' fs')
  | stuck => exact fun q => nomatch q
theorem compD_ne {g : GG} {c : Rho → Res Bool} {f : Rho → Res D} {ρ : Rho} : ∀ (ds : List D) (k : Str) (fs : List (Str × V)), compD g c f ρ ds ≠ .err k fs
  | [], _, _ => fun z => nomatch z
  | d :: ds, k, fs => by
    unfold compD
    cases g d ρ with
    | none => exact fun z => nomatch z
    | some ρ1 =>
      refine bind_ne (fun _ _ => noErr_ne) fun b _ _ _ => ?_
      cases b with
      | true => exact bind_ne (fun _ _ => noErr_ne) fun y _ _ _ => bind_ne (fun c fs => compD_ne ds c fs) fun _ _ _ _ z => nomatch z
      | false => exact compD_ne ds _ _
theorem compD_cons {g : GG} {c : Rho → Res Bool} {f : Rho → Res D} {ρ : Rho} {d : D} {ds ys : List D} (h : compD g c f ρ (d :: ds) = .ok ys) : ∃ ρ1 b, g d ρ = some ρ1 ∧ c ρ1 = .ok b ∧
    ((b = true ∧ ∃ y zs, f ρ1 = .ok y ∧ compD g c f ρ ds = .ok zs ∧ ys = y :: zs) ∨ (b = false ∧ compD g c f ρ ds = .ok ys)) := by
  unfold compD at h
  cases z : g d ρ with
  | none => rw [z] at h; cases h
  | some ρ1 =>
    rw [z] at h
    cases zc : noErr (c ρ1) with
    | ok b =>
      simp only [zc, Res.bind] at h
      refine ⟨ρ1, b, rfl, noErr_ok zc, ?_⟩
      cases b with
      | true =>
        simp only [if_true] at h
        cases zf : noErr (f ρ1) with
        | ok y =>
          simp only [zf, Res.bind] at h
          cases zr : compD g c f ρ ds with
          | ok zs =>
            simp only [zr] at h
            cases h
            exact .inl ⟨rfl, y, zs, noErr_ok zf, rfl, rfl⟩
          | err _ _ => simp only [zr] at h; cases h
          | stuck => simp only [zr] at h; cases h
        | err _ _ => simp only [zf, Res.bind] at h; cases h
        | stuck => simp only [zf, Res.bind] at h; cases h
      | false => exact .inr ⟨rfl, by simpa using h⟩
    | err _ _ => simp only [zc, Res.bind] at h; cases h
    | stuck => simp only [zc, Res.bind] at h; cases h

section
variable {G : Gam} {W : WX} {X : L2.Cx} {F B H : Hp} {σ : L2.St} {ρ : Rho} {D' : Ends} {e elt a tg iter : Expr} {fe fa : Rho → Res D} {pos pos' p : Pos} {α : Type}
theorem Slots.wipe {p : List Addr} (s : Slots G.T F B H σ ρ p) (n : p.Nodup) : ∀ vs : List Nat, ∃ q, Slots G.T F B H (L2.wipe σ vs) (wipeR ρ vs) q ∧ q.Nodup ∧ ∀ a ∈ q, a ∈ p
  | [] => ⟨p, s, n, fun _ z => z⟩
  | v :: vs => by
    obtain ⟨q, s1, n1, k1⟩ := Slots.wipe s n vs
    obtain ⟨q2, s2, n2, k2⟩ := s1.forget v none n1
    exact ⟨q2, s2, n2, fun a z => k1 a (k2 a z)⟩
theorem Pinned.wipe (h : Pinned G σ) : ∀ {vs : List Nat}, (∀ v ∈ vs, PinOk G v) → Pinned G (L2.wipe σ vs)
  | [], _ => h
  | v :: vs, p => (Pinned.wipe h fun w z => p w (List.mem_cons_of_mem _ z)).set (p v List.mem_cons_self)
theorem RelS.wipe (rel : RelS G ρ F B σ H) (vs : List Nat) (hp : ∀ v ∈ vs, PinOk G v) : RelS G (wipeR ρ vs) F B (L2.wipe σ vs) H := by
  obtain ⟨fp, s, n⟩ := rel.slots
  obtain ⟨q, s1, n1, _⟩ := s.wipe n vs
  exact ⟨rel.base, ⟨q, s1, n1⟩, rel.pin.wipe hp⟩
theorem wipe_in : ∀ {vs : List Nat} {i : Nat} {σ : L2.St}, i ∈ vs → i < σ.length → (L2.wipe σ vs)[i]? = some none
  | v :: vs, i, σ, hi, hl => by
    unfold L2.wipe
    by_cases e : v = i
    · subst e
      exact List.getElem?_set_self (by rw [wipe_length]; exact hl)
    · rw [List.getElem?_set_ne e]
      exact wipe_in ((List.mem_cons.mp hi).resolve_left fun z => e z.symm) hl
theorem Agree.wipe {vs : List Nat} {σ σ2 : L2.St} (a : Agree vs (L2.wipe σ vs) σ2) : L2.wipe σ2 vs = L2.wipe σ vs := by
  have hl : σ2.length = σ.length := a.len.trans (wipe_length σ vs)
  refine List.ext_getElem? fun i => ?_
  by_cases hi : i ∈ vs
  · by_cases h : i < σ.length
    · rw [wipe_in hi h, wipe_in hi (by omega)]
    · rw [List.getElem?_eq_none (by rw [wipe_length]; omega), List.getElem?_eq_none (by rw [wipe_length]; omega)]
  · rw [wipe_out hi, a.at_ i hi, wipe_out hi]
theorem Ext.updNew {F' B' H' : Hp} {a : Addr} {o : HO} (x : Ext F B H F' B' H') (n : H a = none) (nb : B' a = none) : Ext F B H F' B' (upd H' a o) :=
  ⟨x.f, x.b, fun c y e => by rw [upd_ne (ne_of_none e n)]; exact x.h c y e, x.fb, fun c y e => by rw [upd_ne (ne_of_none e nb)]; exact x.bh c y e, x.of, x.ob⟩
abbrev ECs (G : Gam) (X : L2.Cx) (W : WX) (cs : List Expr) (f : Rho → Res Bool) : Prop := PTs X cs (tT G W f)
theorem pts_pre {X : L2.Cx} {cs : List Expr} {t t' : TT} (h : PTs X cs t) (k : ∀ σ H Q, t' σ H Q → t σ H Q) : PTs X cs t' := ⟨fun pins s σ H Q I q => h.run pins s σ H Q I (k σ H Q q)⟩
theorem ec_nil : ECs G X W [] bYes := pts_pre pts_nil fun σ H Q ⟨ρ, F, B, rel, k⟩ => kE.ok (G := G) (W := W) (σ := σ) rel.base.fb rel.base.bh k
theorem ec_one {c : Expr} {f : Rho → Res Bool} (h : ET G X W c f) : ECs G X W [c] f := pts_one h
theorem comp_run {vs : List Nat} {src : Rho → Res (List D)} {g : GG} {c : Rho → Res Bool} {f : Rho → Res D} {Q : VK} (hp : ∀ v ∈ vs, PinOk G v) (rel : RelS G ρ F B σ H)
    (k : kE G.T W σ F B H (eComp vs src g c f ρ) fun d F' B' H' => ∀ v p, Dat G.T F' B' H' v d p → p.Nodup → (∀ a ∈ p, H a = none) → Q v H') : tLc (tI G W src) (tG G vs g) (tT G W0 c) (tV G W0 f) vs σ H Q := by
  refine ⟨ρ, F, B, rel, ?_⟩
  unfold eComp at k
  cases zs : src ρ with
  | err _ _ => rw [zs] at k; exact k
  | stuck => rw [zs] at k; exact k
  | ok ds =>
  rw [zs] at k
  have k1 : kE G.T W σ F B H ((compD g c f (wipeR ρ vs) ds).bind fun ys => if ys.length ≤ LINE ∧ D.retAll ys = true then (Res.ok (D.lst .own ys) : Res D) else .stuck) _ := k
  intro F1 B1 H1 x1 J F2 B2 x2 hJ D nD
  cases zc : compD g c f (wipeR ρ vs) ds with
  | err _ _ => exact absurd zc (compD_ne ds _ _)
  | stuck => rw [zc] at k1; exact k1.elim
  | ok ys =>
    rw [zc] at k1
    obtain ⟨⟨c1, c2⟩, k1⟩ := kE.ite k1
    have b2 := rel.base.ext x2
    have nB2 : B2 D = none := b2.bh.free nD
    have n0 : H D = none := x2.h.free nD
    have relw := rel.wipe vs hp
    refine ⟨fun i m H3 => m = ds.length - i ∧ i ≤ ds.length ∧ ∃ F3 B3 acc accD q rest, Ext F B H F3 B3 H3 ∧ Same F2 F3 ∧ Same B2 B3 ∧ H3 D = some (.lst acc) ∧ B3 D = none ∧ Dats G.T F3 B3 H3 acc accD q ∧ (D :: q).Nodup ∧ (∀ a ∈ q, H1 a = none) ∧ Same H1 H3 ∧
      compD g c f (wipeR ρ vs) (ds.drop i) = .ok rest ∧ accD ++ rest = ys, ⟨ds.length, by simp, Nat.zero_le _, F2, B2, [], [], [], ys, x2.updNew n0 nB2, .refl _, .refl _, upd_same, nB2, .nil, nd1 D, fun _ z => (nomatch z), same_upd nD, by rw [List.drop_zero]; exact zc, rfl⟩, ?_⟩
    rintro i m H3 ⟨rfl, hi, F3, B3, acc, accD, q, rest, x3, sf, sb, eD, nB3, hacc, nq, newq, s13, hrest, happ⟩
    obtain ⟨j1, j2, j3⟩ := hJ i H3 (sb.trans x3.bh)
    by_cases hlt : i < ds.length
    · have ed : ds.drop i = ds[i] :: ds.drop (i + 1) := List.drop_eq_getElem_cons hlt
      rw [ed] at hrest
      obtain ⟨ρ1, b, g1, g2, g3⟩ := compD_cons hrest
      refine .inr ⟨j1 hlt, fun H4 => ∃ F3 B3 acc accD q rest, Ext F B H F3 B3 H4 ∧ Same F2 F3 ∧ Same B2 B3 ∧ H4 D = some (.lst acc) ∧ B3 D = none ∧ Dats G.T F3 B3 H4 acc accD q ∧ (D :: q).Nodup ∧ (∀ a ∈ q, H1 a = none) ∧ Same H1 H4 ∧
        compD g c f (wipeR ρ vs) (ds.drop (i + 1)) = .ok rest ∧ accD ++ rest = ys, fun H4 w => ⟨ds.length - (i + 1), by omega, rfl, hlt, w⟩, fun x H4 y => ?_⟩
      obtain ⟨rfl, hd⟩ := j3 x H4 y
      have hd : Dat G.T F3 B3 H4 x ds[i] [] := (hd _ (List.getElem?_eq_getElem hlt)).stay sf sb fun _ z => nomatch z
      refine ⟨wipeR ρ vs, F3, B3, ds[i], ρ1, relw.ext x3, hd, g1, fun σ4 rel4 ag => ⟨ag.wipe, ρ1, F3, B3, rel4, ?_⟩⟩
      rw [g2]
      intro F5 B5 H5 x5
      have x35 := x3.trans x5
      rcases g3 with ⟨rfl, y, zs, f1, f2, rfl⟩ | ⟨rfl, f2⟩
      · simp only [if_true]
        refine ⟨ρ1, F5, B5, rel4.ext x5, ?_⟩
        rw [f1]
        intro F6 B6 H6 x6 v p hv np newp
        have x56 := x5.trans x6
        have eD6 : H6 D = some (.lst acc) := x56.h _ _ eD
        have nB6 : B6 D = none := (x56.ob D (by rw [eD]; exact fun z => nomatch z)).trans nB3
        have hacc6 := hacc.ext x56
        have lyy : acc.length ≤ LINE := by
          have e1 := congrArg List.length happ
          rw [List.length_append, List.length_cons] at e1
          rw [hacc.length]; omega
        refine ⟨acc, eD6, by
          have e1 := congrArg List.length happ
          rw [List.length_append, List.length_cons] at e1
          rw [hacc.length, line_eq]; omega, F6, B6, acc ++ [v], accD ++ [y], q ++ p, zs, (x3.trans x56).updNew n0 nB6, sf.trans x56.f, sb.trans x56.b, upd_same, nB6, ?_, ?_, ?_, (fun c o e => by rw [upd_ne (ne_of_none e nD)]; exact (s13.trans x56.h) c o e), f2, by rw [List.append_assoc]; exact happ⟩
        · have w := hacc6.append (Dats.cons hv .nil)
          rw [List.append_nil] at w
          refine w.stay (.refl _) (.refl _) fun a z => ⟨upd_ne fun e => ?_, (w.foot a z).2⟩
          rcases List.mem_append.mp z with z | z
          · exact (List.nodup_cons.mp nq).1 (e ▸ z)
          · have w1 := newp a z
            rw [e, x5.h _ _ eD] at w1
            cases w1
        · refine List.nodup_cons.mpr ⟨fun z => ?_, List.nodup_append.mpr ⟨(List.nodup_cons.mp nq).2, np, fun a z b y e => ?_⟩⟩
          · rcases List.mem_append.mp z with z | z
            · exact (List.nodup_cons.mp nq).1 z
            · have w1 := newp D z
              rw [x5.h _ _ eD] at w1
              cases w1
          · subst e
            have w1 := newp a y
            have w2 := (hacc.foot a z).1
            exact Same.there x5.h w2 w1
        · intro a z
          rcases List.mem_append.mp z with z | z
          · exact newq a z
          · exact (s13.trans x5.h).free (newp a z)
      · simp only [Bool.false_eq_true, if_false]
        exact ⟨F5, B5, acc, accD, q, rest, x35, sf.trans x5.f, sb.trans x5.b, x5.h _ _ eD, (x5.ob D (by rw [eD]; exact fun z => nomatch z)).trans nB3, hacc.ext x5, nq, newq, s13.trans x5.h, f2, happ⟩
    · have er : ds.drop i = [] := List.drop_eq_nil_of_le (by omega)
      rw [er] at hrest
      cases hrest
      rw [List.append_nil] at happ
      subst happ
      refine .inl ⟨j2 (by omega), k1 F3 B3 H3 x3 (.ref D) (D :: q) (.own eD nB3 hacc c2) nq fun a z => ?_⟩
      rcases List.mem_cons.mp z with rfl | z
      · exact n0
      · exact x2.h.free (newq a z)
theorem ev_comp {scope : Scope} (own : List (Str × Nat)) {src : Rho → Res (List D)} {g : GG} {c : Rho → Res Bool} {f : Rho → Res D} {ifs : List Expr} (hp : ∀ v ∈ own.map (·.2), PinOk G v) (hc : X.calm = true) (hN : X.N.Nodup) (hi : IT G X W tg iter src) (ok : BlkOk X.N X.env.scope scope own)
    (hg : ∀ (s : Shared) (H : Hp) (C : Addr) (cl : List (Str × Addr)) (fp : List Addr), GT G (X.blk s H scope (compEnvC scope cl C X.env) fp) (own.map (·.2)) tg g)
    (ht : ∀ (s : Shared) (H : Hp) (C : Addr) (cl : List (Str × Addr)) (fp : List Addr), ECs G (X.blk s H scope (compEnvC scope cl C X.env) fp) W0 ifs c)
    (he : ∀ (s : Shared) (H : Hp) (C : Addr) (cl : List (Str × Addr)) (fp : List Addr), EV G (X.blk s H scope (compEnvC scope cl C X.env) fp) W0 elt f)
    (hs : ∀ x, foldedSetIterable iter X.env x = pure x := by intro _; rfl) : EV G X W (.ListComp elt [⟨tg, iter, ifs, 0⟩] scope pos) (eComp (own.map (·.2)) src g c f) :=
  pe_pre (pe_lc hc hN hi ok hg ht he hs) fun σ H Q ⟨ρ, F, B, rel, k⟩ => comp_run hp rel k
theorem ss_setComp (i : Nat) {y : Str} {py spos : Pos} {scope : Scope} (own : List (Str × Nat)) {src : Rho → Res (List D)} {g : GG} {c : Rho → Res Bool} {f : Rho → Res D} {ifs : List Expr} (hp : ∀ v ∈ own.map (·.2), PinOk G v) (hpi : PinOk G i) (hc : X.calm = true) (hN : X.N.Nodup)
    (hi : IT G X W tg iter src) (ok : BlkOk X.N X.env.scope scope own)
    (hg : ∀ (s : Shared) (H : Hp) (C : Addr) (cl : List (Str × Addr)) (fp : List Addr), GT G (X.blk s H scope (compEnvC scope cl C X.env) fp) (own.map (·.2)) tg g)
    (ht : ∀ (s : Shared) (H : Hp) (C : Addr) (cl : List (Str × Addr)) (fp : List Addr), ECs G (X.blk s H scope (compEnvC scope cl C X.env) fp) W0 ifs c)
    (he : ∀ (s : Shared) (H : Hp) (C : Addr) (cl : List (Str × Addr)) (fp : List Addr), EV G (X.blk s H scope (compEnvC scope cl C X.env) fp) W0 elt f)
    (hsw : swapsWith (.ListComp elt [⟨tg, iter, ifs, 0⟩] scope pos) (some (.Name y py)) spos.line X.env = pure true)
    (hy : X.N[i]? = some y := by rfl) (hyl : X.env.scope.names.lookup y = some .local := by rfl) (hs : ∀ x, foldedSetIterable iter X.env x = pure x := by intro _; rfl) :
    SS G X W (.Assign [.Name y py] (.ListComp elt [⟨tg, iter, ifs, 0⟩] scope pos) spos) (sSet i (eComp (own.map (·.2)) src g c f)) :=
  ps_pre (ps_setLc hc hN hy hyl hsw hi ok hg ht he hs) fun D' σ H ⟨ρ, F, B, rel, k⟩ => comp_run hp rel ((kS.bind rel k).mono fun d F1 B1 H1 x1 k1 v p hd nd new => k1 _ F1 B1 H1 (rel.set x1 i hpi hd nd new))
end
end DH
namespace DH
open PySem L2

/-! ### calls whose errors are wished for at the caller's slots -/
section
open PySem.Spec PyProof.Rows
variable {X : L2.Cx} {CX : CXT} {k : Nat} {f C : Addr} {fd : FuncData} {ps : List Str} {sp : Sp} {E : L2.St → XK} {x m : Str} {p pos apos : Pos} {e o : Expr} {es : List Expr} {ta : TE} {t : TA}
def tMethS (C : Addr) (m : Str) (sp : Sp) (E : L2.St → XK) (ta : TE) (t : TA) : TE := fun σ H Q => ta σ H fun x H1 => ∃ a dx fs, x = .ref a ∧ H1 a = some (.ins C dx fs) ∧ fs.lookup m = none ∧
  t σ H1 fun vs H2 => sp (x :: vs) H2 Q (E σ)
theorem pe_methS {pl : Sem Bool} (he : PE X o ta) (c : Cls X.K C) (hm : Meth X.K C m f) (F : FnOk X.prog X.w X.K X.mg X.base CX k f fd ps sp) (hr : Room k X.A) (hb : Binds X.K fd ps []) (hx : ∀ σ, PassesAt CX X σ (E σ)) (ha : PA X (e :: es) t)
    (hst : starEach (e :: es) X.env = (false, eval e X.env) :: starEach es X.env := by rfl) (hpl : (backTo pos (starEach es X.env)).any (·.1) = false := by rfl)
    (ht : eval (.Call (.Attribute o m apos) (e :: es) [] pos) X.env = (do
      let ov ← eval o X.env
      standAt apos.atName
      let (f, first) ← holding [ov] (getMethod ov m pl)
      callWith pos f first (backTo pos (starEach (e :: es) X.env)) (backToKw pos (keywordEach [] X.env))) := by rfl) :
    PE X (.Call (.Attribute o m apos) (e :: es) [] pos) (tMethS C m sp E ta t) := by
  refine ⟨fun pins s σ H Q I h => ?_⟩
  refine PySem.W.methodCall_KW (pl := pl) (thn (he.run pins s σ H _ I h) fun u s1 ⟨x, H1, I1, rx, a, dx, fs, ex, ea, l, q⟩ => ?_) ht
  subst ex
  obtain rfl : u = Value.ref a := rx
  refine getmeth_ok I1 ea c hm l ?_
  refine PySem.W.callWith_K (first := [.ref a]) (h₀ := X.base) I.ok.mod.kin hm.kp (thn (ha.run pos pins s1 σ H1 _ I1 q) fun us s2 ⟨vs, H2, I2, r, q2⟩ => ⟨I2.kIn, ?_⟩) hst hpl
  exact run_fnS (us := .ref a :: us) (vs := .ref a :: vs) F hr hb (hx σ) I2 (.cons rfl r) q2
theorem pe_methS0 {pl : Sem Bool} (he : PE X o ta) (c : Cls X.K C) (hm : Meth X.K C m f) (F : FnOk X.prog X.w X.K X.mg X.base CX k f fd ps sp) (hr : Room k X.A) (hb : Binds X.K fd ps []) (hx : ∀ σ, PassesAt CX X σ (E σ))
    (ht : eval (.Call (.Attribute o m apos) [] [] pos) X.env = (do
      let ov ← eval o X.env
      standAt apos.atName
      let (f, first) ← holding [ov] (getMethod ov m pl)
      callWith pos f first (backTo pos (starEach [] X.env)) (backToKw pos (keywordEach [] X.env))) := by rfl) :
    PE X (.Call (.Attribute o m apos) [] [] pos) (tMethS C m sp E ta tNil) := by
  refine ⟨fun pins s σ H Q I h => ?_⟩
  refine PySem.W.methodCall_KW (pl := pl) (thn (he.run pins s σ H _ I h) fun u s1 ⟨x, H1, I1, rx, a, dx, fs, ex, ea, l, q⟩ => ?_) ht
  subst ex
  obtain rfl : u = Value.ref a := rx
  refine getmeth_ok I1 ea c hm l ?_
  exact PySem.W.callWith_K0 (first := [.ref a]) I1.kIn hm.kp (run_fnS (us := [.ref a]) (vs := [.ref a]) F hr hb (hx σ) I1 (.cons rfl .nil) q)
def tMakeS (C : Addr) (sp : Sp) (E : L2.St → XK) (t : TA) : TE := fun σ H Q => t σ H fun vs H1 => ∀ x dx, H1 x = none → H1 dx = none → dx ≠ x →
  sp (.ref x :: vs) (upd (upd H1 dx (.own x)) x (.ins C dx [])) (fun v H2 => v = .non ∧ Q (.ref x) H2) (E σ)
theorem run_makeS {pins : List (Addr × Obj)} {σ : L2.St} {H : Hp} {s : Shared} {Q : VK} {us : List Value} {vs : List V} (M : Mk X.K C f) (F : FnOk X.prog X.w X.K X.mg X.base CX k f fd ps sp) (hr : Room (k + 1) X.A) (hb : Binds X.K fd ps [])
    (hx : PassesAt CX X σ (E σ)) (I : Inv X pins σ H s) (r : Vals vs us)
    (h : ∀ x dx, H x = none → H dx = none → dx ≠ x → sp (.ref x :: vs) (upd (upd H dx (.own x)) x (.ins C dx [])) (fun v H2 => v = .non ∧ Q (.ref x) H2) (E σ)) :
    wpAny (model X.prog X.w) X.A (call (.ref C) us) (EP X pins σ Q) X.xe s := by
  have hq := h (s.heap.objs.size + 1) s.heap.objs.size (I.hok.fresh (Nat.le_succ _)) (I.hok.fresh (Nat.le_refl _)) (Nat.ne_of_lt (Nat.lt_succ_self _))
  have I2 := Inv.made (C := C) I
  have r2 : Vals (V.ref (s.heap.objs.size + 1) :: vs) (Value.ref (s.heap.objs.size + 1) :: us) := .cons rfl r
  have hl : (Value.ref (s.heap.objs.size + 1) :: us).length = ps.length := by
    have e := r2.length
    rw [F.len _ _ _ _ hq] at e
    exact e.symm
  have b := hb _ (Value.ref (s.heap.objs.size + 1) :: us) I2.kIn (by rw [List.append_nil]; exact hl)
  rw [List.append_nil] at b
  refine wpAny_call (make_map (f := f) I.kIn M.makes M.init (beq_iff_eq.mp M.fn) (codeAny_mono (F.run _ X.stack _ _ ⟨Value.ref (s.heap.objs.size + 1) :: us, []⟩ (Value.ref (s.heap.objs.size + 1) :: us) _ _ (E σ) (hr.make C us [])
    (I2.env0.make C us []) b r2 hq) fun r s' hq' => ?_))
  cases r with
  | error e => exact hx pins _ _ e s' I2 hq'
  | ok fl =>
    cases fl with
    | ret u =>
      obtain ⟨v, H', I3, rv, ev, q3⟩ := I2.after hq'
      subst ev
      exact ⟨rv, ⟨V.ref (s.heap.objs.size + 1), H', I3, rfl, q3⟩⟩
    | next => exact False.elim hq'
    | brk => exact False.elim hq'
    | cont => exact False.elim hq'
theorem pe_makeS (M : Mk X.K C f) (F : FnOk X.prog X.w X.K X.mg X.base CX k f fd ps sp) (hr : Room (k + 1) X.A) (hg : Gl X x) (hm : X.mg x = some (.ref C)) (hb : Binds X.K fd ps []) (hx : ∀ σ, PassesAt CX X σ (E σ))
    (ha : PA X (e :: es) t) (hdb : (x == ("__debug__" : Str)) = false := by decide) (he : starEach (e :: es) X.env = (false, eval e X.env) :: starEach es X.env := by rfl) (hpl : (backTo pos (starEach es X.env)).any (·.1) = false := by rfl) :
    PE X (.Call (.Name x p) (e :: es) [] pos) (tMakeS C sp E t) := by
  refine ⟨fun pins s σ H Q I h => ?_⟩
  refine wpAny_Call_Name_kw (ld_glob I hg hm ?_ hdb)
  refine PySem.W.callWith_K (h₀ := X.base) I.ok.mod.kin M.kp (thn (ha.run pos pins s σ H _ I h) fun us s1 ⟨vs, H1, I1, r, q⟩ => ⟨I1.kIn, ?_⟩) he hpl
  exact run_makeS M F hr hb (hx σ) I1 r q
end

/-! ### what a def promises over data -/
def spF (T : Tx) (n : Nat) (m : List D → Res D) : Sp := fun vs H Q E => ∃ F ds, Same F H ∧ Dats T F H H vs ds [] ∧ ds.length = n ∧ match m ds with
  | .ok r => ∀ v F' H' p, Same F F' → Same F' H' → Same H H' → (∀ a, H a ≠ none → F' a = F a) → Dat T F' F' H' v r p → p.Nodup → (∀ a ∈ p, H a = none) → Q v H'
  | .err c fs => ∀ cv x H', Same H H' → ExcAt T c fs cv x H' → E cv x H'
  | .stuck => False
/-- a def's mirror -/
def runF (f : Rho → Out) (n : Nat) (ds : List D) : Res D := match f (ds.map some ++ List.replicate n none) with
  | .next _ => .ok .non
  | .ret d => if d.ret then .ok d else .stuck
  | .err c fs _ => .err c fs
  | _ => .stuck
theorem slots_nones {T : Tx} {F B H : Hp} : ∀ (n : Nat), Slots T F B H (List.replicate n none) (List.replicate n none) []
  | 0 => .nil
  | n + 1 => .un (slots_nones n)
theorem slots_args {T : Tx} {F B H : Hp} {n : Nat} : ∀ {vs : List V} {ds : List D}, Dats T F B H vs ds [] → Slots T F B H (vs.map some ++ List.replicate n none) (ds.map some ++ List.replicate n none) []
  | _, [], h => by
    obtain ⟨rfl, _⟩ := h.unnil
    exact slots_nones n
  | _, d :: ds, h => by
    obtain ⟨v, ws, rfl, h1, h2⟩ := h.uncons0
    exact Slots.val (p := []) (q := []) h1 (slots_args h2)
/-- the context of a def's body -/
abbrev gamF (T : Tx) (H F : Hp) : Gam := ⟨T, H, F, none⟩
section
open PySem.Spec PyProof.Rows
variable {P : Program} {w : World} {K : PySem.W.Frag} {mg : Str → Option Value} {base : Heap}
theorem fn_mk {x qual : Str} {st : Stmt} {fa : Addr} {fd : FuncData} {N ps : List Str} {k : Nat} {f : Rho → Out} (F : Fun K x qual st fa fd) (S : FnScope N ps (defScope st))
    (hbody : ∀ (cdv : Value) (A : Around) (outer : List Env) (s : Shared) (H H0 F0 : Hp) (E : XK), Room k (A.deeper (envOfC qual (defScope st) s.heap.objs.size fa cdv)) →
      Takes (cxOf (L2.CX P w) P w K mg base N qual (defScope st) fa cdv A outer s H E) (fun cls d _ H => E cls d H) →
      SB ⟨⟨K, mg⟩, H0, F0, none⟩ (cxOf (L2.CX P w) P w K mg base N qual (defScope st) fa cdv A outer s H E) (fun cls d _ H => E cls d H) (defBody st) f) :
    FnOk P w K mg base (L2.CX P w) (k + 1) fa fd ps (spF ⟨K, mg⟩ ps.length (runF f (N.length - ps.length))) := by
  refine F.okX S (fun vs H Q E h => ?_) (fun cdv A outer s H vs Q E hr h => ?_)
  · obtain ⟨F, ds, _, hd, hl, _⟩ := h
    rw [hd.length, hl]
  · obtain ⟨F, ds, sf, hd, hl, k⟩ := h
    refine ⟨_, hbody cdv A outer s H H F E hr (takes_of rfl rfl rfl rfl), ?_⟩
    have hl' : vs.length = ps.length := by rw [hd.length, hl]
    refine ⟨ds.map some ++ List.replicate (N.length - ps.length) none, F, H, ⟨⟨.refl _, sf, .refl _, .refl _, fun _ _ => rfl⟩, ⟨[], ?_, List.nodup_nil⟩, trivial⟩, ?_⟩
    · unfold L2.start
      rw [hl']
      exact slots_args hd
    · unfold runF at k
      cases z : f (ds.map some ++ List.replicate (N.length - ps.length) none) with
      | next ρ' =>
        rw [z] at k
        exact fun σ F' B' H' r => k .non F' H' [] r.base.f0 (r.base.fb.trans r.base.bh) (r.base.h0.trans r.base.bh) r.base.of0 .non List.nodup_nil fun _ z => nomatch z
      | ret d =>
        rw [z] at k
        intro v F' B' H' p b hdv nd
        have k : match (if d.ret then Res.ok d else .stuck) with
          | .ok r => ∀ v F' H' p, Same F F' → Same F' H' → Same H H' → (∀ a, H a ≠ none → F' a = F a) → Dat ⟨K, mg⟩ F' F' H' v r p → p.Nodup → (∀ a ∈ p, H a = none) → Q v H'
          | .err c fs => ∀ cv x H', Same H H' → ExcAt ⟨K, mg⟩ c fs cv x H' → E cv x H'
          | .stuck => False := k
        by_cases c : d.ret = true
        · rw [if_pos c] at k
          exact k v F' H' p b.f0 (b.fb.trans b.bh) (b.h0.trans b.bh) b.of0 (hdv.back b.fb c) nd fun a z => b.h0.free (hdv.foot a z).2
        · rw [if_neg c] at k; exact k.elim
      | brk ρ' => rw [z] at k; exact k.elim
      | cnt ρ' => rw [z] at k; exact k.elim
      | err c fs ρ' =>
        rw [z] at k
        exact fun cv x σ F' B' H' r ea => k cv x H' (r.base.h0.trans r.base.bh) ea
      | stuck => rw [z] at k; exact k.elim
end

/-- a def that stands under its name -/
structure FnE (P : Program) (w : World) (K : PySem.W.Frag) (mg : Str → Option Value) (base : Heap) (x : Str) (n k : Nat) (m : List D → Res D) : Prop where
  ex : ∃ f fd ps, FnOk P w K mg base (L2.CX P w) k f fd ps (spF ⟨K, mg⟩ n m) ∧ mg x = some (.ref f) ∧ PySem.W.keepIn K (.ref f) = true ∧ Binds K fd ps []
def callD (n : Nat) (m : List D → Res D) (ds : List D) : Res D := if ds.length = n ∧ D.lenAll ds = true then m (D.lendAll ds) else .stuck
def eCall (n : Nat) (m : List D → Res D) (fs : Rho → Res (List D)) : Rho → Res D := fun ρ => (fs ρ).bind (callD n m)
def joinH (B F : Hp) : Hp := fun a => match B a with
  | some o => some o
  | none => F a
section
variable {G : Gam} {W : WX} {X : L2.Cx} {F B H F' B' H' : Hp} {σ : L2.St} {ρ : Rho} {e : Expr} {es : List Expr} {fs : Rho → Res (List D)} {pos p : Pos} {x : Str} {m : List D → Res D} {k n : Nat}
/-- behind a call: what is new and frozen joins -/
theorem Ext.called (fb : Same F B) (bh : Same B H) (h1 : Same F F') (h2 : Same F' H') (h3 : Same H H') (h4 : ∀ a, H a ≠ none → F' a = F a) : Ext F B H F' (joinH B F') H' := by
  refine ⟨h1, fun a o e => ?_, h3, fun a o e => ?_, fun a o e => ?_, h4, fun a n => ?_⟩
  · unfold joinH; rw [e]
  · unfold joinH
    cases z : B a with
    | none => exact e
    | some o' =>
      have n : H a ≠ none := by rw [bh a o' z]; exact fun q => nomatch q
      have e2 := h4 a n
      rw [e] at e2
      have e3 := fb a o e2.symm
      rw [z] at e3
      exact e3
  · unfold joinH at e
    cases z : B a with
    | none => rw [z] at e; exact h2 a o e
    | some o' => rw [z] at e; cases e; exact h3 a _ (bh a _ z)
  · unfold joinH
    cases z : B a with
    | none =>
      show F' a = none
      rw [h4 a n]
      exact fb.free z
    | some o' => rfl
theorem Dat.called {v : V} {d : D} {p : List Addr} (bh : Same B H) (h : Dat G.T F' F' H' v d p) (new : ∀ a ∈ p, H a = none) (x : Ext F B H F' (joinH B F') H') : Dat G.T F' (joinH B F') H' v d p :=
  h.stay (.refl _) x.fb fun a z => ⟨rfl, by
    unfold joinH
    rw [bh.free (new a z)]
    exact (h.foot a z).2⟩
theorem lendAll_length : ∀ ds : List D, (D.lendAll ds).length = ds.length
  | [] => rfl
  | d :: ds => congrArg (· + 1) (lendAll_length ds)
theorem call_run {ds : List D} {vs : List V} {p : List Addr} {Q : VK} (b : Base G F B H) (hs : Dats G.T F B H vs ds p)
    (h : kE G.T W σ F B H (callD n m ds) fun d F' B' H' => ∀ v p, Dat G.T F' B' H' v d p → p.Nodup → (∀ a ∈ p, H a = none) → Q v H') : spF G.T n m vs H Q (WE W σ) := by
  obtain ⟨⟨hl, c⟩, h⟩ := kE.ite h
  refine ⟨F, D.lendAll ds, b.fb.trans b.bh, hs.lent (.refl _) b.bh c fun _ _ => rfl, (by rw [lendAll_length]; exact hl), ?_⟩
  cases z : m (D.lendAll ds) with
  | ok r =>
    rw [z] at h
    intro v F' H' q h1 h2 h3 h4 hd nd new
    have x := Ext.called b.fb b.bh h1 h2 h3 h4
    exact h F' _ H' x v q (hd.called b.bh new x) nd new
  | err c fs =>
    rw [z] at h
    exact fun cv x H' s ea => h cv x F B H' ⟨.refl _, .refl _, s, b.fb, b.bh.trans s, fun _ _ => rfl, fun _ _ => rfl⟩ ea
  | stuck => rw [z] at h; exact h
theorem ev_call (hF : FnE X.prog X.w X.K X.mg X.base x n k m) (hT : G.T = ⟨X.K, X.mg⟩) (hr : Room k X.A) (tk : Takes X W) (ha : EA G X W (e :: es) fs) (hg : Gl X x := by rfl)
    (hdb : (x == ("__debug__" : Str)) = false := by decide) (he : starEach (e :: es) X.env = (false, eval e X.env) :: starEach es X.env := by rfl) (hpl : (backTo pos (starEach es X.env)).any (·.1) = false := by rfl) :
    EV G X W (.Call (.Name x p) (e :: es) [] pos) (eCall n m fs) := by
  obtain ⟨f, fd, ps, F0, hmg, hk, hb⟩ := hF.ex
  refine pe_pre (pe_callSD F0 hr hg hmg hk hb .nil (passAt tk) ha hdb he hpl) fun σ H Q ⟨ρ, F, B, rel, k⟩ => ⟨ρ, F, B, rel, (kE.bind k).mono fun ds F1 B1 H1 x1 k1 vs q hd => ?_⟩
  show spF ⟨X.K, X.mg⟩ n m (vs ++ []) H1 Q (WE W σ)
  rw [List.append_nil, ← hT]
  exact call_run (rel.base.ext x1) hd (kE.mono k1 fun d F2 B2 H2 x2 k2 v p hd nd new => k2 v p hd nd fun a m => x1.h.free (new a m))
end

/-! ### methods of frozen instances -/
/-- a method that stands in the class named c -/
structure MeE (P : Program) (w : World) (K : PySem.W.Frag) (mg : Str → Option Value) (base : Heap) (c mn : Str) (n k : Nat) (m : List D → Res D) : Prop where
  ex : ∃ C f fd ps, mg c = some (.ref C) ∧ Meth K C mn f ∧ FnOk P w K mg base (L2.CX P w) k f fd ps (spF ⟨K, mg⟩ n m) ∧ Binds K fd ps []
def methK (c mn : Str) (n : Nat) (m : List D → Res D) (fs : Res (List D)) : D → Res D
  | .ins c' fds => if c' = c ∧ (fds.lookup mn).isNone = true then fs.bind fun ds => callD n m (.ins c' fds :: ds) else .stuck
  | _ => .stuck
def eMeth (c mn : Str) (n : Nat) (m : List D → Res D) (fo : Rho → Res D) (fs : Rho → Res (List D)) : Rho → Res D := fun ρ => (fo ρ).bind (methK c mn n m (fs ρ))
section
variable {G : Gam} {W : WX} {X : L2.Cx} {F B H F' B' H' : Hp} {σ : L2.St} {ρ : Rho} {e o : Expr} {es : List Expr} {fo : Rho → Res D} {fs : Rho → Res (List D)} {pos p apos : Pos} {x c mn : Str} {m : List D → Res D} {k n : Nat}
theorem lookup_none {f : Str} : ∀ {fvs : List (Str × V)} {fs : List (Str × D)}, fvs.map (·.1) = fs.map (·.1) → fs.lookup f = none → fvs.lookup f = none
  | [], [], _, _ => rfl
  | [], _ :: _, e, _ => by cases e
  | _ :: _, [], e, _ => by cases e
  | (g, v) :: fvs, (g', d) :: fs, e, l => by
    obtain ⟨e1, e2⟩ := List.cons.inj e
    have e1 : g = g' := e1
    subst e1
    by_cases c : f = g
    · subst c
      simp only [List.lookup, beq_self_eq_true] at l
      cases l
    · have c' : (f == g) = false := by simpa using c
      simp only [List.lookup, c'] at l ⊢
      exact lookup_none e2 l
theorem meth_run {ta : TA} {r : List V → Hp → VK → L2.St → Prop} (h : MeE X.prog X.w X.K X.mg X.base c mn n k m) (hT : G.T = ⟨X.K, X.mg⟩) : True := trivial
theorem ev_meth {pl : Sem Bool} {f C : Addr} {fd : FuncData} {ps : List Str} (hC : X.mg c = some (.ref C)) (hcl : Cls X.K C) (hme : Meth X.K C mn f) (F0 : FnOk X.prog X.w X.K X.mg X.base (L2.CX X.prog X.w) k f fd ps (spF ⟨X.K, X.mg⟩ n m)) (hb : Binds X.K fd ps [])
    (hT : G.T = ⟨X.K, X.mg⟩) (hr : Room k X.A) (tk : Takes X W) (ho : EB G X W o fo) (ha : EA G X W (e :: es) fs)
    (hst : starEach (e :: es) X.env = (false, eval e X.env) :: starEach es X.env := by rfl) (hpl : (backTo pos (starEach es X.env)).any (·.1) = false := by rfl)
    (ht : eval (.Call (.Attribute o mn apos) (e :: es) [] pos) X.env = (do
      let ov ← eval o X.env
      standAt apos.atName
      let (f, first) ← holding [ov] (getMethod ov mn pl)
      callWith pos f first (backTo pos (starEach (e :: es) X.env)) (backToKw pos (keywordEach [] X.env))) := by rfl) :
    EV G X W (.Call (.Attribute o mn apos) (e :: es) [] pos) (eMeth c mn n m fo fs) := by
  refine pe_pre (pe_methS ho hcl hme F0 hr hb (passAt tk) ha hst hpl ht) fun σ H Q ⟨ρ, F, B, rel, k⟩ => ⟨ρ, F, B, rel, (kE.bind k).mono fun d F1 B1 H1 x1 k1 v p hd => ?_⟩
  cases d <;> first | exact k1.elim | skip
  rename_i c' fds
  obtain ⟨⟨ec, el⟩, q1⟩ := kE.ite k1
  clear k1
  subst ec
  have b1 := rel.base.ext x1
  have hd' := hd
  cases hd with
  | ins e m' n' hh cc =>
    have eC : G.T.mg c' = some (.ref C) := by rw [hT]; exact hC
    have g := m'.g
    rw [eC] at g
    cases g
    refine ⟨_, _, _, rfl, b1.bh _ _ (b1.fb _ _ e), lookup_none n' (Option.isNone_iff_eq_none.mp el), ρ, F1, B1, rel.ext x1, (kE.bind q1).mono fun ds F2 B2 H2 x2 k2 vs q hds => ?_⟩
    show spF ⟨X.K, X.mg⟩ n m (_ :: vs) H2 Q (WE W σ)
    rw [← hT]
    exact call_run (b1.ext x2) (.cons (hd'.ext x2) hds) (kE.mono k2 fun d F3 B3 H3 x3 k3 v p hd nd new => k3 v p hd nd fun a m => (x1.trans x2).h.free (new a m))
theorem ev_meth0 {pl : Sem Bool} {f C : Addr} {fd : FuncData} {ps : List Str} (hC : X.mg c = some (.ref C)) (hcl : Cls X.K C) (hme : Meth X.K C mn f) (F0 : FnOk X.prog X.w X.K X.mg X.base (L2.CX X.prog X.w) k f fd ps (spF ⟨X.K, X.mg⟩ n m)) (hb : Binds X.K fd ps [])
    (hT : G.T = ⟨X.K, X.mg⟩) (hr : Room k X.A) (tk : Takes X W) (ho : EB G X W o fo)
    (ht : eval (.Call (.Attribute o mn apos) [] [] pos) X.env = (do
      let ov ← eval o X.env
      standAt apos.atName
      let (f, first) ← holding [ov] (getMethod ov mn pl)
      callWith pos f first (backTo pos (starEach [] X.env)) (backToKw pos (keywordEach [] X.env))) := by rfl) :
    EV G X W (.Call (.Attribute o mn apos) [] [] pos) (eMeth c mn n m fo aNil) := by
  refine pe_pre (pe_methS0 ho hcl hme F0 hr hb (passAt tk) ht) fun σ H Q ⟨ρ, F, B, rel, k⟩ => ⟨ρ, F, B, rel, (kE.bind k).mono fun d F1 B1 H1 x1 k1 v p hd => ?_⟩
  cases d <;> first | exact k1.elim | skip
  rename_i c' fds
  obtain ⟨⟨ec, el⟩, q1⟩ := kE.ite k1
  clear k1
  subst ec
  have b1 := rel.base.ext x1
  have hd' := hd
  cases hd with
  | ins e m' n' hh cc =>
    have eC : G.T.mg c' = some (.ref C) := by rw [hT]; exact hC
    have g := m'.g
    rw [eC] at g
    cases g
    refine ⟨_, _, _, rfl, b1.bh _ _ (b1.fb _ _ e), lookup_none n' (Option.isNone_iff_eq_none.mp el), ?_⟩
    show spF ⟨X.K, X.mg⟩ n m [_] H1 Q (WE W σ)
    rw [← hT]
    exact call_run b1 (.cons hd' .nil) (kE.mono q1 fun d F3 B3 H3 x3 k3 v p hd nd new => k3 v p hd nd fun a m => x1.h.free (new a m))
end

/-! ### an instance that is made -/
def putD (f : Str) (d : D) : List (Str × D) → List (Str × D)
  | [] => [(f, d)]
  | (g, x) :: r => if g = f then (g, d) :: r else (g, x) :: putD f d r
section
variable {T : Tx} {F B H : Hp}
theorem putD_dats {f : Str} {v : V} {d : D} (hd : Dat T F B H v d []) : ∀ {fvs : List (Str × V)} {fs : List (Str × D)}, fvs.map (·.1) = fs.map (·.1) → Dats T F B H (fvs.map (·.2)) (fs.map (·.2)) [] →
    (putF f v fvs).map (·.1) = (putD f d fs).map (·.1) ∧ Dats T F B H ((putF f v fvs).map (·.2)) ((putD f d fs).map (·.2)) []
  | [], [], _, _ => ⟨rfl, .cons0 hd .nil⟩
  | [], _ :: _, e, _ => by cases e
  | _ :: _, [], e, _ => by cases e
  | (g, v') :: fvs, (g', d') :: fs, e, h => by
    obtain ⟨e1, e2⟩ := List.cons.inj e
    have e1 : g = g' := e1
    subst e1
    obtain ⟨w, ws, e3, h1, h2⟩ := Dats.uncons0 (ds := fs.map (·.2)) (d := d') h
    obtain ⟨rfl, rfl⟩ := List.cons.inj e3
    unfold putF putD
    by_cases c : g = f
    · rw [if_pos c, if_pos c]
      exact ⟨congrArg (g :: ·) e2, .cons0 hd h2⟩
    · rw [if_neg c, if_neg c]
      obtain ⟨i1, i2⟩ := putD_dats hd e2 h2
      exact ⟨congrArg (g :: ·) i1, .cons0 h1 i2⟩
theorem putD_pure {f : Str} {d : D} (h1 : d.dup = true) (h2 : d.ret = true) : ∀ {fs : List (Str × D)}, D.pureAll (fs.map (·.2)) = true → D.pureAll ((putD f d fs).map (·.2)) = true
  | [], _ => by
    show (D.dupAll [d] && D.retAll [d]) = true
    show ((d.dup && true) && (d.ret && true)) = true
    rw [h1, h2]; rfl
  | (g, x) :: r, h => by
    obtain ⟨a, b⟩ := Bool.and_eq_true_iff.mp h
    obtain ⟨a1, a2⟩ := Bool.and_eq_true_iff.mp (show (x.dup && D.dupAll (r.map (·.2))) = true from a)
    obtain ⟨b1, b2⟩ := Bool.and_eq_true_iff.mp (show (x.ret && D.retAll (r.map (·.2))) = true from b)
    unfold putD
    by_cases c : g = f
    · rw [if_pos c]
      exact Bool.and_eq_true_iff.mpr ⟨Bool.and_eq_true_iff.mpr ⟨h1, a2⟩, Bool.and_eq_true_iff.mpr ⟨h2, b2⟩⟩
    · rw [if_neg c]
      obtain ⟨p1, p2⟩ := Bool.and_eq_true_iff.mp (putD_pure h1 h2 (f := f) (Bool.and_eq_true_iff.mpr ⟨a2, b2⟩))
      exact Bool.and_eq_true_iff.mpr ⟨Bool.and_eq_true_iff.mpr ⟨a1, p1⟩, Bool.and_eq_true_iff.mpr ⟨b1, p2⟩⟩
theorem putD_keys {f : Str} {d : D} : ∀ {fs : List (Str × D)} {g : Str}, g ∈ (putD f d fs).map (·.1) → g = f ∨ g ∈ fs.map (·.1)
  | [], g, h => .inl (by simpa [putD] using h)
  | (k, x) :: r, g, h => by
    unfold putD at h
    by_cases c : k = f
    · rw [if_pos c] at h
      exact .inr h
    · rw [if_neg c] at h
      rcases List.mem_cons.mp h with h | h
      · exact .inr (by rw [h]; exact List.mem_cons_self)
      · exact (putD_keys h).imp id fun z => List.mem_cons_of_mem _ z
end
def fldK (f : Str) (ρ : Rho) (d : D) : Out := match ρ[(0 : Nat)]? with
  | some (some (D.obj c fs)) => if d.dup = true ∧ d.ret = true ∧ fs.length < 1000 then .next (ρ.set 0 (some (.obj c (putD f d fs)))) else .stuck
  | _ => .stuck
def sFld (c f : Str) (fe : Rho → Res D) : Rho → Out := fun ρ => match ρ[(0 : Nat)]? with
  | some (some (D.obj c' _)) => if c' = c then oBind (fe ρ) ρ (fldK f ρ) else .stuck
  | _ => .stuck
section
variable {G : Gam} {W : WX} {X : L2.Cx} {F B H F' B' H' : Hp} {σ : L2.St} {ρ : Rho} {D' : Ends} {e o : Expr} {fe : Rho → Res D} {pos p apos : Pos} {x c mn : Str} {k n : Nat}
theorem ss_fld {f : Str} {p1 p2 : Pos} (hK : X.K = G.K) (hn : ∀ C, G.mg c = some (.ref C) → NoAttr G.K C f) (he : EV G X W e fe) (hi : X.N[0]? = some x := by rfl) (hv : Vis X.env.scope x := by first | exact Or.inl rfl | exact Or.inr (Or.inl rfl) | exact Or.inr (Or.inr rfl))
    (hd : (x == ("__debug__" : Str)) = false := by decide) (hcd : (x == ("__classdict__" : Str)) = false := by decide) (hs : swapsWith e (some (.Attribute (.Name x p1) f p2)) pos.line X.env = pure false := by rfl) :
    SS G X W (.Assign [.Attribute (.Name x p1) f p2] e pos) (sFld c f fe) :=
  ps_pre (ps_fld (pe_var hi hv hd hcd) he hs) fun D' σ H ⟨ρ, F, B, rel, k⟩ => by
    unfold sFld at k
    split at k
    · rename_i c' fs0 en
      by_cases ec : c' = c
      · rw [if_pos ec] at k
        subst ec
        refine ⟨ρ, F, B, rel, (kS.bind rel k).mono fun d F1 B1 H1 x1 k1 v p hd nd new => ?_⟩
        unfold fldK at k1
        rw [en] at k1
        have k1 : kS G W D' (if d.dup = true ∧ d.ret = true ∧ fs0.length < 1000 then .next (ρ.set 0 (some (.obj c' (putD f d fs0)))) else .stuck) := k1
        by_cases c : d.dup = true ∧ d.ret = true ∧ fs0.length < 1000
        · rw [if_pos c] at k1
          obtain ⟨c1, c2, c3⟩ := c
          obtain rfl := hd.fp_dup c1
          obtain ⟨fp, s, nds⟩ := rel.slots
          have s1 := s.ext x1
          cases s1 with
          | nil => simp at en
          | un _ => simp at en
          | val hd0 t =>
            simp at en
            subst en
            cases hd0 with
            | @obj a C dx _ fvs _ ea eb m ek es ep =>
              refine ⟨.ref a, by simp, a, C, dx, fvs, rfl, ea, by rw [hK]; exact m.cls, by rw [hK]; exact hn C m.g, by have w := congrArg List.length ek; rw [List.length_map, List.length_map] at w; omega, ?_⟩
              obtain ⟨p1, p2⟩ := putD_dats (f := f) hd ek es
              have ne : ∀ b ∈ ([] : List Addr), False := fun _ z => nomatch z
              obtain ⟨n1, n2, n3⟩ := List.nodup_append.mp nds
              refine k1 _ F1 B1 (upd H1 a (.ins C dx (putF f v fvs))) ⟨((rel.ext x1).base).upd eb, ⟨_, .val (.obj upd_same eb ⟨m.g, m.cls, fun g hg => ?_⟩ p1 (p2.stay (.refl _) (.refl _) fun _ z => nomatch z) (putD_pure c1 c2 ep)) (t.stay (.refl _) (.refl _) fun b z => ⟨upd_ne fun e => n3 a List.mem_cons_self b z e.symm, (t.foot b z).2⟩), nds⟩, rel.pin⟩
              rcases putD_keys hg with rfl | hg
              · exact hn C m.g
              · exact m.no g hg
        · rw [if_neg c] at k1; exact k1.elim
      · rw [if_neg ec] at k; exact k.elim
    · exact k.elim
end
end DH
namespace DH
open PySem L2

def hideH (x : Addr) (H : Hp) : Hp := fun a => if a = x then none else H a
theorem hideH_ne {x a : Addr} {H : Hp} (h : a ≠ x) : hideH x H a = H a := if_neg h
theorem hideH_same {x : Addr} {H : Hp} : hideH x H x = none := if_pos rfl
theorem hideH_sub {x : Addr} {H : Hp} : Same (hideH x H) H := fun a o e => by
  by_cases h : a = x
  · subst h; rw [hideH_same] at e; cases e
  · rw [hideH_ne h] at e; exact e
/-- what an __init__ promises: the fields of the instance -/
def spI (T : Tx) (c : Str) (n : Nat) (m : List D → Res (List (Str × D))) : Sp := fun vs H Q E => ∃ (x dx C : Addr) (vs' : List V) (F : Hp) (ds : List D), vs = .ref x :: vs' ∧ H x = some (.ins C dx []) ∧ F x = none ∧ Same F H ∧ T.mg c = some (.ref C) ∧ Cls T.K C ∧
  Dats T F (hideH x H) H vs' ds [] ∧ ds.length = n ∧ match m ds with
  | .ok fs => ∀ fvs C' dx' F' H', Same F F' → Same F' H' → Same (hideH x H) H' → (∀ a, H a ≠ none → F' a = F a) → H' x = some (.ins C' dx' fvs) → ClsAt T c C' (fs.map (·.1)) → fvs.map (·.1) = fs.map (·.1) → Dats T F' F' H' (fvs.map (·.2)) (fs.map (·.2)) [] → D.pureAll (fs.map (·.2)) = true → Q .non H'
  | .err c fs => ∀ cv y H', Same (hideH x H) H' → ExcAt T c fs cv y H' → E cv y H'
  | .stuck => False
/-- an __init__'s mirror -/
def endI (c : Str) : Option (Option D) → Res (List (Str × D))
  | some (some (.obj c' fs)) => if c' = c then .ok fs else .stuck
  | _ => .stuck
def runI (f : Rho → Out) (c : Str) (n : Nat) (ds : List D) : Res (List (Str × D)) := match f ((some (.obj c []) :: ds.map some) ++ List.replicate n none) with
  | .next ρ' => endI c ρ'[(0 : Nat)]?
  | .err c fs _ => .err c fs
  | _ => .stuck
section
open PySem.Spec PyProof.Rows
variable {P : Program} {w : World} {K : PySem.W.Frag} {mg : Str → Option Value} {base : Heap}
theorem in_mk {xn qual c : Str} {st : Stmt} {fa : Addr} {fd : FuncData} {N ps : List Str} {self : Str} {k : Nat} {f : Rho → Out} (F : Fun K xn qual st fa fd) (S : FnScope N (self :: ps) (defScope st))
    (hbody : ∀ (cdv : Value) (A : Around) (outer : List Env) (s : Shared) (H H0 F0 : Hp) (E : XK) (x0 : Addr), Room k (A.deeper (envOfC qual (defScope st) s.heap.objs.size fa cdv)) →
      Takes (cxOf (L2.CX P w) P w K mg base N qual (defScope st) fa cdv A outer s H E) (fun cls d _ H => E cls d H) →
      SB ⟨⟨K, mg⟩, H0, F0, some (0, x0)⟩ (cxOf (L2.CX P w) P w K mg base N qual (defScope st) fa cdv A outer s H E) (fun cls d _ H => E cls d H) (defBody st) f) :
    FnOk P w K mg base (L2.CX P w) (k + 1) fa fd (self :: ps) (spI ⟨K, mg⟩ c ps.length (runI f c (N.length - (self :: ps).length))) := by
  refine F.okX S (fun vs H Q E h => ?_) (fun cdv A outer s H vs Q E hr h => ?_)
  · obtain ⟨x, dx, C, vs', F, ds, rfl, _, _, _, _, _, hd, hl, _⟩ := h
    show vs'.length + 1 = ps.length + 1
    rw [hd.length, hl]
  · obtain ⟨x, dx, C, vs', F, ds, rfl, hx, fx, sf, gC, cl, hd, hl, k⟩ := h
    refine ⟨_, hbody cdv A outer s H (hideH x H) F E x hr (takes_of rfl rfl rfl rfl), ?_⟩
    have sfh : Same F (hideH x H) := fun a o e => by rw [hideH_ne (fun z => by rw [z, fx] at e; cases e)]; exact sf a o e
    have hl' : (V.ref x :: vs').length = (self :: ps).length := by show vs'.length + 1 = ps.length + 1; rw [hd.length, hl]
    refine ⟨(some (.obj c []) :: ds.map some) ++ List.replicate (N.length - (self :: ps).length) none, F, hideH x H, ⟨⟨.refl _, sfh, hideH_sub, .refl _, fun _ _ => rfl⟩, ⟨[x] ++ [], ?_, nd1 x⟩, rfl⟩, ?_⟩
    · unfold L2.start
      rw [hl']
      exact Slots.val (.obj hx hideH_same ⟨gC, cl, fun _ z => nomatch z⟩ rfl .nil rfl) (slots_args hd)
    · unfold runI at k
      cases z : f ((some (.obj c []) :: ds.map some) ++ List.replicate (N.length - (self :: ps).length) none) with
      | next ρ' =>
        rw [z] at k
        intro σ F' B' H' r
        obtain ⟨fp, s, nd⟩ := r.slots
        cases s with
        | nil => exact k.elim
        | un _ => exact k.elim
        | @val v0 d0 σ0 ρ0 p0 q0 h0 t0 =>
          cases d0 <;> first | exact k.elim | skip
          rename_i c' fs'
          have ep : (σ0 : L2.St) = σ0 := rfl
          have e0 : (some v0 :: σ0 : L2.St)[(0 : Nat)]? = some (some (V.ref x)) := r.pin
          simp at e0
          subst e0
          cases h0 with
          | @obj a C' dx' _ fvs _ ea eb m ek es ec =>
            by_cases ecc : c' = c
            · subst ecc
              have k : match (if c' = c' then Res.ok fs' else .stuck) with
                | .ok fs => ∀ fvs C' dx' F' H', Same F F' → Same F' H' → Same (hideH x H) H' → (∀ a, H a ≠ none → F' a = F a) → H' x = some (.ins C' dx' fvs) → ClsAt ⟨K, mg⟩ c' C' (fs.map (·.1)) → fvs.map (·.1) = fs.map (·.1) → Dats ⟨K, mg⟩ F' F' H' (fvs.map (·.2)) (fs.map (·.2)) [] → D.pureAll (fs.map (·.2)) = true → Q .non H'
                | .err c fs => ∀ cv y H', Same (hideH x H) H' → ExcAt ⟨K, mg⟩ c fs cv y H' → E cv y H'
                | .stuck => False := k
              rw [if_pos rfl] at k
              refine k fvs C' dx' F' H' r.base.f0 (r.base.fb.trans r.base.bh) (r.base.h0.trans r.base.bh) (fun a n => ?_) ea m ek (es.back r.base.fb (Bool.and_eq_true_iff.mp ec).2) ec
              by_cases hax : a = x
              · rw [hax, fx]
                exact r.base.fb.free eb
              · exact r.base.of0 a (show hideH x H a ≠ none by rw [hideH_ne hax]; exact n)
            · have k : match (if c' = c then Res.ok fs' else .stuck) with
                | .ok fs => ∀ fvs C' dx' F' H', Same F F' → Same F' H' → Same (hideH x H) H' → (∀ a, H a ≠ none → F' a = F a) → H' x = some (.ins C' dx' fvs) → ClsAt ⟨K, mg⟩ c C' (fs.map (·.1)) → fvs.map (·.1) = fs.map (·.1) → Dats ⟨K, mg⟩ F' F' H' (fvs.map (·.2)) (fs.map (·.2)) [] → D.pureAll (fs.map (·.2)) = true → Q .non H'
                | .err c fs => ∀ cv y H', Same (hideH x H) H' → ExcAt ⟨K, mg⟩ c fs cv y H' → E cv y H'
                | .stuck => False := k
              rw [if_neg ecc] at k
              exact k.elim
      | ret d => rw [z] at k; exact k.elim
      | brk ρ' => rw [z] at k; exact k.elim
      | cnt ρ' => rw [z] at k; exact k.elim
      | err c fs ρ' =>
        rw [z] at k
        exact fun cv x σ F' B' H' r ea => k cv x H' (r.base.h0.trans r.base.bh) ea
      | stuck => rw [z] at k; exact k.elim
end
def makeD (c : Str) (n : Nat) (m : List D → Res (List (Str × D))) (ds : List D) : Res D := if ds.length = n ∧ D.lenAll ds = true then (m (D.lendAll ds)).bind fun fs => .ok (.ins c fs) else .stuck
def eMake (c : Str) (n : Nat) (m : List D → Res (List (Str × D))) (fs : Rho → Res (List D)) : Rho → Res D := fun ρ => (fs ρ).bind (makeD c n m)
section
variable {G : Gam} {W : WX} {X : L2.Cx} {F B H F' B' H' : Hp} {σ : L2.St} {ρ : Rho} {e : Expr} {es : List Expr} {fs : Rho → Res (List D)} {pos p : Pos} {c x : Str} {m : List D → Res (List (Str × D))} {k n : Nat} {f C : Addr} {fd : FuncData} {ps : List Str}
theorem ev_make (M : Mk X.K C f) (F0 : FnOk X.prog X.w X.K X.mg X.base (L2.CX X.prog X.w) k f fd ps (spI ⟨X.K, X.mg⟩ c n m)) (hC : X.mg c = some (.ref C)) (hcl : Cls X.K C) (hb : Binds X.K fd ps []) (hT : G.T = ⟨X.K, X.mg⟩) (hr : Room (k + 1) X.A) (tk : Takes X W)
    (ha : EA G X W (e :: es) fs) (hg : Gl X c := by rfl) (hdb : (c == ("__debug__" : Str)) = false := by decide) (he : starEach (e :: es) X.env = (false, eval e X.env) :: starEach es X.env := by rfl) (hpl : (backTo pos (starEach es X.env)).any (·.1) = false := by rfl) :
    EV G X W (.Call (.Name c p) (e :: es) [] pos) (eMake c n m fs) := by
  refine pe_pre (pe_makeS M F0 hr hg hC hb (passAt tk) ha hdb he hpl) fun σ H Q ⟨ρ, F, B, rel, k⟩ => ⟨ρ, F, B, rel, (kE.bind k).mono fun ds F1 B1 H1 x1 k1 vs q hs x dx nx ndx nxd => ?_⟩
  have b1 := rel.base.ext x1
  obtain ⟨⟨hl, cc⟩, k1⟩ := kE.ite k1
  have nF : F1 x = none := b1.fb.free (b1.bh.free nx)
  have s1 : Same H1 (upd (upd H1 dx (.own x)) x (.ins C dx [])) := (same_upd ndx).trans (same_upd (by rw [upd_ne nxd.symm]; exact nx))
  have s2 : Same H1 (hideH x (upd (upd H1 dx (.own x)) x (.ins C dx []))) := fun a o e => by rw [hideH_ne (ne_of_none e nx)]; exact s1 a o e
  refine ⟨x, dx, C, vs, F1, D.lendAll ds, rfl, upd_same, nF, (b1.fb.trans b1.bh).trans s1, hC, hcl, ?_, by rw [lendAll_length]; exact hl, ?_⟩
  · rw [← hT]
    exact (hs.lent (.refl _) (b1.bh.trans s2) cc fun a z => (by
      have w := (hs.foot a z).1
      cases y : H1 a with
      | none => exact absurd y w
      | some o => exact s2 a o y))
  · cases z : m (D.lendAll ds) with
    | ok fs =>
      rw [z] at k1
      intro fvs C' dx' F' H' h1 h2 h3 h4 h5 h6 h7 h8 h9
      refine ⟨rfl, ?_⟩
      have nx' : F' x = none := by rw [h4 x (by rw [upd_same]; exact fun q => nomatch q)]; exact nF
      have sF : Same F' (upd F' x (.ins C' dx' fvs)) := same_upd nx'
      have ex : Ext F1 B1 H1 (upd F' x (.ins C' dx' fvs)) (joinH B1 (upd F' x (.ins C' dx' fvs))) H' := by
        refine Ext.called b1.fb b1.bh (h1.trans sF) (fun a o e => ?_) (s2.trans h3) fun a na => ?_
        · by_cases hax : a = x
          · subst hax; rw [upd_same] at e; cases e; exact h5
          · rw [upd_ne hax] at e; exact h2 a o e
        · have hax : a ≠ x := fun z => na (by rw [z]; exact nx)
          rw [upd_ne hax]
          refine h4 a ?_
          cases y : H1 a with
          | none => exact absurd y na
          | some o => rw [s1 a o y]; exact fun q => nomatch q
      rw [← hT] at h6 h8
      exact k1 _ _ H' ex (.ref x) [] (.ins upd_same h6 h7 (h8.stay sF ((sF).trans ex.fb) fun _ z => nomatch z) h9) List.nodup_nil fun _ z => nomatch z
    | err c fs =>
      rw [z] at k1
      refine fun cv y H' s ea => k1 cv y F1 B1 H' ⟨.refl _, .refl _, s2.trans s, b1.fb, b1.bh.trans (s2.trans s), fun _ _ => rfl, fun _ _ => rfl⟩ (by rw [hT]; exact ea)
    | stuck => rw [z] at k1; exact k1
end
end DH
namespace DH
open PySem L2

abbrev veL : List Value := [.type "ValueError", .type "Exception", .type "BaseException", .type "object"]
/-- an own exception class without __init__ -/
structure Ex0 (K : PySem.W.Frag) (mg : Str → Option Value) (x : Str) (C : Addr) : Prop where
  g : mg x = some (.ref C)
  ex : PySem.W.excIn K C veL "ValueError.__new__" = true
  kp : PySem.W.keepIn K (.ref C) = true
  sub : PySem.W.subIn K (.ref C) (.type "BaseException") = some true
  ty : PySem.W.typeIn K (.ref C) = some (.type "type")
def sRaise0 (c : Str) : Rho → Out := fun ρ => .err c [] ρ
section
variable {G : Gam} {W : WX} {X : L2.Cx} {F B H F' B' H' : Hp} {σ : L2.St} {ρ : Rho} {D' : Ends} {e o : Expr} {es : List Expr} {fe : Rho → Res D} {fs : Rho → Res (List D)} {pos p p2 pos2 : Pos} {c x m : Str} {j k n : Nat} {C : Addr}
theorem ss_raise0 (E : Ex0 X.K X.mg x C) (hT : G.T = ⟨X.K, X.mg⟩) (hc : X.calm = true) (tk : Takes X W) (hg : Gl X x := by rfl) (hdb : (x == ("__debug__" : Str)) = false := by decide) :
    SS G X W (.Raise (some (.Call (.Name x p) [.Constant (.str m) j p2] [] pos)) none pos2) (sRaise0 x) :=
  ps_pre (ps_raise hc tk (pmk_own PySem.F.excBase_ValueError E.ex E.g E.kp (raises_own E.sub E.ty) hg hdb)) fun D' σ H ⟨ρ, F, B, rel, k⟩ => k (.ref C) none σ F B H rel ⟨C, by rw [hT]; exact E.g, rfl, rfl⟩

/-- what the __init__ of an own exception leaves -/
def spX (K : PySem.W.Frag) (fl : List Str) : Sp := fun vs H Q _ => ∃ (a C : Addr) (ys : List V), vs = .ref a :: ys ∧ ys.length = fl.length ∧ OexC K C ∧ (∀ f ∈ fl, PySem.W.findIn K (.ref C) f = some none) ∧ H a = some (exo a C none) ∧
  ∀ dx H', H dx = none → dx ≠ a → H' a = some (exo a C (some dx)) → H' dx = some (exd dx (fl.zip ys).reverse) → (∀ b, b ≠ a → b ≠ dx → H' b = H b) → Q .non H'
/-- an own exception class whose __init__ keeps its arguments -/
structure ExN (P : Program) (w : World) (K : PySem.W.Frag) (mg : Str → Option Value) (base : Heap) (x : Str) (C : Addr) (fl : List Str) : Prop where
  g : mg x = some (.ref C)
  ox : OexC K C
  no : ∀ f ∈ fl, PySem.W.findIn K (.ref C) f = some none
  ini : ∃ fI fd ps, PySem.W.findIn K (.ref C) "__init__" = some (some (.ref fI)) ∧ PySem.W.typeIn K (.ref fI) = some (.type "function") ∧ FnOk P w K mg base (L2.CX P w) 1 fI fd ps (spX K fl) ∧ Binds K fd ps []
def sVs : List D → Option (List V)
  | [] => some []
  | d :: ds => (sV d).bind fun v => (sVs ds).map (v :: ·)
theorem sVs_of {T : Tx} : ∀ {ds : List D} {vs ws : List V} {p : List Addr}, Dats T F B H vs ds p → sVs ds = some ws → vs = ws
  | [], _, _, _, h, e => by
    cases e
    exact h.unnil.1
  | d :: ds, _, _, _, h, e => by
    obtain ⟨v, us, p, q, rfl, _, h1, h2⟩ := h.uncons
    unfold sVs at e
    cases z : sV d with
    | none => rw [z] at e; cases e
    | some v' =>
      rw [z] at e
      cases z2 : sVs ds with
      | none => rw [z2] at e; cases e
      | some us' =>
        rw [z2] at e
        cases e
        rw [Dat.sV (G := ⟨T, F, F, none⟩) h1 z, sVs_of h2 z2]
def raiseK (c : Str) (fl : List Str) (ρ : Rho) (ds : List D) : Out := match sVs ds with
  | some vs => if vs.length = fl.length ∧ fl.length < 900 ∧ 0 < fl.length then .err c (fl.zip vs).reverse ρ else .stuck
  | none => .stuck
def sRaise (c : Str) (fl : List Str) (fs : Rho → Res (List D)) : Rho → Out := fun ρ => oBind (fs ρ) ρ (raiseK c fl ρ)
theorem ss_raise {fl : List Str} (E : ExN X.prog X.w X.K X.mg X.base x C fl) (hT : G.T = ⟨X.K, X.mg⟩) (hc : X.calm = true) (hr : Room 2 X.A) (tk : Takes X W) (ha : EA G X W (e :: es) fs) (hg : Gl X x := by rfl) (hdb : (x == ("__debug__" : Str)) = false := by decide)
    (he : starEach (e :: es) X.env = (false, eval e X.env) :: starEach es X.env := by rfl) (hpl : (backTo pos (starEach es X.env)).any (·.1) = false := by rfl) :
    SS G X W (.Raise (some (.Call (.Name x p) (e :: es) [] pos)) none pos2) (sRaise x fl fs) := by
  obtain ⟨fI, fd, ps, iC, tI, F1, hb⟩ := E.ini
  refine ps_pre (ps_raise hc tk (pmk_oex E.ox iC tI F1 hr hb .nil passL hg E.g ha hdb he hpl)) fun D' σ H ⟨ρ, F, B, rel, k⟩ => ⟨ρ, F, B, rel, (kS.bind rel k).mono fun ds F1 B1 H1 x1 k1 vs p hd => ?_⟩
  unfold raiseK at k1
  split at k1
  · rename_i ws ew
    obtain rfl := sVs_of hd ew
    by_cases c : vs.length = fl.length ∧ fl.length < 900 ∧ 0 < fl.length
    · rw [if_pos c] at k1
      refine ⟨by omega, fun a na => ⟨a, C, vs, by rw [List.append_nil], c.1, E.ox, E.no, upd_same, fun dx H' nd nda e1 e2 e3 => ⟨rfl, dx, (fl.zip vs).reverse, e1, e2, ?_, ?_⟩⟩⟩
      · rw [upd_ne nda] at nd
        exact nd
      · rw [upd_ne nda] at nd
        have s1 : Same H1 (upd (del H' a) dx (.xd (fl.zip vs).reverse)) := fun b o y => by
          have hb1 := ne_of_none y na
          have hb2 := ne_of_none y nd
          rw [upd_ne hb2, del_ne hb1, e3 b hb1 hb2, upd_ne hb1]
          exact y
        have b1 := rel.base.ext x1
        refine k1 (.ref C) (some dx) σ F1 B1 _ ((rel.ext x1).ext ⟨.refl _, .refl _, s1, b1.fb, b1.bh.trans s1, fun _ _ => rfl, fun _ _ => rfl⟩) ⟨C, by rw [hT]; exact E.g, rfl, ?_⟩
        cases z : (fl.zip vs).reverse with
        | nil =>
          have w : min fl.length vs.length = 0 := by rw [← List.length_zip, ← List.length_reverse, z]; rfl
          omega
        | cons f r => exact ⟨dx, rfl, upd_same⟩
    · rw [if_neg c] at k1; exact k1.elim
  · exact k1.elim
end
section
open PySem.Spec PyProof.Rows
variable {P : Program} {w : World} {K : PySem.W.Frag} {mg : Str → Option Value} {base : Heap}
theorem ex_mk1 {xn qual f : Str} {st : Stmt} {fa : Addr} {fd : FuncData} {a b : Str} (F : Fun K xn qual st fa fd) (S : FnScope [a, b] [a, b] (defScope st))
    (hbody : ∀ (cdv : Value) (A : Around) (outer : List Env) (s : Shared) (H : Hp) (E : XK), PSs (cxOf (L2.CX P w) P w K mg base [a, b] qual (defScope st) fa cdv A outer s H E) (defBody st) (tOst K f (tVar 0) (tVar 1))) :
    FnOk P w K mg base (L2.CX P w) 1 fa fd [a, b] (spX K [f]) := by
  refine F.okX S (fun vs H Q E h => ?_) (fun cdv A outer s H vs Q E hr h => ⟨_, hbody cdv A outer s H E, ?_⟩)
  · obtain ⟨x, C, ys, rfl, hl, _⟩ := h
    show ys.length + 1 = 2
    rw [hl]; rfl
  · obtain ⟨x, C, ys, rfl, hl, ox, no, hx, k⟩ := h
    match ys, hl with
    | [y], _ =>
      refine ⟨y, rfl, .ref x, rfl, x, C, rfl, ox, no f (by simp), .inl ⟨hx, fun dx nd ne => k dx _ nd ne upd_same ?_ fun c h1 h2 => ?_⟩⟩
      · rw [upd_ne ne, upd_same]; rfl
      · rw [upd_ne h1, upd_ne h2]
theorem ex_mk2 {xn qual f g : Str} {st : Stmt} {fa : Addr} {fd : FuncData} {a b c : Str} (F : Fun K xn qual st fa fd) (S : FnScope [a, b, c] [a, b, c] (defScope st))
    (hbody : ∀ (cdv : Value) (A : Around) (outer : List Env) (s : Shared) (H : Hp) (E : XK), PSs (cxOf (L2.CX P w) P w K mg base [a, b, c] qual (defScope st) fa cdv A outer s H E) (defBody st) (tSeq (tOst K f (tVar 0) (tVar 1)) (tOst K g (tVar 0) (tVar 2)))) :
    FnOk P w K mg base (L2.CX P w) 1 fa fd [a, b, c] (spX K [f, g]) := by
  refine F.okX S (fun vs H Q E h => ?_) (fun cdv A outer s H vs Q E hr h => ⟨_, hbody cdv A outer s H E, ?_⟩)
  · obtain ⟨x, C, ys, rfl, hl, _⟩ := h
    show ys.length + 1 = 3
    rw [hl]; rfl
  · obtain ⟨x, C, ys, rfl, hl, ox, no, hx, k⟩ := h
    match ys, hl with
    | [y, z], _ =>
      refine ⟨y, rfl, .ref x, rfl, x, C, rfl, ox, no f (by simp), .inl ⟨hx, fun dx nd ne => ?_⟩⟩
      have e1 : (upd (upd H dx (exd dx [(f, y)])) x (exo x C (some dx))) dx = some (exd dx [(f, y)]) := by rw [upd_ne ne, upd_same]
      refine ⟨z, rfl, .ref x, rfl, x, C, rfl, ox, no g (by simp), .inr ⟨dx, [(f, y)], upd_same, e1, (by simp), k dx _ nd ne ?_ upd_same fun c h1 h2 => ?_⟩⟩
      · rw [upd_ne ne.symm, upd_same]
      · rw [upd_ne h2, upd_ne h1, upd_ne h2]
end
end DH
namespace DH
open PySem L2
section
open PySem.Spec PyProof.Rows
/-- an except clause: its class, the slot of its name, its suite -/
abbrev Cl := Value × Option Nat × (Addr → Value → Option Addr → TS)
def endsA (D : Ends) : Option Nat → Ends
  | none => D
  | some i => { nx := fun σ' H' => D.nx (σ'.set i none) H', rt := D.rt, bk := fun σ' H' => D.bk (σ'.set i none) H', ct := fun σ' H' => D.ct (σ'.set i none) H' }
def slotA (σ : L2.St) (a : Addr) : Option Nat → L2.St
  | none => σ
  | some i => σ.set i (some (.ref a))
def wManyA (K : PySem.W.Frag) (Wout : WX) (D : Ends) : List Cl → WX
  | [] => Wout
  | (c, o, ts) :: r => fun cls d σ H => ∃ b, PySem.W.exmOne K cls c = some b ∧ (b = true → ∀ a, H a = none → ts a cls d (endsA D o) (slotA σ a o) H) ∧ (b = false → wManyA K Wout D r cls d σ H)
inductive HdsA (X : L2.Cx) : List ExceptHandler → List Cl → Prop
  | nil : HdsA X [] []
  | cons {x : Str} {c : Value} {ts : Addr → Value → Option Addr → TS} {b₀ : Stmt} {suite : List Stmt} {np pos' : Pos} {hds : List ExceptHandler} {l : List Cl} (hc : Names X x c)
      (hsu : ∀ (a : Addr) (oe : Obj) (cls : Value) (d : Option Addr) (pn : List (Addr × Obj)), Zc cls d oe → (∃ vs, oe.data = .fields vs) → PSs (X.suite a ((a, oe) :: pn)) (b₀ :: suite) (ts a cls d)) (r : HdsA X hds l) :
      HdsA X (.ExceptHandler (some (.Name x np)) none (b₀ :: suite) pos' :: hds) ((c, none, ts) :: l)
  | consA {x n : Str} {i : Nat} {c : Value} {ts : Addr → Value → Option Addr → TS} {b₀ : Stmt} {suite : List Stmt} {np pos' : Pos} {hds : List ExceptHandler} {l : List Cl} (hc : Names X x c) (hi : X.N[i]? = some n) (hln : X.env.kindOf n = some .local)
      (hsu : ∀ (a : Addr) (oe : Obj) (cls : Value) (d : Option Addr) (pn : List (Addr × Obj)), Zc cls d oe → (∃ vs, oe.data = .fields vs) → PSs (X.suite a ((a, oe) :: pn)) (b₀ :: suite) (ts a cls d)) (r : HdsA X hds l) :
      HdsA X (.ExceptHandler (some (.Name x np)) (some n) (b₀ :: suite) pos' :: hds) ((c, some i, ts) :: l)
variable {X : L2.Cx} {body : List Stmt} {h₀ : ExceptHandler} {hds : List ExceptHandler} {l : List Cl} {pos : Pos} {tb : WX → TS} {Wout : WX}
theorem ps_try_A (hs : X.stack = X.env :: X.outer) (hf : X.env.frame = some X.env.locals) (hN : X.N.Nodup) (tk : Takes X Wout)
    (hb : ∀ (W : WX) (pn : List (Addr × Obj)) (xe : Value → Shared → Prop), Takes (X.tr pn xe) W → PassesOwn (model X.prog X.w) X.A X.env xe → PSs (X.tr pn xe) body (tb W))
    (hh : HdsA X (h₀ :: hds) l) : PS X (.Try body (h₀ :: hds) [] [] pos) (fun D σ H => tb (wManyA X.K Wout D l) D σ H) := by
  refine ⟨fun pins s σ H D I h => ?_⟩
  have ok := I.ok
  have hfr : X.A.frames = some (X.env :: X.outer) := by rw [ok.frames, hs]
  refine wpAny_Try_except ?_
  refine wpAny_mono ((hb (wManyA X.K Wout D l) (X.pn ++ pins) (fun e s₁ => wpAny (model X.prog X.w) X.A (noteFrame e X.env) (fun _ s₂ => wpAny (model X.prog X.w) X.A (setFlight e none) (fun _ s₃ =>
    wpAny (model X.prog X.w) X.A (handleBy e X.env (h₀ :: hds)) (SP X pins D) X.xe s₃) X.xe s₂) X.xe s₁) (fun u s' xx => ?_) PassesOwn.looking).run [] s σ H D (I.toTry _) h) (fun f s1 hsp => ?_) (fun e s1 he => he)
  · -- the catch
    obtain ⟨a, B, sI, pins', σ', H', cls, d, rfl, J', nb, up, sky, na, os, ag, w⟩ := xx
    have J : Inv X pins σ' H' sI := J'.ofTry ok
    have sky' : Sky B (X.env :: X.outer) a (Zc cls d) X.env.locals s'.heap := by rw [← hs]; exact sky
    show wpAny (model X.prog X.w) X.A (noteFrame (.ref a) X.env) _ _ _
    refine Sky.land Zc.steady hfr hf sky' fun h3 fl3 up3 => ?_
    have J3 : Inv X pins σ' H' { s' with heap := h3 } := J.landed nb fl3.1 (up.trans up3) os ag
    obtain ⟨oe3, vs3, he3, hz3, hd3⟩ := fl3.there
    have notFr : ∀ {h : Heap} {o : Obj} {vs : Array Value}, h.FunFrames B (X.env :: X.outer) → h.get? a = some o → o.data = .fields vs → a ∉ frs (X.env :: X.outer) := fun {h o vs} ff e dd hm => by
      obtain ⟨_, o', e', hnf⟩ := ff.mem hm
      rw [e] at e'; cases e'
      exact hnf _ dd
    have nfr := notFr fl3.2.2.1 he3 hd3
    have nL : a ≠ X.env.locals := fun z => nfr (List.mem_filterMap.mpr ⟨X.env, List.mem_cons_self, by rw [hf, z]⟩)
    have nF : a ∉ X.fs := fun hm => by
      obtain ⟨e, he, q⟩ := List.mem_filterMap.mp hm
      exact nfr (List.mem_filterMap.mpr ⟨e, List.mem_cons_of_mem _ he, q⟩)
    have S3 := J3.suite he3 hd3 na nL nF
    have go : ∀ {hds' : List ExceptHandler} {l' : List Cl}, HdsA X hds' l' → wManyA X.K Wout D l' cls d σ' H' →
        wpAny (model X.prog X.w) X.A (handleBy (.ref a) X.env hds') (SP X pins D) X.xe { s' with heap := h3 } := by
      intro hds' l' hk
      induction hk with
      | nil =>
        intro w
        refine wpAny_handleBy_nil ?_
        obtain ⟨k1, k2, k3, oe, vs, T, oT, ts', he, hz, hd, h1, hr⟩ := id fl3
        unfold PySem.passOn
        refine wpAny_bind (wpAny_field he hd h1 ?_)
        rw [if_neg (show ¬ ((Value.ref T == Value.none) = true) from by simp)]
        have fin : wpAny (model X.prog X.w) X.A (setFlight (.ref a) X.env.frame) (fun _ s4 => wpAny (model X.prog X.w) X.A (throw (.ref a) : Sem Flow) (SP X pins D) X.xe s4) X.xe { s' with heap := h3 } := by
          rw [hf]
          refine HandSPX.setFlight_upZ fl3 fun h4 hh4 up4 => wpAny_throw (tk _ _ ?_)
          exact ⟨a, B, sI, pins, σ', H', cls, d, rfl, J, nb, (up.trans up3).trans up4, .inr (.inr (by rw [hs]; exact hh4)), na, os, ag, w⟩
        first
          | exact wpAny_bind (wpAny_pure (wpAny_bind fin))
          | exact wpAny_bind fin
      | @cons x c ts b₀ suite np pos' hds2 l2 hc hsu r ih =>
        intro w
        obtain ⟨b, hb1, hyes, hno⟩ := w
        refine wpAny_handleBy_cons (codeAny_handlers_test ?_) (by intro q; cases q)
        have LT : PySem.W.Looks (model X.prog X.w) h3 (typeOf (.ref a)) cls := fun A Q E s k q => wpAny_typeOf_ref (k _ _ he3) (by rw [hz3.1]; exact q)
        have LM := PySem.W.exm_one (M := model X.prog X.w) (J3.kIn) LT hb1
        have test : ∀ {Q : Value → Shared → Prop} {E : Value → Shared → Prop}, Q c { s' with heap := h3 } → wpAny (model X.prog X.w) (X.A.mark (some (.ref a))) (eval (.Name x np) X.env) Q E { s' with heap := h3 } := fun {Q E} q => by
          obtain ⟨hg, hdbg, hm | ⟨hm, hv, hnn⟩⟩ := hc
          · exact ld_glob (X := X.suite a ((a, oe3) :: (X.pn ++ pins))) S3 hg hm q hdbg
          · exact ld_blt (X := X.suite a ((a, oe3) :: (X.pn ++ pins))) S3 hg hm hv q hnn hdbg
        refine test (LM.here ?_)
        cases b with
        | true =>
          refine codeAny_handlers_suite ?_
          refine HandSPX.lands_againZ fl3 fun h4 fl4 up4 => ?_
          have J4 : Inv X pins σ' H' { s' with heap := h4 } := J.landed nb fl4.1 ((up.trans up3).trans up4) os ag
          obtain ⟨oe4, vs4, he4, hz4, hd4⟩ := fl4.there
          have S4 := J4.suite he4 hd4 na nL nF
          refine wpAny_mono ((hsu a oe4 cls d (X.pn ++ pins) hz4 ⟨_, hd4⟩).run [] _ _ H' _ S4 (hyes rfl a na)) (fun f s6 hsp => ?_) (fun _ _ z => False.elim z)
          cases f with
          | next =>
            obtain ⟨σ6, H6, S6, q6⟩ := hsp
            exact ⟨_, _, S6.unsuite ok, q6⟩
          | brk =>
            obtain ⟨σ6, H6, S6, q6⟩ := hsp
            exact ⟨_, _, S6.unsuite ok, q6⟩
          | cont =>
            obtain ⟨σ6, H6, S6, q6⟩ := hsp
            exact ⟨_, _, S6.unsuite ok, q6⟩
          | ret u =>
            obtain ⟨v6, σ6, H6, S6, r6, q6⟩ := hsp
            exact ⟨_, _, _, S6.unsuite ok, r6, q6⟩
        | false =>
          show wpAny _ X.A (handleBy (.ref a) X.env hds2) _ _ _
          exact ih (hno rfl)
      | @consA x n i c ts b₀ suite np pos' hds2 l2 hc hi hln hsu r ih =>
        intro w
        have hloc : Loc X.env.scope n := .inl hln
        obtain ⟨b, hb1, hyes, hno⟩ := w
        refine wpAny_handleBy_cons (codeAny_handlers_test ?_) (by intro q; cases q)
        have LT : PySem.W.Looks (model X.prog X.w) h3 (typeOf (.ref a)) cls := fun A Q E s k q => wpAny_typeOf_ref (k _ _ he3) (by rw [hz3.1]; exact q)
        have LM := PySem.W.exm_one (M := model X.prog X.w) (J3.kIn) LT hb1
        have test : ∀ {Q : Value → Shared → Prop} {E : Value → Shared → Prop}, Q c { s' with heap := h3 } → wpAny (model X.prog X.w) (X.A.mark (some (.ref a))) (eval (.Name x np) X.env) Q E { s' with heap := h3 } := fun {Q E} q => by
          obtain ⟨hg, hdbg, hm | ⟨hm, hv, hnn⟩⟩ := hc
          · exact ld_glob (X := X.suite a ((a, oe3) :: (X.pn ++ pins))) S3 hg hm q hdbg
          · exact ld_blt (X := X.suite a ((a, oe3) :: (X.pn ++ pins))) S3 hg hm hv q hnn hdbg
        refine test (LM.here ?_)
        cases b with
        | true =>
          refine codeAny_handlers_suite_as ?_
          refine HandSPX.lands_againZ fl3 fun h4 fl4 up4 => ?_
          have J4 : Inv X pins σ' H' { s' with heap := h4 } := J.landed nb fl4.1 ((up.trans up3).trans up4) os ag
          obtain ⟨oe4, vs4, he4, hz4, hd4⟩ := fl4.there
          have S4 := J4.suite he4 hd4 na nL nF
          refine store_ok (X := X.suite a ((a, oe4) :: (X.pn ++ pins))) (v := .ref a) S4 hN hi hloc rfl (fun s5 S5 => ?_) (.inr hln)
          refine wpAny_mono ((hsu a oe4 cls d (X.pn ++ pins) hz4 ⟨_, hd4⟩).run [] s5 _ H' _ S5 (hyes rfl a na)) (fun f s6 hsp => ?_) (fun _ _ z => False.elim z)
          have end_ : ∀ {σ6 : L2.St} {H6 : Hp} {Q : Shared → Prop}, Inv (X.suite a ((a, oe4) :: (X.pn ++ pins))) [] σ6 H6 s6 → (∀ s7, Inv X pins (σ6.set i none) H6 s7 → Q s7) →
              wpAny (model X.prog X.w) X.A (do bindName X.env n .none; unbindBehindTheSuite X.env n pos') (fun _ s7 => Q s7) X.xe s6 := fun {σ6 H6 Q} S6 hq => gone_ok (S6.unsuite ok) hN hi hln hq
          cases f with
          | next =>
            obtain ⟨σ6, H6, S6, q6⟩ := hsp
            exact end_ S6 fun s7 J7 => ⟨_, _, J7, q6⟩
          | brk =>
            obtain ⟨σ6, H6, S6, q6⟩ := hsp
            exact end_ S6 fun s7 J7 => ⟨_, _, J7, q6⟩
          | cont =>
            obtain ⟨σ6, H6, S6, q6⟩ := hsp
            exact end_ S6 fun s7 J7 => ⟨_, _, J7, q6⟩
          | ret u =>
            obtain ⟨v6, σ6, H6, S6, r6, q6⟩ := hsp
            exact end_ S6 fun s7 J7 => ⟨_, _, _, J7, r6, q6⟩
        | false =>
          show wpAny _ X.A (handleBy (.ref a) X.env hds2) _ _ _
          exact ih (hno rfl)
    exact go hh w
  · cases f with
    | next =>
      obtain ⟨σ', H', J', q⟩ := hsp
      exact wpAny_execs_nil ⟨σ', H', J'.ofTry ok, q⟩
    | brk =>
      obtain ⟨σ', H', J', q⟩ := hsp
      exact ⟨σ', H', J'.ofTry ok, q⟩
    | cont =>
      obtain ⟨σ', H', J', q⟩ := hsp
      exact ⟨σ', H', J'.ofTry ok, q⟩
    | ret u =>
      obtain ⟨v, σ', H', J', r, q⟩ := hsp
      exact ⟨v, σ', H', J'.ofTry ok, r, q⟩
end

/-! ### try over data -/
/-- a clause: its class, its name's slot, its suite's mirror (over the exception's fields) -/
structure ClD where
  cls : Str
  slot : Option Nat
  f : List (Str × V) → Rho → Out
def rhoA (ρ : Rho) : Option Nat → Rho
  | none => ρ
  | some i => ρ.set i none
/-- a suite returns, or it goes on with its name unbound -/
def behindA (o : Option Nat) : Out → Out
  | .next ρ => .next (rhoA ρ o)
  | .ret d => .ret d
  | _ => .stuck
def slotOk (ρ : Rho) : Option Nat → Bool
  | none => true
  | some i => decide (i < ρ.length)
def handle (sub : Str → Str → Option Bool) (c : Str) (fs : List (Str × V)) (ρ : Rho) : List ClD → Out
  | [] => .err c fs ρ
  | k :: r => match sub c k.cls with
    | some true => if slotOk ρ k.slot then behindA k.slot (k.f fs (rhoA ρ k.slot)) else .stuck
    | some false => handle sub c fs ρ r
    | none => .stuck
def sTry (sub : Str → Str → Option Bool) (f : Rho → Out) (hs : List ClD) : Rho → Out := fun ρ => match f ρ with
  | .err c fs ρ' => handle sub c fs ρ' hs
  | o => o
/-- what the table of classes says is so -/
def SubOk (T : Tx) (sub : Str → Str → Option Bool) : Prop := ∀ c k b, sub c k = some b → ∃ C K, T.mg c = some (.ref C) ∧ T.mg k = some (.ref K) ∧ PySem.W.exmOne T.K (.ref C) (.ref K) = some b
/-- the exception's dict stands from the suite's begin on -/
def XdAt (G : Gam) (fs : List (Str × V)) (d : Option Addr) : Prop := match fs with
  | [] => True
  | f :: r => ∃ dd, d = some dd ∧ ∀ H, Same G.H0 H → H dd = some (.xd (f :: r))
section
variable {G : Gam} {W : WX} {X : L2.Cx} {F B H F' B' H' : Hp} {σ : L2.St} {ρ : Rho} {D' : Ends} {e o : Expr} {body : List Stmt} {f : Rho → Out} {pos : Pos} {h₀ : ExceptHandler} {hds : List ExceptHandler} {sub : Str → Str → Option Bool}
/-- the clauses' derivations -/
inductive HdsD (sub : Str → Str → Option Bool) (G : Gam) (X : L2.Cx) : List ExceptHandler → List ClD → Prop
  | nil : HdsD sub G X [] []
  | cons {x : Str} {f : List (Str × V) → Rho → Out} {b₀ : Stmt} {suite : List Stmt} {np pos' : Pos} {hds : List ExceptHandler} {l : List ClD} {Kx : Addr} (hm : X.mg x = some (.ref Kx)) (hg : Gl X x) (hdb : (x == ("__debug__" : Str)) = false)
      (hsu : ∀ (fs : List (Str × V)) (G' : Gam) (C : Addr) (a : Addr) (oe : Obj) (d : Option Addr) (pn : List (Addr × Obj)), G'.T = G.T → G'.pin = G.pin → XdAt G' fs d → Zc (.ref C) d oe → (∃ vs, oe.data = .fields vs) → (∃ c, X.mg c = some (.ref C) ∧ sub c x = some true) → SB G' (X.suite a ((a, oe) :: pn)) W0 (b₀ :: suite) (f fs)) (r : HdsD sub G X hds l) :
      HdsD sub G X (.ExceptHandler (some (.Name x np)) none (b₀ :: suite) pos' :: hds) (⟨x, none, f⟩ :: l)
  | consA {x n : Str} {i : Nat} {f : List (Str × V) → Rho → Out} {b₀ : Stmt} {suite : List Stmt} {np pos' : Pos} {hds : List ExceptHandler} {l : List ClD} {Kx : Addr} (hm : X.mg x = some (.ref Kx)) (hg : Gl X x) (hdb : (x == ("__debug__" : Str)) = false) (hi : X.N[i]? = some n) (hln : X.env.kindOf n = some .local) (hpn : G.pin = none)
      (hsu : ∀ (fs : List (Str × V)) (G' : Gam) (C : Addr) (a : Addr) (oe : Obj) (d : Option Addr) (pn : List (Addr × Obj)), G'.T = G.T → G'.pin = some (i, a) → XdAt G' fs d → Zc (.ref C) d oe → (∃ vs, oe.data = .fields vs) → (∃ c, X.mg c = some (.ref C) ∧ sub c x = some true) → SB G' (X.suite a ((a, oe) :: pn)) W0 (b₀ :: suite) (f fs)) (r : HdsD sub G X hds l) :
      HdsD sub G X (.ExceptHandler (some (.Name x np)) (some n) (b₀ :: suite) pos' :: hds) (⟨x, some i, f⟩ :: l)
mutual
theorem Dat.footL {T : Tx} : ∀ {v : V} {d : D} {p : List Addr}, Dat T F B H v d p → ∀ a ∈ p, (∃ vs, H a = some (.lst vs)) ∨ ∃ C dx fs, H a = some (.ins C dx fs)
  | _, _, _, .non, _, z => nomatch z
  | _, _, _, .bl b, _, z => nomatch z
  | _, _, _, .int i, _, z => nomatch z
  | _, _, _, .str x, _, z => nomatch z
  | _, _, _, .frz _ _ _, _, z => nomatch z
  | _, _, _, .own e n h _, a, z => by
    rcases List.mem_cons.mp z with rfl | z
    · exact .inl ⟨_, e⟩
    · exact Dats.footL h a z
  | _, _, _, .tmp e n h, a, z => by
    rcases List.mem_cons.mp z with rfl | z
    · exact .inl ⟨_, e⟩
    · exact Dats.footL h a z
  | _, _, _, .bor _ _ _, _, z => nomatch z
  | _, _, _, .tup _ h, a, z => Dats.footL h a z
  | _, _, _, .ins _ _ _ _ _, _, z => nomatch z
  | _, _, _, .obj e n _ _ _ _, a, z => by
    rcases List.mem_cons.mp z with rfl | z
    · exact .inr ⟨_, _, _, e⟩
    · exact nomatch z
  | _, _, _, .scr _, _, z => nomatch z
theorem Dats.footL {T : Tx} : ∀ {vs : List V} {ds : List D} {p : List Addr}, Dats T F B H vs ds p → ∀ a ∈ p, (∃ vs, H a = some (.lst vs)) ∨ ∃ C dx fs, H a = some (.ins C dx fs)
  | _, _, _, .nil, _, z => nomatch z
  | _, _, _, .cons h t, a, z => by
    rcases List.mem_append.mp z with z | z
    · exact Dat.footL h a z
    · exact Dats.footL t a z
end
theorem Slots.footL {T : Tx} : ∀ {σ : L2.St} {ρ : Rho} {p : List Addr}, Slots T F B H σ ρ p → ∀ a ∈ p, (∃ vs, H a = some (.lst vs)) ∨ ∃ C dx fs, H a = some (.ins C dx fs)
  | _, _, _, .nil, _, z => nomatch z
  | _, _, _, .un t, a, z => t.footL a z
  | _, _, _, .val h t, a, z => by
    rcases List.mem_append.mp z with z | z
    · exact h.footL a z
    · exact t.footL a z
/-- what the suite's context begins with: the exception's dict stands -/
theorem suite_gam {c : Str} {fs : List (Str × V)} {cv : Value} {x : Option Addr} (rel : RelS G ρ F B σ H) (ea : ExcAt G.T c fs cv x H) : ∃ B2, Same B B2 ∧ Same B2 H ∧ Same F B2 ∧ (∀ fp, Slots G.T F B H σ ρ fp → Slots G.T F B2 H σ ρ fp) ∧ ∀ pin, XdAt ⟨G.T, B2, F, pin⟩ fs x := by
  obtain ⟨C, gC, rfl, ea⟩ := ea
  cases fs with
  | nil => exact ⟨B, .refl _, rel.base.bh, rel.base.fb, fun fp h => h, fun _ => trivial⟩
  | cons f r =>
    obtain ⟨dd, rfl, hd⟩ := ea
    have sb : Same B (upd B dd (.xd (f :: r))) := fun b o e => by
      by_cases h : b = dd
      · subst h
        have w := rel.base.bh _ _ e
        rw [hd] at w
        cases w
        exact upd_same
      · rw [upd_ne h]; exact e
    refine ⟨upd B dd (.xd (f :: r)), sb, fun b o e => ?_, rel.base.fb.trans sb, fun fp h => h.stay (.refl _) sb fun a z => ⟨rfl, ?_⟩, fun pin => ⟨dd, rfl, fun H' s => s dd _ upd_same⟩⟩
    · by_cases h : b = dd
      · subst h; rw [upd_same] at e; cases e; exact hd
      · rw [upd_ne h] at e; exact rel.base.bh _ _ e
    · have ne : a ≠ dd := fun z2 => by
        rcases h.footL a z with ⟨vs, w⟩ | ⟨C', dx, fs', w⟩
        · rw [z2, hd] at w; cases w
        · rw [z2, hd] at w; cases w
      rw [upd_ne ne]
      exact (h.foot a z).2
theorem hds_run {cl : List ClD} {hds : List ExceptHandler} (hT : G.T = ⟨X.K, X.mg⟩) (so : SubOk G.T sub) (h : HdsD sub G X hds cl) : ∃ l, HdsA X hds l ∧ ∀ (D' : Ends) (c : Str) (fs : List (Str × V)) (ρ : Rho) (cv : Value) (x : Option Addr) (σ : L2.St) (F B H : Hp),
    RelS G ρ F B σ H → ExcAt G.T c fs cv x H → kS G W D' (handle sub c fs ρ cl) → wManyA X.K W D' l cv x σ H := by
  induction h with
  | nil => exact ⟨[], .nil, fun D' c fs ρ cv x σ F B H rel ea k => k cv x σ F B H rel ea⟩
  | @cons x f b₀ suite np pos' hds l Kx hm hg hdb hsu r ih =>
    obtain ⟨l', hA, run⟩ := ih
    refine ⟨(.ref Kx, none, fun a cls d => fun D σ H => ∃ fs G' C, cls = .ref C ∧ (∃ c, X.mg c = some (.ref C) ∧ sub c x = some true) ∧ G'.T = G.T ∧ G'.pin = G.pin ∧ XdAt G' fs d ∧ tS G' W0 (f fs) D σ H) :: l', .cons ⟨hg, hdb, .inl hm⟩ (fun a oe cls d pn hz hf => ⟨fun pins s σ H D I ⟨fs, G', C, e1, e5, e2, e3, e4, q⟩ => ?_⟩) hA, fun D' c fs ρ cv x' σ F B H rel ea k => ?_⟩
    · subst e1
      exact (hsu fs G' C a oe d pn e2 e3 e4 hz hf e5).run pins s σ H D I q
    · have ea' := ea
      obtain ⟨C, gC, rfl, _⟩ := ea
      have k : kS G W D' (match sub c x with | some true => if slotOk ρ none then behindA none (f fs (rhoA ρ none)) else .stuck | some false => handle sub c fs ρ l | none => .stuck) := k
      cases z : sub c x with
      | none => rw [z] at k; exact k.elim
      | some b =>
        rw [z] at k
        obtain ⟨C', K', g1, g2, g3⟩ := so c x b z
        have g2' : X.mg x = some (.ref K') := by rw [hT] at g2; exact g2
        rw [hm] at g2'
        cases g2'
        rw [gC] at g1
        cases g1
        rw [hT] at g3
        refine ⟨b, g3, fun eb a na => ?_, fun eb => ?_⟩
        · subst eb
          have k : kS G W D' (behindA none (f fs ρ)) := k
          obtain ⟨B2, s1, s2, s3, s4, s5⟩ := suite_gam rel ea'
          obtain ⟨fp, sl, nd⟩ := rel.slots
          refine ⟨fs, ⟨G.T, B2, F, G.pin⟩, C, rfl, ⟨c, by rw [hT] at gC; exact gC, z⟩, rfl, rfl, s5 _, ρ, F, B2, ⟨⟨.refl _, s3, s2, .refl _, fun _ _ => rfl⟩, ⟨fp, s4 fp sl, nd⟩, rel.pin⟩, ?_⟩
          have up : ∀ {F' B' H' : Hp}, Base ⟨G.T, B2, F, G.pin⟩ F' B' H' → Base G F' B' H' := fun b => ⟨rel.base.f0.trans b.f0, b.fb, b.bh, (rel.base.h0.trans s1).trans b.h0, fun a n => (b.of0 a (Same.there (rel.base.h0.trans s1) n)).trans (rel.base.of0 a n)⟩
          cases y : f fs ρ with
          | next ρ1 => rw [y] at k; exact fun σ F B H r => k σ F B H ⟨up r.base, r.slots, r.pin⟩
          | ret d => rw [y] at k; exact fun v F B H p b hd n => k v F B H p (up b) hd n
          | brk _ => rw [y] at k; exact k.elim
          | cnt _ => rw [y] at k; exact k.elim
          | err _ _ _ => rw [y] at k; exact k.elim
          | stuck => rw [y] at k; exact k.elim
        · subst eb
          exact run D' c fs ρ _ x' σ F B H rel ea' k
  | @consA x n i f b₀ suite np pos' hds l Kx hm hg hdb hi hln hpn hsu r ih =>
    obtain ⟨l', hA, run⟩ := ih
    refine ⟨(.ref Kx, some i, fun a cls d => fun D σ H => ∃ fs G' C, cls = .ref C ∧ (∃ c, X.mg c = some (.ref C) ∧ sub c x = some true) ∧ G'.T = G.T ∧ G'.pin = some (i, a) ∧ XdAt G' fs d ∧ tS G' W0 (f fs) D σ H) :: l', .consA ⟨hg, hdb, .inl hm⟩ hi hln (fun a oe cls d pn hz hf => ⟨fun pins s σ H D I ⟨fs, G', C, e1, e5, e2, e3, e4, q⟩ => ?_⟩) hA, fun D' c fs ρ cv x' σ F B H rel ea k => ?_⟩
    · subst e1
      exact (hsu fs G' C a oe d pn e2 e3 e4 hz hf e5).run pins s σ H D I q
    · have ea' := ea
      obtain ⟨C, gC, rfl, _⟩ := ea
      have k : kS G W D' (match sub c x with | some true => if slotOk ρ (some i) then behindA (some i) (f fs (rhoA ρ (some i))) else .stuck | some false => handle sub c fs ρ l | none => .stuck) := k
      cases z : sub c x with
      | none => rw [z] at k; exact k.elim
      | some b =>
        rw [z] at k
        obtain ⟨C', K', g1, g2, g3⟩ := so c x b z
        have g2' : X.mg x = some (.ref K') := by rw [hT] at g2; exact g2
        rw [hm] at g2'
        cases g2'
        rw [gC] at g1
        cases g1
        rw [hT] at g3
        refine ⟨b, g3, fun eb a na => ?_, fun eb => ?_⟩
        · subst eb
          have k : kS G W D' (if decide (i < ρ.length) = true then behindA (some i) (f fs (ρ.set i none)) else .stuck) := k
          by_cases hil : i < ρ.length
          · rw [if_pos (decide_eq_true hil)] at k
            obtain ⟨B2, s1, s2, s3, s4, s5⟩ := suite_gam rel ea'
            obtain ⟨fp, sl, nd⟩ := rel.slots
            obtain ⟨fp2, sl2, nd2, _⟩ := (s4 fp sl).forget i (some (.ref a)) nd
            refine ⟨fs, ⟨G.T, B2, F, some (i, a)⟩, C, rfl, ⟨c, by rw [hT] at gC; exact gC, z⟩, rfl, rfl, s5 _, ρ.set i none, F, B2, ⟨⟨.refl _, s3, s2, .refl _, fun _ _ => rfl⟩, ⟨fp2, sl2, nd2⟩, ?_⟩, ?_⟩
            · exact List.getElem?_set_self (by rw [sl.length]; exact hil)
            · have up : ∀ {F' B' H' : Hp}, Base ⟨G.T, B2, F, some (i, a)⟩ F' B' H' → Base G F' B' H' := fun b => ⟨rel.base.f0.trans b.f0, b.fb, b.bh, (rel.base.h0.trans s1).trans b.h0, fun a n => (b.of0 a (Same.there (rel.base.h0.trans s1) n)).trans (rel.base.of0 a n)⟩
              cases y : f fs (ρ.set i none) with
              | next ρ1 =>
                rw [y] at k
                intro σ F B H r
                obtain ⟨fp3, sl3, nd3⟩ := r.slots
                obtain ⟨fp4, sl4, nd4, _⟩ := sl3.forget i none nd3
                exact k _ F B H ⟨up r.base, ⟨fp4, sl4, nd4⟩, by unfold Pinned; rw [hpn]; trivial⟩
              | ret d => rw [y] at k; exact fun v F B H p b hd n => k v F B H p (up b) hd n
              | brk _ => rw [y] at k; exact k.elim
              | cnt _ => rw [y] at k; exact k.elim
              | err _ _ _ => rw [y] at k; exact k.elim
              | stuck => rw [y] at k; exact k.elim
          · rw [if_neg (by simpa using hil)] at k; exact k.elim
        · subst eb
          exact run D' c fs ρ _ x' σ F B H rel ea' k
theorem ss_try {cl : List ClD} (hs : X.stack = X.env :: X.outer) (hf : X.env.frame = some X.env.locals) (hN : X.N.Nodup) (hT : G.T = ⟨X.K, X.mg⟩) (tk : Takes X W) (so : SubOk G.T sub)
    (hb : ∀ (W' : WX) (pn : List (Addr × Obj)) (xe : Value → Shared → Prop), Takes (X.tr pn xe) W' → PassesOwn (model X.prog X.w) X.A X.env xe → SB G (X.tr pn xe) W' body f)
    (hh : HdsD sub G X (h₀ :: hds) cl) : SS G X W (.Try body (h₀ :: hds) [] [] pos) (sTry sub f cl) := by
  obtain ⟨l, hA, run⟩ := hds_run (W := W) hT so hh
  refine ps_pre (ps_try_A hs hf hN tk hb hA) fun D' σ H ⟨ρ, F, B, rel, k⟩ => ⟨ρ, F, B, rel, ?_⟩
  unfold sTry at k
  cases z : f ρ with
  | err c fs ρ' =>
    rw [z] at k
    exact fun cv x σ F B H r ea => run D' c fs ρ' cv x σ F B H r ea k
  | next ρ' => rw [z] at k; exact k
  | ret d => rw [z] at k; exact k
  | brk ρ' => rw [z] at k; exact k
  | cnt ρ' => rw [z] at k; exact k
  | stuck => rw [z] at k; exact k
/-- e.f in a suite -/
def vD : V → Res D
  | .non => .ok .non
  | .bl b => .ok (.bl b)
  | .int i => .ok (.int i)
  | .str x => .ok (.str x)
  | _ => .stuck
def xfR (o : Option V) : Res D := match o with
  | some v => vD v
  | none => .stuck
def eXf (fs : List (Str × V)) (f : Str) : Rho → Res D := fun _ => xfR (fs.lookup f)
theorem ev_xf {C a : Addr} {oe : Obj} {d : Option Addr} {pn : List (Addr × Obj)} {i : Nat} {x n : Str} {fs : List (Str × V)} {p1 : Pos} (T : XfC X.K C) (hno : PySem.W.findIn X.K (.ref C) n = some none) (hz : Zc (.ref C) d oe) (hf : ∃ vs, oe.data = .fields vs) (hp : G.pin = some (i, a)) (hx : XdAt G fs d)
    (hi : X.N[i]? = some x := by rfl) (hv : Vis X.env.scope x := by first | exact Or.inl rfl | exact Or.inr (Or.inl rfl) | exact Or.inr (Or.inr rfl)) (hd : (x == ("__debug__" : Str)) = false := by decide)
    (hcd : (x == ("__classdict__" : Str)) = false := by decide) (hb : attributeBase (.Name x p1) n X.env (eval (.Name x p1) X.env) = eval (.Name x p1) X.env := by rfl) : EV G (X.suite a ((a, oe) :: pn)) W (.Attribute (.Name x p1) n pos) (eXf fs n) :=
  pe_pre (pe_xf T hno hz hf (pe_var (X := X.suite a ((a, oe) :: pn)) hi hv hd hcd) hb) fun σ H Q ⟨ρ, F, B, rel, k⟩ => by
    have pn := rel.pin
    unfold Pinned at pn
    rw [hp] at pn
    unfold eXf xfR at k
    cases z : fs.lookup n with
    | none => rw [z] at k; exact k.elim
    | some v =>
      rw [z] at k
      cases fs with
      | nil => cases z
      | cons f r =>
        obtain ⟨dd, rfl, hh⟩ := hx
        refine ⟨.ref a, pn, rfl, rfl, dd, f :: r, v, rfl, hh H (rel.base.h0.trans rel.base.bh), z, ?_⟩
        have k : kE G.T W σ F B H (vD v) _ := k
        cases v <;> first | exact k.elim | skip
        all_goals exact kE.ok (G := G) (W := W) (σ := σ) rel.base.fb rel.base.bh k _ [] (by constructor) List.nodup_nil fun _ z => nomatch z
end
end DH
namespace DH
open PySem L2
section
variable {G : Gam} {W : WX} {X : L2.Cx} {F B H : Hp} {σ : L2.St} {ρ : Rho} {a e : Expr} {fa : Rho → Res D} {pos p kp p2 : Pos}
def negD : D → Res D
  | .int i => .ok (.int (-i))
  | _ => .stuck
theorem ev_neg (h : EB G X W a fa) : EV G X W (.UnaryOp .USub a pos) (eU1 negD fa) :=
  pe_pre (pe_un un_neg h) fun σ H Q ⟨ρ, F, B, rel, k⟩ => ⟨ρ, F, B, rel, (kE.bind k).mono fun d F1 B1 H1 x1 k1 v p hd => by
    cases d <;> first | exact k1.elim | skip
    cases hd
    exact ⟨_, rfl, kE.ok x1.fb x1.bh k1 _ [] (.int _) List.nodup_nil fun _ z => nomatch z⟩⟩
theorem ev_not (hK : X.K = G.K) (h : EB G X W a fa) : EV G X W (.UnaryOp .Not a pos) (eNot fa) :=
  pe_pre (pe_notT h) fun σ H Q ⟨ρ, F, B, rel, k⟩ => ⟨ρ, F, B, rel, (kE.bind k).mono fun d F1 B1 H1 x1 k1 v p hd => by
    have k2 := kE.bind k1
    cases z : truthD d with
    | ok t =>
      rw [z] at k2
      exact ⟨t, by rw [hK]; exact hd.tru (rel.base.ext x1) z, kE.ok x1.fb x1.bh (kE.ok x1.fb x1.bh k2) _ [] (.bl _) List.nodup_nil fun _ z => nomatch z⟩
    | err c fs => exact absurd z truthD_ne
    | stuck => rw [z] at k2; exact k2.elim⟩
def eSortB (b : Bool) (f : Rho → Res D) : Rho → Res D := fun ρ => (f ρ).bind fun d => if b then sortRevD [d] else sortD [d]
theorem sorted_uniq_ge : ∀ {xs ys : List Int}, xs.Pairwise (· ≥ ·) → ys.Pairwise (· ≥ ·) → xs.Perm ys → xs = ys := fun {xs ys} h1 h2 p => by
  have e := sorted_uniq (xs := xs.reverse) (ys := ys.reverse) (List.pairwise_reverse.mpr h1) (List.pairwise_reverse.mpr h2) ((List.reverse_perm xs).trans (p.trans (List.reverse_perm ys).symm))
  exact List.reverse_inj.mp e
theorem ev_sortB (b : Bool) {j : Nat} (hK : X.K = G.K) (hm : X.mg "sorted" = none) (h : EB G X W e fa) (hg : Gl X "sorted" := by rfl)
    (hs : starEach (e :: []) X.env = (false, eval e X.env) :: starEach [] X.env := by rfl)
    (he : backTo pos (starEach (e :: []) X.env) = (false, eval e X.env) :: backTo pos (starEach [] X.env) := by rfl) (hpl : (backTo pos (starEach (e :: []) X.env)).any (·.1) = false := by rfl)
    (hall : (backToKw pos (keywordEach [⟨some "reverse", .Constant (.bool b) j p2, kp⟩] X.env)).all (·.1.isSome) = true := by rfl) (hnone : (backToKw pos (keywordEach [⟨some "reverse", .Constant (.bool b) j p2, kp⟩] X.env)).any (·.1.isNone) = false := by rfl)
    (hks : (backToKw pos (keywordEach [⟨some "reverse", .Constant (.bool b) j p2, kp⟩] X.env)).filterMap (·.1) = [Str.ofString "reverse"] := by rfl) :
    EV G X W (.Call (.Name "sorted" p) [e] [⟨some "reverse", .Constant (.bool b) j p2, kp⟩] pos) (eSortB b fa) :=
  pe_pre (pe_callBK (cr_sortedRev (b := b)) hg hm PyProof.Rows.boot_sorted (pa_cons h pa_nil hs) (pk_cons pe_bl pk_nil) (by decide) (by decide) he hpl hall hnone hks) fun σ H Q ⟨ρ, F, B, rel, k⟩ =>
    ⟨ρ, F, B, rel, (kE.bind k).mono fun d F1 B1 H1 x1 k1 v p hd => by
      have b1 := rel.base.ext x1
      cases b with
      | false =>
        replace k1 : kE G.T W σ F1 B1 H1 (sortD [d]) _ := k1
        cases d <;> first | exact k1.elim | skip
        rename_i l xs
        have k1 : kE G.T W σ F1 B1 H1 (sortR (toInts xs)) _ := k1
        cases z : toInts xs with
        | none => rw [z] at k1; exact k1.elim
        | some ns =>
          rw [z] at k1
          obtain ⟨a, e1, sq⟩ := Dats.lists b1 (.cons hd .nil) z
          cases e1
          refine ⟨a, ns, rfl, rfl, by rw [hK]; exact sq, fun ns' p pm so np => ?_⟩
          rw [sorted_uniq so (sortI_sorted ns) (pm.trans (sortI_perm ns).symm)]
          exact ans_own b1 (Dats.ints _) (retAll_ints _) (fun F' B' H' x v p hd nd new => k1 F' B' H' x v p hd nd fun a m => x1.h.free (new a m)) p np
      | true =>
        replace k1 : kE G.T W σ F1 B1 H1 (sortRevD [d]) _ := k1
        cases d <;> first | exact k1.elim | skip
        rename_i l xs
        have k1 : kE G.T W σ F1 B1 H1 (revR (toInts xs)) _ := k1
        cases z : toInts xs with
        | none => rw [z] at k1; exact k1.elim
        | some ns =>
          rw [z] at k1
          obtain ⟨a, e1, sq⟩ := Dats.lists b1 (.cons hd .nil) z
          cases e1
          refine ⟨a, ns, rfl, rfl, by rw [hK]; exact sq, fun ns' p pm so np => ?_⟩
          rw [sorted_uniq_ge so (show ((sortI ns).reverse).Pairwise (· ≥ ·) from List.pairwise_reverse.mpr (sortI_sorted ns)) (pm.trans ((sortI_perm ns).symm.trans (List.reverse_perm _).symm))]
          exact ans_own b1 (Dats.ints _) (retAll_ints _) (fun F' B' H' x v p hd nd new => k1 F' B' H' x v p hd nd fun a m => x1.h.free (new a m)) p np⟩
end

/-! ### the law itself -/
def spLaw (T : Tx) : Sp := fun vs H Q E => ∃ (a : Addr) (ns : List Int), vs = [.ref a] ∧ SqL T.K H a (ns.map V.int) ∧ ns.length ≤ 63 ∧ ∀ H', Q (.bl true) H'
theorem FnOk.law {P : Program} {w : World} {K : PySem.W.Frag} {mg : Str → Option Value} {base : Heap} {k : Nat} {f : Addr} {fd : FuncData} {ps : List Str} {m : List D → Res D} (h : FnOk P w K mg base (L2.CX P w) k f fd ps (spF ⟨K, mg⟩ 1 m))
    (hm : ∀ ns : List Int, ns.length ≤ 63 → m [.scr ns] = .ok (.bl true)) : FnOk P w K mg base (L2.CX P w) k f fd ps (spLaw ⟨K, mg⟩) := by
  have cv : ∀ vs H Q E, spLaw ⟨K, mg⟩ vs H Q E → spF ⟨K, mg⟩ 1 m vs H Q E := fun vs H Q E ⟨a, ns, e, sq, hl, q⟩ => by
    subst e
    refine ⟨fun _ => none, [.scr ns], (fun _ _ z => nomatch z), .cons (p := []) (q := []) (.scr sq) .nil, rfl, ?_⟩
    rw [hm ns hl]
    intro v F' H' p _ _ _ _ hd _ _
    cases hd
    exact q H'
  exact h.imp cv
end DH
/-! Short forms: built-ins, classes, own errors, as a def's derivation asks for them. -/
namespace DH
open PySem L2
section
variable {G : Gam} {W : WX} {X : L2.Cx} {F B H : Hp} {σ : L2.St} {ρ : Rho} {a e e2 o : Expr} {es : List Expr} {fa fo : Rho → Res D} {fs : Rho → Res (List D)} {pos p kp p2 apos : Pos} {c mn x : Str} {n k : Nat}
theorem c_len (hK : X.K = G.K) (hm : X.mg "len" = none) (ha : EA G X W [e] fs) (hg : Gl X "len" := by rfl) (he : starEach (e :: []) X.env = (false, eval e X.env) :: starEach [] X.env := by rfl) (hpl : (backTo pos (starEach [] X.env)).any (·.1) = false := by rfl) :
    EV G X W (.Call (.Name "len" p) [e] [] pos) (eN lenD fs) := ev_callB (r := rLen G.K) (by rw [← hK]; exact call_len) opn_len hm PySem.boot_len ha hg (by decide) (by decide) he hpl
theorem c_abs (hm : X.mg "abs" = none) (ha : EA G X W [e] fs) (hg : Gl X "abs" := by rfl) (he : starEach (e :: []) X.env = (false, eval e X.env) :: starEach [] X.env := by rfl) (hpl : (backTo pos (starEach [] X.env)).any (·.1) = false := by rfl) :
    EV G X W (.Call (.Name "abs" p) [e] [] pos) (eN absD fs) := ev_callB call_abs opn_abs hm PyProof.Rows.boot_abs ha hg (by decide) (by decide) he hpl
theorem c_max2 (hc : X.calm = true) (hm : X.mg "max" = none) (ha : EA G X W [e, e2] fs) (hg : Gl X "max" := by rfl) (he : starEach (e :: [e2]) X.env = (false, eval e X.env) :: starEach [e2] X.env := by rfl) (hpl : (backTo pos (starEach [e2] X.env)).any (·.1) = false := by rfl) :
    EV G X W (.Call (.Name "max" p) [e, e2] [] pos) (eN max2D fs) := ev_callB (call_max2 hc) opn_max2 hm PyProof.Rows.boot_max ha hg (by decide) (by decide) he hpl
theorem c_min2 (hc : X.calm = true) (hm : X.mg "min" = none) (ha : EA G X W [e, e2] fs) (hg : Gl X "min" := by rfl) (he : starEach (e :: [e2]) X.env = (false, eval e X.env) :: starEach [e2] X.env := by rfl) (hpl : (backTo pos (starEach [e2] X.env)).any (·.1) = false := by rfl) :
    EV G X W (.Call (.Name "min" p) [e, e2] [] pos) (eN min2D fs) := ev_callB (call_min2 hc) opn_min2 hm PyProof.Rows.boot_min ha hg (by decide) (by decide) he hpl
theorem c_max1 (hc : X.calm = true) (hK : X.K = G.K) (hm : X.mg "max" = none) (ha : EA G X W [e] fs) (hg : Gl X "max" := by rfl) (he : starEach (e :: []) X.env = (false, eval e X.env) :: starEach [] X.env := by rfl) (hpl : (backTo pos (starEach [] X.env)).any (·.1) = false := by rfl) :
    EV G X W (.Call (.Name "max" p) [e] [] pos) (eN max1D fs) := ev_callB (r := rMax G.K) (by rw [← hK]; exact cr_max hc) opn_max1 hm PyProof.Rows.boot_max ha hg (by decide) (by decide) he hpl
theorem c_min1 (hc : X.calm = true) (hK : X.K = G.K) (hm : X.mg "min" = none) (ha : EA G X W [e] fs) (hg : Gl X "min" := by rfl) (he : starEach (e :: []) X.env = (false, eval e X.env) :: starEach [] X.env := by rfl) (hpl : (backTo pos (starEach [] X.env)).any (·.1) = false := by rfl) :
    EV G X W (.Call (.Name "min" p) [e] [] pos) (eN min1D fs) := ev_callB (r := rMin G.K) (by rw [← hK]; exact cr_min hc) opn_min1 hm PyProof.Rows.boot_min ha hg (by decide) (by decide) he hpl
theorem c_sum (hc : X.calm = true) (hK : X.K = G.K) (hm : X.mg "sum" = none) (ha : EA G X W [e] fs) (hg : Gl X "sum" := by rfl) (he : starEach (e :: []) X.env = (false, eval e X.env) :: starEach [] X.env := by rfl) (hpl : (backTo pos (starEach [] X.env)).any (·.1) = false := by rfl) :
    EV G X W (.Call (.Name "sum" p) [e] [] pos) (eN sumD fs) := ev_callB (r := rSum G.K) (by rw [← hK]; exact cr_sum hc) opn_sum hm PyProof.Rows.boot_sum ha hg (by decide) (by decide) he hpl
theorem c_sorted (hK : X.K = G.K) (hm : X.mg "sorted" = none) (ha : EA G X W [e] fs) (hg : Gl X "sorted" := by rfl) (he : starEach (e :: []) X.env = (false, eval e X.env) :: starEach [] X.env := by rfl) (hpl : (backTo pos (starEach [] X.env)).any (·.1) = false := by rfl) :
    EV G X W (.Call (.Name "sorted" p) [e] [] pos) (eN sortD fs) := ev_callB (r := rSortedI G.K) (by rw [← hK]; exact cr_sortedI) opn_sorted hm PyProof.Rows.boot_sorted ha hg (by decide) (by decide) he hpl
theorem c_int (hm : X.mg "int" = none) (ha : EA G X W [e] fs) (hg : Gl X "int" := by rfl) (he : starEach (e :: []) X.env = (false, eval e X.env) :: starEach [] X.env := by rfl) (hpl : (backTo pos (starEach [] X.env)).any (·.1) = false := by rfl) :
    EV G X W (.Call (.Name "int" p) [e] [] pos) (eN intD fs) := ev_callTy call_int1 opn_int hm PyProof.Rows.boot_int ha hg (by decide) (by decide) he hpl
theorem c_str (hm : X.mg "str" = none) (ha : EA G X W [e] fs) (hg : Gl X "str" := by rfl) (he : starEach (e :: []) X.env = (false, eval e X.env) :: starEach [] X.env := by rfl) (hpl : (backTo pos (starEach [] X.env)).any (·.1) = false := by rfl) :
    EV G X W (.Call (.Name "str" p) [e] [] pos) (eN strD fs) := ev_callTy call_str_int opn_str hm PyProof.Rows.boot_str ha hg (by decide) (by decide) he hpl
theorem c_list (hK : X.K = G.K) (hm : X.mg "list" = none) (ha : EA G X W [e] fs) (hg : Gl X "list" := by rfl) (he : starEach (e :: []) X.env = (false, eval e X.env) :: starEach [] X.env := by rfl) (hpl : (backTo pos (starEach [] X.env)).any (·.1) = false := by rfl) :
    EV G X W (.Call (.Name "list" p) [e] [] pos) (eN listD fs) := ev_callTy (r := fun xs H Q => ∃ p ys, xs = [.ref p] ∧ (SqL G.K H p ys ∨ SqT G.K H p ys) ∧ ∀ l, H l = none → Q (.ref l) (upd H l (.lst ys))) (by rw [← hK]; exact call_list_of) opn_list hm PyProof.Rows.boot_list ha hg (by decide) (by decide) he hpl
theorem c_tuple (hK : X.K = G.K) (hm : X.mg "tuple" = none) (ha : EA G X W [e] fs) (hg : Gl X "tuple" := by rfl) (he : starEach (e :: []) X.env = (false, eval e X.env) :: starEach [] X.env := by rfl) (hpl : (backTo pos (starEach [] X.env)).any (·.1) = false := by rfl) :
    EV G X W (.Call (.Name "tuple" p) [e] [] pos) (eN tupleD fs) := ev_callTy (r := fun xs H Q => ∃ p ys, xs = [.ref p] ∧ ((SqL G.K H p ys ∧ ∀ l, H l = none → Q (.ref l) (upd H l (.tup ys))) ∨ (SqT G.K H p ys ∧ Q (.ref p) H))) (by rw [← hK]; exact call_tuple_of) opn_tuple hm PyProof.Rows.boot_tuple ha hg (by decide) (by decide) he hpl
/-- a module's whole number, text -/
theorem ev_gi {i : Int} (hm : ∃ t, X.mg x = some (.int i t)) (hg : Gl X x := by rfl) (hd : (x == ("__debug__" : Str)) = false := by decide) : EV G X W (.Name x pos) (eC (.int i)) := by
  obtain ⟨t, h⟩ := hm
  exact ev_glob (v := .int i) h ⟨t, rfl⟩ rfl hg hd
/-- comparisons -/
theorem ev_sub {b : Expr} {fb : Rho → Res D} (ha : EB G X W a fa) (hb : EB G X W b fb) : EV G X W (.BinOp a .Sub b pos) (eB2 subD fa fb) := ev_op op_sub op2_sub ha hb
theorem ev_mul {b : Expr} {fb : Rho → Res D} (ha : EB G X W a fa) (hb : EB G X W b fb) : EV G X W (.BinOp a .Mult b pos) (eB2 mulD fa fb) := ev_op opr_mul op2_mul ha hb
theorem ev_fdiv {b : Expr} {fb : Rho → Res D} (ha : EB G X W a fa) (hb : EB G X W b fb) : EV G X W (.BinOp a .FloorDiv b pos) (eB2 fdivD fa fb) := ev_op op_fdivN op2_fdiv ha hb
theorem ev_mod {b : Expr} {fb : Rho → Res D} (ha : EB G X W a fa) (hb : EB G X W b fb) : EV G X W (.BinOp a .Mod b pos) (eB2 modD fa fb) := ev_op op_modN op2_mod ha hb
theorem ev_pow {b : Expr} {fb : Rho → Res D} (ha : EB G X W a fa) (hb : EB G X W b fb) : EV G X W (.BinOp a .Pow b pos) (eB2 powD fa fb) := ev_op op_pow op2_pow ha hb
end

/-! ### classes of the program -/
structure ClH (K : PySem.W.Frag) (mg : Str → Option Value) (c : Str) (fl : List Str) : Prop where
  ex : ∃ C, mg c = some (.ref C) ∧ Cls K C ∧ ∀ f ∈ fl, NoAttr K C f
structure MeH (P : Program) (w : World) (K : PySem.W.Frag) (mg : Str → Option Value) (base : Heap) (c mn : Str) (n k : Nat) (m : List D → Res D) : Prop where
  ex : ∃ C f fd ps, mg c = some (.ref C) ∧ Cls K C ∧ Meth K C mn f ∧ FnOk P w K mg base (L2.CX P w) k f fd ps (spF ⟨K, mg⟩ n m) ∧ Binds K fd ps []
structure MkH (P : Program) (w : World) (K : PySem.W.Frag) (mg : Str → Option Value) (base : Heap) (c : Str) (n k : Nat) (m : List D → Res (List (Str × D))) : Prop where
  ex : ∃ C f fd ps, mg c = some (.ref C) ∧ Cls K C ∧ Mk K C f ∧ FnOk P w K mg base (L2.CX P w) k f fd ps (spI ⟨K, mg⟩ c n m) ∧ Binds K fd ps []
structure Ex0H (K : PySem.W.Frag) (mg : Str → Option Value) (x : Str) : Prop where
  ex : ∃ C, Ex0 K mg x C
structure ExNH (P : Program) (w : World) (K : PySem.W.Frag) (mg : Str → Option Value) (base : Heap) (x : Str) (fl : List Str) : Prop where
  ex : ∃ C, ExN P w K mg base x C fl
/-- what is asked of the classes that a clause takes, where the suite reads fields -/
structure XfH (K : PySem.W.Frag) (mg : Str → Option Value) (sub : Str → Str → Option Bool) (x : Str) (fl : List Str) : Prop where
  ex : ∀ c C, mg c = some (.ref C) → sub c x = some true → XfC K C ∧ ∀ f ∈ fl, PySem.W.findIn K (.ref C) f = some none
section
variable {G : Gam} {W : WX} {X : L2.Cx} {F B H : Hp} {σ : L2.St} {ρ : Rho} {a e e2 o : Expr} {es : List Expr} {fa fo : Rho → Res D} {fs : Rho → Res (List D)} {pos p kp p2 pos2 apos : Pos} {c mn x : Str} {n k : Nat}
theorem c_meth {pl : Sem Bool} {m : List D → Res D} (M : MeH X.prog X.w X.K X.mg X.base c mn n k m) (hT : G.T = ⟨X.K, X.mg⟩) (hr : Room k X.A) (tk : Takes X W) (ho : EB G X W o fo) (ha : EA G X W (e :: es) fs)
    (hst : starEach (e :: es) X.env = (false, eval e X.env) :: starEach es X.env := by rfl) (hpl : (backTo pos (starEach es X.env)).any (·.1) = false := by rfl)
    (ht : eval (.Call (.Attribute o mn apos) (e :: es) [] pos) X.env = (do
      let ov ← eval o X.env
      standAt apos.atName
      let (f, first) ← holding [ov] (getMethod ov mn pl)
      callWith pos f first (backTo pos (starEach (e :: es) X.env)) (backToKw pos (keywordEach [] X.env))) := by rfl) :
    EV G X W (.Call (.Attribute o mn apos) (e :: es) [] pos) (eMeth c mn n m fo fs) := by
  obtain ⟨C, f, fd, ps, h1, h2, h3, h4, h5⟩ := M.ex
  exact ev_meth h1 h2 h3 h4 h5 hT hr tk ho ha hst hpl ht
theorem c_meth0 {pl : Sem Bool} {m : List D → Res D} (M : MeH X.prog X.w X.K X.mg X.base c mn n k m) (hT : G.T = ⟨X.K, X.mg⟩) (hr : Room k X.A) (tk : Takes X W) (ho : EB G X W o fo)
    (ht : eval (.Call (.Attribute o mn apos) [] [] pos) X.env = (do
      let ov ← eval o X.env
      standAt apos.atName
      let (f, first) ← holding [ov] (getMethod ov mn pl)
      callWith pos f first (backTo pos (starEach [] X.env)) (backToKw pos (keywordEach [] X.env))) := by rfl) :
    EV G X W (.Call (.Attribute o mn apos) [] [] pos) (eMeth c mn n m fo aNil) := by
  obtain ⟨C, f, fd, ps, h1, h2, h3, h4, h5⟩ := M.ex
  exact ev_meth0 h1 h2 h3 h4 h5 hT hr tk ho ht
theorem c_make {m : List D → Res (List (Str × D))} (M : MkH X.prog X.w X.K X.mg X.base c n k m) (hT : G.T = ⟨X.K, X.mg⟩) (hr : Room (k + 1) X.A) (tk : Takes X W) (ha : EA G X W (e :: es) fs) (hg : Gl X c := by rfl) (hdb : (c == ("__debug__" : Str)) = false := by decide)
    (he : starEach (e :: es) X.env = (false, eval e X.env) :: starEach es X.env := by rfl) (hpl : (backTo pos (starEach es X.env)).any (·.1) = false := by rfl) :
    EV G X W (.Call (.Name c p) (e :: es) [] pos) (eMake c n m fs) := by
  obtain ⟨C, f, fd, ps, h1, h2, h3, h4, h5⟩ := M.ex
  exact ev_make h3 h4 h1 h2 h5 hT hr tk ha hg hdb he hpl
theorem s_raise0 {j : Nat} {m : Str} (E : Ex0H X.K X.mg x) (hT : G.T = ⟨X.K, X.mg⟩) (hc : X.calm = true) (tk : Takes X W) (hg : Gl X x := by rfl) (hdb : (x == ("__debug__" : Str)) = false := by decide) :
    SS G X W (.Raise (some (.Call (.Name x p) [.Constant (.str m) j p2] [] pos)) none pos2) (sRaise0 x) := by
  obtain ⟨C, E⟩ := E.ex
  exact ss_raise0 E hT hc tk hg hdb
theorem s_raise {fl : List Str} (E : ExNH X.prog X.w X.K X.mg X.base x fl) (hT : G.T = ⟨X.K, X.mg⟩) (hc : X.calm = true) (hr : Room 2 X.A) (tk : Takes X W) (ha : EA G X W (e :: es) fs) (hg : Gl X x := by rfl) (hdb : (x == ("__debug__" : Str)) = false := by decide)
    (he : starEach (e :: es) X.env = (false, eval e X.env) :: starEach es X.env := by rfl) (hpl : (backTo pos (starEach es X.env)).any (·.1) = false := by rfl) :
    SS G X W (.Raise (some (.Call (.Name x p) (e :: es) [] pos)) none pos2) (sRaise x fl fs) := by
  obtain ⟨C, E⟩ := E.ex
  exact ss_raise E hT hc hr tk ha hg hdb he hpl
theorem s_fld {f : Str} {p1 p2 : Pos} {fl : List Str} {fe : Rho → Res D} (M : ClH G.K G.mg c fl) (hf : f ∈ fl) (hK : X.K = G.K) (he : EV G X W e fe) (hi : X.N[0]? = some x := by rfl) (hv : Vis X.env.scope x := by first | exact Or.inl rfl | exact Or.inr (Or.inl rfl) | exact Or.inr (Or.inr rfl))
    (hd : (x == ("__debug__" : Str)) = false := by decide) (hcd : (x == ("__classdict__" : Str)) = false := by decide) (hs : swapsWith e (some (.Attribute (.Name x p1) f p2)) pos.line X.env = pure false := by rfl) :
    SS G X W (.Assign [.Attribute (.Name x p1) f p2] e pos) (sFld c f fe) := by
  refine ss_fld hK (fun C hC => ?_) he hi hv hd hcd hs
  obtain ⟨C', h1, _, h3⟩ := M.ex
  rw [h1] at hC
  cases hC
  exact h3 f hf
end
/-- a class as a clause names it -/
structure NmH (mg : Str → Option Value) (x : Str) : Prop where
  ex : ∃ C, mg x = some (.ref C)
section
variable {G : Gam} {X : L2.Cx}
theorem hd_nil {sub : Str → Str → Option Bool} : HdsD sub G X [] [] := .nil
theorem hd_cons {sub : Str → Str → Option Bool} {x : Str} {f : List (Str × V) → Rho → Out} {b₀ : Stmt} {suite : List Stmt} {np pos' : Pos} {hds : List ExceptHandler} {l : List ClD} (hm : NmH X.mg x)
      (hsu : ∀ (fs : List (Str × V)) (G' : Gam) (C : Addr) (a : Addr) (oe : Obj) (d : Option Addr) (pn : List (Addr × Obj)), G'.T = G.T → G'.pin = G.pin → XdAt G' fs d → Zc (.ref C) d oe → (∃ vs, oe.data = .fields vs) → (∃ c, X.mg c = some (.ref C) ∧ sub c x = some true) → SB G' (X.suite a ((a, oe) :: pn)) W0 (b₀ :: suite) (f fs)) (r : HdsD sub G X hds l) (hg : Gl X x := by rfl) (hdb : (x == ("__debug__" : Str)) = false := by decide) :
      HdsD sub G X (.ExceptHandler (some (.Name x np)) none (b₀ :: suite) pos' :: hds) (⟨x, none, f⟩ :: l) := by
  obtain ⟨C, h⟩ := hm.ex
  exact .cons h hg hdb hsu r
theorem hd_consA {sub : Str → Str → Option Bool} {x n : Str} (i : Nat) {f : List (Str × V) → Rho → Out} {b₀ : Stmt} {suite : List Stmt} {np pos' : Pos} {hds : List ExceptHandler} {l : List ClD} (hm : NmH X.mg x) (hpn : G.pin = none)
      (hsu : ∀ (fs : List (Str × V)) (G' : Gam) (C : Addr) (a : Addr) (oe : Obj) (d : Option Addr) (pn : List (Addr × Obj)), G'.T = G.T → G'.pin = some (i, a) → XdAt G' fs d → Zc (.ref C) d oe → (∃ vs, oe.data = .fields vs) → (∃ c, X.mg c = some (.ref C) ∧ sub c x = some true) → SB G' (X.suite a ((a, oe) :: pn)) W0 (b₀ :: suite) (f fs)) (r : HdsD sub G X hds l)
      (hg : Gl X x := by rfl) (hdb : (x == ("__debug__" : Str)) = false := by decide) (hi : X.N[i]? = some n := by rfl) (hln : X.env.kindOf n = some .local := by rfl) :
      HdsD sub G X (.ExceptHandler (some (.Name x np)) (some n) (b₀ :: suite) pos' :: hds) (⟨x, some i, f⟩ :: l) := by
  obtain ⟨C, h⟩ := hm.ex
  exact .consA h hg hdb hi hln hpn hsu r
end
section
variable {G : Gam} {W : WX} {X : L2.Cx} {pos : Pos}
theorem ev_xfH {sub : Str → Str → Option Bool} {y : Str} {fl : List Str} {C a : Addr} {oe : Obj} {d : Option Addr} {pn : List (Addr × Obj)} {i : Nat} {x : Str} {fs : List (Str × V)} {p1 : Pos} (T : XfH X.K X.mg sub y fl) (n : Str) (hn : n ∈ fl) (hz : Zc (.ref C) d oe) (hf : ∃ vs, oe.data = .fields vs) (hp : G.pin = some (i, a)) (hx : XdAt G fs d)
    (hC : ∃ c, X.mg c = some (.ref C) ∧ sub c y = some true)
    (hi : X.N[i]? = some x := by rfl) (hv : Vis X.env.scope x := by first | exact Or.inl rfl | exact Or.inr (Or.inl rfl) | exact Or.inr (Or.inr rfl)) (hd : (x == ("__debug__" : Str)) = false := by decide)
    (hcd : (x == ("__classdict__" : Str)) = false := by decide) (hb : attributeBase (.Name x p1) n X.env (eval (.Name x p1) X.env) = eval (.Name x p1) X.env := by rfl) : EV G (X.suite a ((a, oe) :: pn)) W (.Attribute (.Name x p1) n pos) (eXf fs n) := by
  obtain ⟨c, h1, h2⟩ := hC
  obtain ⟨h3, h4⟩ := T.ex c C h1 h2
  exact ev_xf h3 (h4 n hn) hz hf hp hx hi hv hd hcd hb
end
end DH
/-! What the top has written, as the end asks for it. -/
namespace DH
open PySem L2
section
variable {P : Program} {w : World} {K : PySem.W.Frag} {mg : Str → Option Value} {base h : Heap} {x c mn qual : Str} {st : Stmt} {f C : Addr} {oc : Value} {od an : Option Addr} {osl : Array (Option Value)} {kV doc pm cdv ct : Value} {n k : Nat} {ps : List Str} {m : List D → Res D}
structure DefH (K : PySem.W.Frag) (mg : Str → Option Value) (x : Str) (st : Stmt) : Prop where
  ex : ∃ f fd, Fun K x x st f fd ∧ mg x = some (.ref f)
theorem def_mk (X : K.In h) (G : h.Ns mainGlobals mg) (a : PySem.W.nsIn K mainGlobals x = some (some (.ref f))) (l : K.lookup f = some ⟨oc, od, .func (PySem.W.fnOf x x (defArgs st) (defBody st) (defScope st) .none kV doc pm an cdv ct), osl⟩)
    (c : PySem.W.codeIn K cdv x = true) (k : PySem.W.keepIn K (.ref f) = true) : DefH K mg x st := ⟨f, _, fun_mk l c k, PySem.W.mg_of X G a⟩
abbrev BindsOf (qx qual : Str) (st : Stmt) (ps : List Str) : Prop := ∀ (kV doc pm : Value) (an : Option Addr) (cdv ct : Value) (us : List Value), us.length = ps.length → bindArgs (PySem.W.fnOf qx qual (defArgs st) (defBody st) (defScope st) .none kV doc pm an cdv ct) ⟨us, []⟩ = pure (ps.zip us)
theorem FnE.of (d : DefH K mg x st) (hb : BindsOf x x st ps) (h : ∀ {f fd}, Fun K x x st f fd → FnOk P w K mg base (L2.CX P w) k f fd ps (spF ⟨K, mg⟩ n m)) : FnE P w K mg base x n k m := by
  obtain ⟨f, fd, F, hm⟩ := d.ex
  exact ⟨f, fd, ps, h F, hm, F.kp, F.binds hb⟩
structure ClsF (K : PySem.W.Frag) (mg : Str → Option Value) (c : Str) (fl : List Str) : Prop extends ClH K mg c fl
/-- a class's methods, its __init__ -/
structure MthH (K : PySem.W.Frag) (mg : Str → Option Value) (c mn qual : Str) (st : Stmt) : Prop where
  ex : ∃ C f fd, mg c = some (.ref C) ∧ Meth K C mn f ∧ Fun K mn qual st f fd
theorem mth_mk (X : K.In h) (G : h.Ns mainGlobals mg) (aC : PySem.W.nsIn K mainGlobals c = some (some (.ref C))) (a : PySem.W.findIn K (.ref C) mn = some (some (.ref f))) (i : PySem.W.isFn K (.ref f) = true)
    (l : K.lookup f = some ⟨oc, od, .func (PySem.W.fnOf mn qual (defArgs st) (defBody st) (defScope st) .none kV doc pm an cdv ct), osl⟩) (cc : PySem.W.codeIn K cdv qual = true) (k : PySem.W.keepIn K (.ref f) = true) : MthH K mg c mn qual st :=
  ⟨C, f, _, PySem.W.mg_of X G aC, ⟨a, i, k⟩, fun_mk l cc k⟩
structure IniH (K : PySem.W.Frag) (mg : Str → Option Value) (c qual : Str) (st : Stmt) : Prop where
  ex : ∃ C f fd, mg c = some (.ref C) ∧ Mk K C f ∧ Fun K "__init__" qual st f fd
theorem ini_mk (X : K.In h) (G : h.Ns mainGlobals mg) (aC : PySem.W.nsIn K mainGlobals c = some (some (.ref C))) (a : PySem.W.findIn K (.ref C) "__init__" = some (some (.ref f))) (i : PySem.W.isFn K (.ref f) = true)
    (l : K.lookup f = some ⟨oc, od, .func (PySem.W.fnOf "__init__" qual (defArgs st) (defBody st) (defScope st) .none kV doc pm an cdv ct), osl⟩) (cc : PySem.W.codeIn K cdv qual = true) (k : PySem.W.keepIn K (.ref f) = true)
    (mk : PySem.W.makesIn K C = true) (kc : PySem.W.keepIn K (.ref C) = true) : IniH K mg c qual st := ⟨C, f, _, PySem.W.mg_of X G aC, ⟨mk, a, i, kc⟩, fun_mk l cc k⟩
theorem cl_mk {fl : List Str} (X : K.In h) (G : h.Ns mainGlobals mg) (aC : PySem.W.nsIn K mainGlobals c = some (some (.ref C))) (pg : PySem.W.plainGet K C Str.empty = true) (hd : PySem.W.hasDictIn K C = true) (po : PySem.W.plainOver K C = true)
    (sa : PySem.W.findIn K (.ref C) "__setattr__" = some (some (.builtin "object.__setattr__"))) (no : ∀ f ∈ fl, PySem.W.findIn K (.ref C) f = some none) : ClH K mg c fl := ⟨C, PySem.W.mg_of X G aC, ⟨pg, hd, po, sa⟩, no⟩
theorem MeH.of {fl : List Str} (cl : ClH K mg c fl) (d : MthH K mg c mn qual st) (hb : BindsOf mn qual st ps) (h : ∀ {f fd}, Fun K mn qual st f fd → FnOk P w K mg base (L2.CX P w) k f fd ps (spF ⟨K, mg⟩ n m)) : MeH P w K mg base c mn n k m := by
  obtain ⟨C, f, fd, h1, h2, F⟩ := d.ex
  obtain ⟨C', g1, g2, _⟩ := cl.ex
  rw [h1] at g1
  cases g1
  exact ⟨C, f, fd, ps, h1, g2, h2, h F, F.binds hb⟩
theorem MkH.of {fl : List Str} {m : List D → Res (List (Str × D))} (cl : ClH K mg c fl) (d : IniH K mg c qual st) (hb : BindsOf "__init__" qual st ps) (h : ∀ {f fd}, Fun K "__init__" qual st f fd → FnOk P w K mg base (L2.CX P w) k f fd ps (spI ⟨K, mg⟩ c n m)) : MkH P w K mg base c n k m := by
  obtain ⟨C, f, fd, h1, h2, F⟩ := d.ex
  obtain ⟨C', g1, g2, _⟩ := cl.ex
  rw [h1] at g1
  cases g1
  exact ⟨C, f, fd, ps, h1, g2, h2, h F, F.binds hb⟩
/-- own exceptions -/
theorem x0_mk (X : K.In h) (G : h.Ns mainGlobals mg) (a : PySem.W.nsIn K mainGlobals x = some (some (.ref C))) (ex : PySem.W.excIn K C veL "ValueError.__new__" = true) (kp : PySem.W.keepIn K (.ref C) = true) (sub : PySem.W.subIn K (.ref C) (.type "BaseException") = some true)
    (ty : PySem.W.typeIn K (.ref C) = some (.type "type")) : Ex0H K mg x := ⟨C, PySem.W.mg_of X G a, ex, kp, sub, ty⟩
theorem nm_mk (X : K.In h) (G : h.Ns mainGlobals mg) (a : PySem.W.nsIn K mainGlobals x = some (some (.ref C))) : NmH mg x := ⟨C, PySem.W.mg_of X G a⟩
theorem none_mk (X : K.In h) (G : h.Ns mainGlobals mg) (a : PySem.W.nsIn K mainGlobals x = some none) : mg x = none := PySem.W.mg_none_of X G a
theorem int_mk {i : Int} {t : Tok} (X : K.In h) (G : h.Ns mainGlobals mg) (a : PySem.W.nsIn K mainGlobals x = some (some (.int i t))) : ∃ t, mg x = some (.int i t) := ⟨t, PySem.W.mg_of X G a⟩
/-- the text of an own exception with an __init__ -/
structure XnT (K : PySem.W.Frag) (mg : Str → Option Value) (x qual : Str) (st : Stmt) (fl : List Str) : Prop where
  ex : ∃ C f fd, mg x = some (.ref C) ∧ OexC K C ∧ (∀ f ∈ fl, PySem.W.findIn K (.ref C) f = some none) ∧ PySem.W.findIn K (.ref C) "__init__" = some (some (.ref f)) ∧ PySem.W.typeIn K (.ref f) = some (.type "function") ∧ Fun K "__init__" qual st f fd
theorem xn_mk {fl : List Str} {nm q : Str} {N : Addr} {bs bm : List Value} {sn : List Str} {sub : List Value} {ab : Bool} {col : Option Bool} {dd : Option Addr} {m0 m1 m2 m3 m5 : Option Value} (X : K.In h) (G : h.Ns mainGlobals mg) (a : PySem.W.nsIn K mainGlobals x = some (some (.ref C)))
    (xL : K.lookup C = some (excClassObj nm q C N bs bm true sn sub ab col dd m0 m1 m2 m3 m5 "ValueError.__new__")) (rb : PySem.HandSPX.refsVE bm = true) (sa : PySem.W.findIn K (.ref C) "__setattr__" = some (some (.builtin "object.__setattr__")))
    (eC : PySem.W.subIn K (.ref C) (.type "BaseException") = some true) (tC : PySem.W.typeIn K (.ref C) = some (.type "type")) (kC : PySem.W.keepIn K (.ref C) = true) (no : ∀ f ∈ fl, PySem.W.findIn K (.ref C) f = some none)
    (a1 : PySem.W.findIn K (.ref C) "__init__" = some (some (.ref f))) (t1 : PySem.W.typeIn K (.ref f) = some (.type "function"))
    (l : K.lookup f = some ⟨oc, od, .func (PySem.W.fnOf "__init__" qual (defArgs st) (defBody st) (defScope st) .none kV doc pm an cdv ct), osl⟩) (cc : PySem.W.codeIn K cdv qual = true) (k : PySem.W.keepIn K (.ref f) = true) : XnT K mg x qual st fl :=
  ⟨C, f, _, PySem.W.mg_of X G a, ⟨⟨nm, q, N, bs, bm, sn, sub, ab, col, dd, m0, m1, m2, m3, m5, xL, rb⟩, sa, eC, tC, kC⟩, no, a1, t1, fun_mk l cc k⟩
theorem ExNH.of {fl : List Str} (d : XnT K mg x qual st fl) (hb : BindsOf "__init__" qual st ps) (h : ∀ {f fd}, Fun K "__init__" qual st f fd → FnOk P w K mg base (L2.CX P w) 1 f fd ps (spX K fl)) : ExNH P w K mg base x fl := by
  obtain ⟨C, f, fd, h1, h2, h3, h4, h5, F⟩ := d.ex
  exact ⟨C, h1, h2, h3, f, fd, ps, h4, h5, h F, F.binds hb⟩
/-- which class a clause takes -/
abbrev Tab := List (Str × Str × Bool)
def tabSub (l : Tab) (c k : Str) : Option Bool := (l.find? fun t => decide (t.1 = c) && decide (t.2.1 = k)).map (·.2.2)
def PairOk (K : PySem.W.Frag) (mg : Str → Option Value) (t : Str × Str × Bool) : Prop := ∃ C D, mg t.1 = some (.ref C) ∧ mg t.2.1 = some (.ref D) ∧ PySem.W.exmOne K (.ref C) (.ref D) = some t.2.2
theorem exm_of {b : Bool} {C D : Addr} (h1 : PySem.W.subIn K (.ref D) (.type "BaseException") = some true) (h2 : PySem.W.isClsIn K D = true) (h3 : PySem.W.typeIn K (.ref D) = some (.type "type")) (h4 : PySem.W.subIn K (.ref C) (.ref D) = some b) :
    PySem.W.exmOne K (.ref C) (.ref D) = some b := by
  have e1 : (PySem.W.subIn K (.ref D) (.type "BaseException") == some true) = true := by rw [h1] <;> rfl
  have e2 : ((PySem.W.clsIn K D).isSome && PySem.W.typeIn K (.ref D) == some (.type "type")) = true := by
    have h2' : (PySem.W.clsIn K D).isSome = true := h2
    rw [h2', h3] <;> rfl
  show (if (PySem.W.subIn K (.ref D) (.type "BaseException") == some true) = true then (if ((PySem.W.clsIn K D).isSome && PySem.W.typeIn K (.ref D) == some (.type "type")) = true then PySem.W.subIn K (.ref C) (.ref D) else none) else none) = some b
  rw [if_pos e1, if_pos e2]
  exact h4
theorem pair_mk {a b : Str} {r : Bool} {C D : Addr} (X : K.In h) (G : h.Ns mainGlobals mg) (aC : PySem.W.nsIn K mainGlobals a = some (some (.ref C))) (aD : PySem.W.nsIn K mainGlobals b = some (some (.ref D)))
    (h1 : PySem.W.subIn K (.ref D) (.type "BaseException") = some true) (h2 : PySem.W.isClsIn K D = true) (h3 : PySem.W.typeIn K (.ref D) = some (.type "type")) (h4 : PySem.W.subIn K (.ref C) (.ref D) = some r) : PairOk K mg (a, b, r) :=
  ⟨C, D, PySem.W.mg_of X G aC, PySem.W.mg_of X G aD, exm_of h1 h2 h3 h4⟩
theorem all_nil {Q : Str × Str × Bool → Prop} : ∀ t ∈ ([] : Tab), Q t := fun _ z => nomatch z
theorem all_cons {Q : Str × Str × Bool → Prop} {t : Str × Str × Bool} {l : Tab} (a : Q t) (b : ∀ t ∈ l, Q t) : ∀ u ∈ t :: l, Q u := fun u z => (List.mem_cons.mp z).elim (fun e => e ▸ a) (b u)
theorem fa_nil {Q : Str → Prop} : ∀ t ∈ ([] : List Str), Q t := fun _ z => nomatch z
theorem fa_cons {Q : Str → Prop} {t : Str} {l : List Str} (a : Q t) (b : ∀ t ∈ l, Q t) : ∀ u ∈ t :: l, Q u := fun u z => (List.mem_cons.mp z).elim (fun e => e ▸ a) (b u)
theorem tab_ok {l : Tab} (h : ∀ t ∈ l, PairOk K mg t) : SubOk ⟨K, mg⟩ (tabSub l) := fun c k b e => by
  unfold tabSub at e
  cases z : l.find? (fun t => decide (t.1 = c) && decide (t.2.1 = k)) with
  | none => rw [z] at e; cases e
  | some t =>
    rw [z] at e
    cases e
    have m := List.mem_of_find?_eq_some z
    have q := List.find?_some z
    simp only [Bool.and_eq_true, decide_eq_true_eq] at q
    obtain ⟨C, D, h1, h2, h3⟩ := h t m
    exact ⟨C, D, by rw [← q.1]; exact h1, by rw [← q.2]; exact h2, h3⟩
/-- the classes that a clause takes have the fields that its suite reads -/
def XfOk (K : PySem.W.Frag) (mg : Str → Option Value) (fl : List Str) (c : Str) : Prop := ∃ C, mg c = some (.ref C) ∧ XfC K C ∧ ∀ f ∈ fl, PySem.W.findIn K (.ref C) f = some none
theorem xfo_mk {fl : List Str} (X : K.In h) (G : h.Ns mainGlobals mg) (a : PySem.W.nsIn K mainGlobals c = some (some (.ref C))) (ga : PySem.W.findIn K (.ref C) "__getattribute__" = some (some (.builtin "BaseException.__getattribute__"))) (gg : PySem.W.findIn K (.ref C) "__getattr__" = some none)
    (eC : PySem.W.subIn K (.ref C) (.type "BaseException") = some true) (hd : PySem.W.hasDictIn K C = true) (no : ∀ f ∈ fl, PySem.W.findIn K (.ref C) f = some none) : XfOk K mg fl c := ⟨C, PySem.W.mg_of X G a, ⟨ga, gg, eC, hd⟩, no⟩
theorem xf_of {fl : List Str} {l : Tab} {y : Str} {cs : List Str} (h : ∀ c ∈ cs, XfOk K mg fl c) (hc : (l.all fun t => !(decide (t.2.1 = y) && t.2.2) || decide (t.1 ∈ cs)) = true) : XfH K mg (tabSub l) y fl := ⟨fun c C hC e => by
  unfold tabSub at e
  cases z : l.find? (fun t => decide (t.1 = c) && decide (t.2.1 = y)) with
  | none => rw [z] at e; cases e
  | some t =>
    rw [z] at e
    have e : some t.2.2 = some true := e
    have e := Option.some.inj e
    have m := List.mem_of_find?_eq_some z
    have q := List.find?_some z
    simp only [Bool.and_eq_true, decide_eq_true_eq] at q
    have w := List.all_eq_true.mp hc t m
    rw [e] at w
    simp only [q.2, decide_true, Bool.and_self, Bool.not_true, Bool.false_or, decide_eq_true_eq] at w
    obtain ⟨C', h1, h2, h3⟩ := h t.1 w
    rw [q.1, hC] at h1
    cases h1
    exact ⟨h2, h3⟩⟩
/-- the law's def -/
theorem law_of {fa : Addr} (d : DefH K mg "law" st) (hfa : mg "law" = some (.ref fa)) (hb : ∀ (s : Shared) (u : Value) (kV doc pm : Value) (an : Option Addr) (cdv ct : Value), BindsTo s (PySem.W.fnOf "law" "law" (defArgs st) (defBody st) (defScope st) .none kV doc pm an cdv ct) ⟨[u], []⟩ [("script", u)])
    (hm : ∀ ns : List Int, ns.length ≤ 63 → m [.scr ns] = .ok (.bl true)) (h : ∀ base : Heap, K.In base → base.Ns mainGlobals mg → ∀ {f fd}, Fun K "law" "law" st f fd → FnOk P w K mg base (L2.CX P w) k f fd ["script"] (spF ⟨K, mg⟩ 1 m)) :
    ∃ fd : FuncData, (∀ (s : Shared) (u : Value), BindsTo s fd ⟨[u], []⟩ [("script", u)]) ∧ ∀ base : Heap, K.In base → base.Ns mainGlobals mg → FnOk P w K mg base (L2.CX P w) k fa fd ["script"] (spLaw ⟨K, mg⟩) := by
  obtain ⟨f, fd, F, hf⟩ := d.ex
  rw [hfa] at hf
  cases hf
  refine ⟨fd, fun s u => ?_, fun base h1 h2 => DH.FnOk.law (h base h1 h2 F) hm⟩
  obtain ⟨oc, od, kV, doc, pm, an, cdv, ct, osl, rfl, _, _⟩ := F.ex
  exact hb s u kV doc pm an cdv ct
end
section
open PySem.Spec PyProof.Rows
/-- the law's walk -/
theorem walk_law {k : Nat} {l : PySem.W.OpenLaw} {q : Program} {loose : List Str} {XP : (Str → Option Value) → Heap → Prop} {YP : World → Heap → Prop} {d : DefRec} {K : Params → PySem.W.Frag} (hn : l.most = some 63) (hdf : d.params.defaults = []) (hr : Room k callerA)
    (hY : ∀ (w : World) (h : Heap), YP w h → (K w.params).In h)
    (F : ∀ (w : World) (mg : Str → Option Value) (fa : Addr) (h : Heap), (K w.params).In h → h.Ns mainGlobals mg → mg d.name = some (.ref fa) →
      ∃ fd : FuncData, (∀ (s : Shared) (u : Value), BindsTo s fd ⟨[u], []⟩ [("script", u)]) ∧ ∀ base : Heap, (K w.params).In base → base.Ns mainGlobals mg → FnOk l.prog w (K w.params) mg base (L2.CX l.prog w) k fa fd ["script"] (spLaw ⟨K w.params, mg⟩)) :
    PySem.W.WalkO q loose XP YP l.row.toRowW d [] (fun f vs => PySem.call f vs) :=
  L2.walk_of (n := 63) (k := k) (x := "script") (CX := fun w => L2.CX l.prog w) (sp := fun w vs H Q E => ∃ (a : Addr) (ns : List Int), vs = [.ref a] ∧ SqL (K w.params) H a (ns.map V.int) ∧ ns.length ≤ 63 ∧ ∀ H', Q (.bl true) H') hn (by decide) hdf hr hY F (fun _ _ a ns hl _ hS => ⟨a, ns, rfl, hS, hl, fun _ => rfl⟩) fun _ _ _ _ _ ⟨_, _, _, _, _, _, _, _, _, _, _, _, z⟩ => z
end
end DH
/-! Evaluation of mirrors: equations for simp. -/
namespace DH
open PySem L2
/-- an equation that simp takes with its proof -/
theorem ndq {α : Sort _} {a b : α} (h : a = b) : a = b := h
section
variable {α β γ : Type} {ρ ρ' : Rho} {i j : Int} {d e : D} {xs ys : List D} {k l : LK} {x y : Str} {b c : Bool} {F F' : Rho → Out} {f f' f2 f3 : Rho → Res D} {fs : Rho → Res (List D)} {t t' : Rho → Res Bool} {n : Nat} {cl : Str} {fv : List (Str × V)}
@[simp] theorem rb_ok (a : α) (g : α → Res β) : (Res.ok a).bind g = g a := ndq rfl
@[simp] theorem rb_err (c : Str) (fs : List (Str × V)) (g : α → Res β) : (Res.err c fs : Res α).bind g = .err c fs := ndq rfl
@[simp] theorem rb_stuck (g : α → Res β) : (Res.stuck : Res α).bind g = .stuck := ndq rfl
@[simp] theorem rb_ite (p : Prop) [Decidable p] (a a' : Res α) (g : α → Res β) : (if p then a else a').bind g = if p then a.bind g else a'.bind g := by split <;> rfl
def oGet : Option (Option D) → Res D
  | some (some d) => .ok d
  | _ => .stuck
@[simp] theorem oGet_some : oGet (some (some d)) = .ok d := ndq rfl
@[simp] theorem eVar_eq (i : Nat) : eVar i ρ = oGet ρ[i]? := by unfold eVar oGet; rfl
@[simp] theorem eC_eq : eC d ρ = .ok d := ndq rfl
@[simp] theorem eB2_eq {g : D → D → Res D} : eB2 g f f' ρ = (f ρ).bind fun x => (f' ρ).bind fun y => g x y := ndq rfl
@[simp] theorem eU1_eq {g : D → Res D} : eU1 g f ρ = (f ρ).bind g := ndq rfl
@[simp] theorem aNil_eq : aNil ρ = .ok [] := ndq rfl
@[simp] theorem aCons_eq : aCons f fs ρ = (f ρ).bind fun d => (fs ρ).bind fun ds => .ok (d :: ds) := ndq rfl
@[simp] theorem eN_eq {g : List D → Res D} : eN g fs ρ = (fs ρ).bind g := ndq rfl
/-- to be held, to be handed back, to be frozen -/
def dupK (d : D) : Res D := if d.dup = true then .ok d else .stuck
@[simp] theorem eDup_eq : eDup f ρ = (f ρ).bind dupK := ndq rfl
@[simp] theorem dupK_int : dupK (.int i) = .ok (.int i) := ndq rfl
@[simp] theorem dupK_bl : dupK (.bl b) = .ok (.bl b) := ndq rfl
@[simp] theorem dupK_str : dupK (.str x) = .ok (.str x) := ndq rfl
@[simp] theorem dupK_non : dupK .non = .ok .non := ndq rfl
@[simp] theorem dupK_frz : dupK (.lst .frz xs) = .ok (.lst .frz xs) := ndq rfl
@[simp] theorem dupK_bor : dupK (.lst .bor xs) = .ok (.lst .bor xs) := ndq rfl
@[simp] theorem dupK_ins {c : Str} {fl : List (Str × D)} : dupK (.ins c fl) = .ok (.ins c fl) := ndq rfl
theorem dupK_of (h : d.dup = true) : dupK d = .ok d := if_pos h
@[simp] theorem dupK_tup : dupK (.tup xs) = if D.dupAll xs = true then .ok (.tup xs) else .stuck := ndq rfl
def frzK (d : D) : Res D := if d.ret = true then .ok d.frz else .stuck
@[simp] theorem eFrz_eq : eFrz f ρ = (f ρ).bind frzK := ndq rfl
theorem frzK_of (h : d.ret = true) : frzK d = .ok d.frz := if_pos h
@[simp] theorem frzK_own : frzK (.lst .own xs) = .ok (.lst .frz (D.frzAll xs)) := ndq rfl
@[simp] theorem frzK_frz : frzK (.lst .frz xs) = .ok (.lst .frz xs) := ndq rfl
@[simp] theorem frzK_int : frzK (.int i) = .ok (.int i) := ndq rfl
@[simp] theorem frzK_str : frzK (.str x) = .ok (.str x) := ndq rfl
/-! flags -/
@[simp] theorem dup_int : D.dup (.int i) = true := ndq rfl
@[simp] theorem dup_str : D.dup (.str x) = true := ndq rfl
@[simp] theorem dup_bl : D.dup (.bl b) = true := ndq rfl
@[simp] theorem dup_non : D.dup .non = true := ndq rfl
@[simp] theorem dup_frz : D.dup (.lst .frz xs) = true := ndq rfl
@[simp] theorem dup_bor : D.dup (.lst .bor xs) = true := ndq rfl
@[simp] theorem dup_own : D.dup (.lst .own xs) = false := ndq rfl
@[simp] theorem dup_tup : D.dup (.tup xs) = D.dupAll xs := ndq rfl
@[simp] theorem dup_ins {c : Str} {fl : List (Str × D)} : D.dup (.ins c fl) = true := ndq rfl
@[simp] theorem dup_scr {ns : List Int} : D.dup (.scr ns) = true := ndq rfl
@[simp] theorem dupAll_nil : D.dupAll [] = true := ndq rfl
@[simp] theorem dupAll_cons : D.dupAll (d :: xs) = (d.dup && D.dupAll xs) := ndq rfl
@[simp] theorem ret_int : D.ret (.int i) = true := ndq rfl
@[simp] theorem ret_str : D.ret (.str x) = true := ndq rfl
@[simp] theorem ret_bl : D.ret (.bl b) = true := ndq rfl
@[simp] theorem ret_non : D.ret .non = true := ndq rfl
@[simp] theorem ret_frz : D.ret (.lst .frz xs) = true := ndq rfl
@[simp] theorem ret_bor : D.ret (.lst .bor xs) = false := ndq rfl
@[simp] theorem ret_own : D.ret (.lst .own xs) = true := ndq rfl
@[simp] theorem ret_tup : D.ret (.tup xs) = D.retAll xs := ndq rfl
@[simp] theorem ret_ins {c : Str} {fl : List (Str × D)} : D.ret (.ins c fl) = true := ndq rfl
@[simp] theorem retAll_nil : D.retAll [] = true := ndq rfl
@[simp] theorem retAll_cons : D.retAll (d :: xs) = (d.ret && D.retAll xs) := ndq rfl
@[simp] theorem dupAll_app : D.dupAll (xs ++ ys) = (D.dupAll xs && D.dupAll ys) := dupAll_append xs ys
@[simp] theorem retAll_app : D.retAll (xs ++ ys) = (D.retAll xs && D.retAll ys) := retAll_append xs ys
@[simp] theorem len_int : D.len (.int i) = true := ndq rfl
@[simp] theorem len_str : D.len (.str x) = true := ndq rfl
@[simp] theorem len_bl : D.len (.bl b) = true := ndq rfl
@[simp] theorem len_non : D.len .non = true := ndq rfl
@[simp] theorem len_own : D.len (.lst .own xs) = true := ndq rfl
@[simp] theorem len_frz : D.len (.lst .frz xs) = true := ndq rfl
@[simp] theorem len_bor : D.len (.lst .bor xs) = true := ndq rfl
@[simp] theorem len_tmp : D.len (.lst .tmp xs) = D.lenAll xs := ndq rfl
@[simp] theorem len_tup : D.len (.tup xs) = D.lenAll xs := ndq rfl
@[simp] theorem len_ins {c : Str} {fl : List (Str × D)} : D.len (.ins c fl) = true := ndq rfl
@[simp] theorem len_scr {ns : List Int} : D.len (.scr ns) = true := ndq rfl
@[simp] theorem lenAll_nil : D.lenAll [] = true := ndq rfl
@[simp] theorem lenAll_cons : D.lenAll (d :: xs) = (d.len && D.lenAll xs) := ndq rfl
@[simp] theorem lend_int : D.lend (.int i) = .int i := ndq rfl
@[simp] theorem lend_str : D.lend (.str x) = .str x := ndq rfl
@[simp] theorem lend_bl : D.lend (.bl b) = .bl b := ndq rfl
@[simp] theorem lend_non : D.lend .non = .non := ndq rfl
@[simp] theorem lend_own : D.lend (.lst .own xs) = .lst .bor (D.lendAll xs) := ndq rfl
@[simp] theorem lend_tmp : D.lend (.lst .tmp xs) = .lst .bor (D.lendAll xs) := ndq rfl
@[simp] theorem lend_frz : D.lend (.lst .frz xs) = .lst .frz xs := ndq rfl
@[simp] theorem lend_bor : D.lend (.lst .bor xs) = .lst .bor xs := ndq rfl
@[simp] theorem lend_tup : D.lend (.tup xs) = .tup (D.lendAll xs) := ndq rfl
@[simp] theorem lend_ins {c : Str} {fl : List (Str × D)} : D.lend (.ins c fl) = .ins c fl := ndq rfl
@[simp] theorem lend_scr {ns : List Int} : D.lend (.scr ns) = .scr ns := ndq rfl
@[simp] theorem lendAll_nil : D.lendAll [] = [] := ndq rfl
@[simp] theorem lendAll_cons : D.lendAll (d :: xs) = d.lend :: D.lendAll xs := ndq rfl
@[simp] theorem frz_int : D.frz (.int i) = .int i := ndq rfl
@[simp] theorem frz_str : D.frz (.str x) = .str x := ndq rfl
@[simp] theorem frz_own : D.frz (.lst .own xs) = .lst .frz (D.frzAll xs) := ndq rfl
@[simp] theorem frz_frz : D.frz (.lst .frz xs) = .lst .frz xs := ndq rfl
@[simp] theorem frz_tup : D.frz (.tup xs) = .tup (D.frzAll xs) := ndq rfl
@[simp] theorem frzAll_nil : D.frzAll [] = [] := ndq rfl
@[simp] theorem frzAll_cons : D.frzAll (d :: xs) = d.frz :: D.frzAll xs := ndq rfl
mutual
theorem lend_dup : ∀ {d : D}, d.dup = true → d.lend = d
  | .non, _ => rfl | .bl _, _ => rfl | .int _, _ => rfl | .str _, _ => rfl | .ins _ _, _ => rfl | .scr _, _ => rfl | .obj _ _, _ => rfl
  | .lst .own _, h => nomatch h
  | .lst .tmp _, h => nomatch h
  | .lst .frz _, _ => rfl
  | .lst .bor _, _ => rfl
  | .tup xs, h => congrArg D.tup (lendAll_dup (xs := xs) h)
theorem lendAll_dup : ∀ {xs : List D}, D.dupAll xs = true → D.lendAll xs = xs
  | [], _ => rfl
  | x :: xs, h => by
    obtain ⟨h1, h2⟩ := Bool.and_eq_true_iff.mp h
    show x.lend :: D.lendAll xs = x :: xs
    rw [lend_dup h1, lendAll_dup h2]
end
mutual
theorem frz_dup : ∀ {d : D}, d.dup = true → d.frz = d
  | .non, _ => rfl | .bl _, _ => rfl | .int _, _ => rfl | .str _, _ => rfl | .ins _ _, _ => rfl | .scr _, _ => rfl | .obj _ _, _ => rfl
  | .lst .own _, h => nomatch h
  | .lst .tmp _, h => nomatch h
  | .lst .frz _, _ => rfl
  | .lst .bor _, _ => rfl
  | .tup xs, h => congrArg D.tup (frzAll_dup (xs := xs) h)
theorem frzAll_dup : ∀ {xs : List D}, D.dupAll xs = true → D.frzAll xs = xs
  | [], _ => rfl
  | x :: xs, h => by
    obtain ⟨h1, h2⟩ := Bool.and_eq_true_iff.mp h
    show x.frz :: D.frzAll xs = x :: xs
    rw [frz_dup h1, frzAll_dup h2]
end
mutual
theorem len_dup : ∀ {d : D}, d.dup = true → d.len = true
  | .non, _ => rfl | .bl _, _ => rfl | .int _, _ => rfl | .str _, _ => rfl | .ins _ _, _ => rfl | .scr _, _ => rfl | .obj _ _, h => nomatch h
  | .lst .own _, h => nomatch h
  | .lst .tmp _, h => nomatch h
  | .lst .frz _, _ => rfl
  | .lst .bor _, _ => rfl
  | .tup xs, h => lenAll_dup (xs := xs) h
theorem lenAll_dup : ∀ {xs : List D}, D.dupAll xs = true → D.lenAll xs = true
  | [], _ => rfl
  | x :: xs, h => by
    obtain ⟨h1, h2⟩ := Bool.and_eq_true_iff.mp h
    show (x.len && D.lenAll xs) = true
    rw [len_dup h1, lenAll_dup h2]; rfl
end
/-! encoded lists -/
theorem dupAll_map {q : α → D} (h : ∀ a, (q a).dup = true) (as : List α) : D.dupAll (as.map q) = true := by
  induction as with
  | nil => rfl
  | cons a as ih => show ((q a).dup && D.dupAll (as.map q)) = true; rw [h, ih]; rfl
theorem retAll_map {q : α → D} (h : ∀ a, (q a).ret = true) (as : List α) : D.retAll (as.map q) = true := by
  induction as with
  | nil => rfl
  | cons a as ih => show ((q a).ret && D.retAll (as.map q)) = true; rw [h, ih]; rfl
/-! operators -/
@[simp] theorem addD_ii : addD (.int i) (.int j) = .ok (.int (i + j)) := ndq rfl
@[simp] theorem subD_ii : subD (.int i) (.int j) = .ok (.int (i - j)) := ndq rfl
@[simp] theorem negD_i : negD (.int i) = .ok (.int (-i)) := ndq rfl
@[simp] theorem mulD_ii : mulD (.int i) (.int j) = if mulOk i j = true then .ok (.int (i * j)) else .stuck := ndq rfl
theorem mulOk_l {i j : Int} (h1 : -bigI < i) (h2 : i < bigI) : mulOk i j = true := by unfold mulOk; simp [h1, h2]
theorem mulOk_r {i j : Int} (h1 : -bigI < j) (h2 : j < bigI) : mulOk i j = true := by unfold mulOk; simp [h1, h2]
theorem mulD_l {i j : Int} (h : -18446744073709551616 < i ∧ i < 18446744073709551616) : mulD (.int i) (.int j) = .ok (.int (i * j)) := by rw [mulD_ii, if_pos (mulOk_l h.1 h.2)]
theorem mulD_r {i j : Int} (h : -18446744073709551616 < j ∧ j < 18446744073709551616) : mulD (.int i) (.int j) = .ok (.int (i * j)) := by rw [mulD_ii, if_pos (mulOk_r h.1 h.2)]
theorem fdivD_ii (h : 0 < j ∧ j < 1073741824) : fdivD (.int i) (.int j) = .ok (.int (i / j)) := by
  show (if j ≠ 0 ∧ j.natAbs < 1073741824 then Res.ok (D.int (i.fdiv j)) else .stuck) = _
  rw [if_pos ⟨by omega, by omega⟩, Int.fdiv_eq_ediv_of_nonneg _ (by omega)]
theorem modD_ii (h : 0 < j) : modD (.int i) (.int j) = .ok (.int (i % j)) := by
  show (if j ≠ 0 then Res.ok (D.int (i.fmod j)) else .stuck) = _
  rw [if_pos (by omega), Int.fmod_eq_emod_of_nonneg _ (by omega)]
@[simp] theorem ltD_ii : ltD (.int i) (.int j) = .ok (.bl (decide (i < j))) := ndq rfl
@[simp] theorem leD_ii : leD (.int i) (.int j) = .ok (.bl (decide (i ≤ j))) := ndq rfl
@[simp] theorem gtD_ii : gtD (.int i) (.int j) = .ok (.bl (decide (j < i))) := ndq rfl
@[simp] theorem geD_ii : geD (.int i) (.int j) = .ok (.bl (decide (j ≤ i))) := ndq rfl
@[simp] theorem eqD_ii : eqD (.int i) (.int j) = .ok (.bl (decide (i = j))) := by
  have e0 : eqD (.int i) (.int j) = .ok (.bl (decide (V.int i = V.int j))) := rfl
  rw [e0]
  have e : (V.int i = V.int j) = (i = j) := by rw [V.int.injEq]
  simp only [e]
@[simp] theorem eqD_ss : eqD (.str x) (.str y) = .ok (.bl (decide (x = y))) := by
  have e0 : eqD (.str x) (.str y) = .ok (.bl (decide (V.str x = V.str y))) := rfl
  rw [e0]
  have e : (V.str x = V.str y) = (x = y) := by rw [V.str.injEq]
  simp only [e]
@[simp] theorem notR_bl : notR (.ok (.bl b)) = .ok (.bl (!b)) := ndq rfl
@[simp] theorem neD_ii : neD (.int i) (.int j) = .ok (.bl (!decide (i = j))) := by unfold neD; rw [eqD_ii]; rfl
@[simp] theorem neD_ss : neD (.str x) (.str y) = .ok (.bl (!decide (x = y))) := by unfold neD; rw [eqD_ss]; rfl
/-! tests -/
def bK : D → Res Bool
  | .bl b => .ok b
  | _ => .stuck
@[simp] theorem bE_eq : bE f ρ = (f ρ).bind bK := by
  unfold bE bK; cases f ρ with
  | ok d => cases d <;> rfl
  | err _ _ => rfl
  | stuck => rfl
@[simp] theorem bK_bl : bK (.bl b) = .ok b := ndq rfl
@[simp] theorem bT_eq : bT f ρ = (f ρ).bind truthD := ndq rfl
@[simp] theorem truthD_bl : truthD (.bl b) = .ok b := ndq rfl
@[simp] theorem truthD_int : truthD (.int i) = .ok (i != 0) := ndq rfl
@[simp] theorem truthD_non : truthD .non = .ok false := ndq rfl
@[simp] theorem truthD_lst : truthD (.lst k xs) = .ok (!xs.isEmpty) := ndq rfl
@[simp] theorem truthD_tup : truthD (.tup xs) = .ok (!xs.isEmpty) := ndq rfl
@[simp] theorem bNot_eq : bNot t ρ = (t ρ).bind fun b => .ok (!b) := ndq rfl
@[simp] theorem bAnd_eq : bAnd t t' ρ = (t ρ).bind fun b => if b = true then t' ρ else .ok false := ndq rfl
@[simp] theorem bOr_eq : bOr t t' ρ = (t ρ).bind fun b => if b = true then .ok true else t' ρ := ndq rfl
def blK (d : D) (a b : Res D) : Res D := match d with
  | .bl c => if c = true then a else b
  | _ => .stuck
@[simp] theorem blK_bl {a a' : Res D} : blK (.bl b) a a' = if b = true then a else a' := ndq rfl
@[simp] theorem eAnd_eq : eAnd f f' ρ = (f ρ).bind fun d => blK d (f' ρ) (.ok (.bl false)) := by
  unfold eAnd blK; cases f ρ with
  | ok d => cases d <;> rfl
  | err _ _ => rfl
  | stuck => rfl
@[simp] theorem eOr_eq : eOr f f' ρ = (f ρ).bind fun d => blK d (.ok (.bl true)) (f' ρ) := by
  unfold eOr blK; cases f ρ with
  | ok d => cases d <;> rfl
  | err _ _ => rfl
  | stuck => rfl
@[simp] theorem eNot_eq : eNot f ρ = (f ρ).bind fun d => (truthD d).bind fun b => .ok (.bl (!b)) := ndq rfl
@[simp] theorem isiD_int {T : String} : isiD T (.int i) = .ok (.bl (T == "int")) := ndq rfl
@[simp] theorem isiD_bl {T : String} : isiD T (.bl b) = .ok (.bl (T == "int" || T == "bool")) := ndq rfl
@[simp] theorem isiD_str {T : String} : isiD T (.str x) = .ok (.bl (T == "str")) := ndq rfl
@[simp] theorem isiD_lst {T : String} : isiD T (.lst k xs) = .ok (.bl (T == "list")) := ndq rfl
@[simp] theorem isiD_tup {T : String} : isiD T (.tup xs) = .ok (.bl (T == "tuple")) := ndq rfl
@[simp] theorem isiD_non {T : String} : isiD T .non = .ok (.bl false) := ndq rfl
/-! chains -/
def thenK (d : D) (k : Res D) : Res D := match d with
  | .bl true => k
  | .bl false => .ok (.bl false)
  | _ => .stuck
@[simp] theorem thenK_bl {k : Res D} : thenK (.bl b) k = if b = true then k else .ok (.bl false) := by cases b <;> rfl
@[simp] theorem thenD_eq {r k : Res D} : thenD r k = r.bind fun d => thenK d k := by
  unfold thenD thenK
  cases r with
  | ok d => cases d <;> first | rfl | (rename_i b; cases b <;> rfl)
  | err _ _ => rfl
  | stuck => rfl
@[simp] theorem eCh2_eq {g g' : D → D → Res D} : eCh2 g g' f f' f2 ρ = (f ρ).bind fun x => (f' ρ).bind fun y => thenD (g x y) ((f2 ρ).bind fun z => g' y z) := ndq rfl
@[simp] theorem eCh3_eq {g g' g2 : D → D → Res D} : eCh3 g g' g2 f f' f2 f3 ρ = (f ρ).bind fun x => (f' ρ).bind fun y => thenD (g x y) ((f2 ρ).bind fun z => thenD (g' y z) ((f3 ρ).bind fun u => g2 z u)) := ndq rfl
/-! displays, items -/
@[simp] theorem eTup_eq : eTup fs ρ = (fs ρ).bind fun ds => if ds.length ≤ LINE then .ok (.tup ds) else .stuck := ndq rfl
@[simp] theorem eLst_eq : eLst fs ρ = (fs ρ).bind fun ds => if ds.length ≤ LINE ∧ D.retAll ds = true then .ok (.lst .own ds) else .stuck := ndq rfl
@[simp] theorem eTmp_eq : eTmp fs ρ = (fs ρ).bind fun ds => if ds.length ≤ LINE then .ok (.lst .tmp ds) else .stuck := ndq rfl
theorem line_of {n : Nat} (h : n ≤ 16777216) : n ≤ LINE := h
@[simp] theorem ixD_lst : ixD (.lst k xs) (.int i) = ixA xs i .ok := ndq rfl
@[simp] theorem ixD_tup : ixD (.tup xs) (.int i) = ixA xs i .ok := ndq rfl
@[simp] theorem ixD_scr {ns : List Int} : ixD (.scr ns) (.int i) = ixA ns i fun n => .ok (.int n) := ndq rfl
theorem atI_nat {as : List α} {m : Nat} : atI as (m : Int) = as[m]? := by
  unfold atI ixN
  by_cases h : m < as.length
  · simp [h]
  · simp [h]
theorem ixA_nat {as : List α} {m : Nat} {a : α} {g : α → Res D} (h : as[m]? = some a) : ixA as (m : Int) g = g a := by
  unfold ixA; rw [atI_nat, h]
theorem ixA_int {as : List α} {a : α} {g : α → Res D} (h0 : 0 ≤ i) (h : as[i.toNat]? = some a) : ixA as i g = g a := by
  have e : i = (i.toNat : Int) := by omega
  rw [e]
  exact ixA_nat h
@[simp] theorem ixA_zero {a : α} {as : List α} {g : α → Res D} : ixA (a :: as) 0 g = g a := ixA_nat (m := 0) rfl
@[simp] theorem ixA_one {a a' : α} {as : List α} {g : α → Res D} : ixA (a :: a' :: as) 1 g = g a' := ixA_nat (m := 1) rfl
@[simp] theorem ixA_two {a a' a2 : α} {as : List α} {g : α → Res D} : ixA (a :: a' :: a2 :: as) 2 g = g a2 := ixA_nat (m := 2) rfl
@[simp] theorem ixA_three {a a' a2 a3 : α} {as : List α} {g : α → Res D} : ixA (a :: a' :: a2 :: a3 :: as) 3 g = g a3 := ixA_nat (m := 3) rfl
theorem ixA_last {as : List α} {a : α} {g : α → Res D} (h : as.getLast? = some a) : ixA as (-1) g = g a := by
  have hl : as ≠ [] := fun z => by rw [z] at h; cases h
  have hp : 0 < as.length := List.length_pos_iff.mpr hl
  have e : atI as (-1) = some a := by
    unfold atI ixN
    rw [List.getLast?_eq_getElem?] at h
    rw [if_neg (by omega), if_pos (by omega)]
    have c2 : (-1 + (as.length : Int)).toNat = as.length - 1 := by omega
    show as[(-1 + (as.length : Int)).toNat]? = some a
    rw [c2]
    exact h
  unfold ixA; rw [e]
theorem ixA_map {q : α → D} {as : List α} {g : D → Res D} : ixA (as.map q) i g = ixA as i fun a => g (q a) := by
  unfold ixA; rw [atI_map]; cases atI as i <;> rfl
end
end DH
/-! Evaluation of mirrors: statements, calls, loops. -/
namespace DH
open PySem L2
section
variable {α β γ : Type} {ρ ρ' ρ1 : Rho} {i j : Int} {d e : D} {xs ys : List D} {k l : LK} {x y : Str} {b c : Bool} {F F' : Rho → Out} {f f' f2 f3 : Rho → Res D} {fs : Rho → Res (List D)} {t t' : Rho → Res Bool} {n : Nat} {cl : Str} {fv : List (Str × V)} {o : Out}
@[simp] theorem ob_ok (a : α) (g : α → Out) : oBind (.ok a) ρ g = g a := ndq rfl
@[simp] theorem ob_err (g : α → Out) : oBind (.err x fv) ρ g = .err x fv ρ := ndq rfl
@[simp] theorem ob_stuck (g : α → Out) : oBind .stuck ρ g = .stuck := ndq rfl
@[simp] theorem ob_ite (p : Prop) [Decidable p] (a a' : Res α) (g : α → Out) : oBind (if p then a else a') ρ g = if p then oBind a ρ g else oBind a' ρ g := by split <;> rfl
def oSeq (o : Out) (g : Rho → Out) : Out := match o with
  | .next ρ' => g ρ'
  | o => o
@[simp] theorem sSeq_eq : sSeq F F' ρ = oSeq (F ρ) F' := by unfold sSeq oSeq; cases F ρ <;> rfl
@[simp] theorem oSeq_next {g : Rho → Out} : oSeq (.next ρ) g = g ρ := ndq rfl
@[simp] theorem oSeq_ret {g : Rho → Out} : oSeq (.ret d) g = .ret d := ndq rfl
@[simp] theorem oSeq_brk {g : Rho → Out} : oSeq (.brk ρ) g = .brk ρ := ndq rfl
@[simp] theorem oSeq_cnt {g : Rho → Out} : oSeq (.cnt ρ) g = .cnt ρ := ndq rfl
@[simp] theorem oSeq_err {g : Rho → Out} : oSeq (.err x fv ρ) g = .err x fv ρ := ndq rfl
@[simp] theorem oSeq_stuck {g : Rho → Out} : oSeq .stuck g = .stuck := ndq rfl
@[simp] theorem sNil_eq : sNil ρ = .next ρ := ndq rfl
@[simp] theorem sBrk_eq : sBrk ρ = .brk ρ := ndq rfl
@[simp] theorem sCnt_eq : sCnt ρ = .cnt ρ := ndq rfl
@[simp] theorem sDrop_eq : sDrop f ρ = oBind (f ρ) ρ fun _ => .next ρ := ndq rfl
@[simp] theorem sRet_eq : sRet f ρ = oBind (f ρ) ρ retK := ndq rfl
@[simp] theorem sRetN_eq : sRetN ρ = .ret .non := ndq rfl
@[simp] theorem retK_int : retK (.int i) = .ret (.int i) := ndq rfl
@[simp] theorem retK_bl : retK (.bl b) = .ret (.bl b) := ndq rfl
@[simp] theorem retK_str : retK (.str x) = .ret (.str x) := ndq rfl
@[simp] theorem retK_non : retK .non = .ret .non := ndq rfl
@[simp] theorem retK_own : retK (.lst .own xs) = .ret (.lst .own xs) := ndq rfl
@[simp] theorem retK_frz : retK (.lst .frz xs) = .ret (.lst .frz xs) := ndq rfl
@[simp] theorem retK_ins {c : Str} {fl : List (Str × D)} : retK (.ins c fl) = .ret (.ins c fl) := ndq rfl
@[simp] theorem retK_tup : retK (.tup xs) = if D.retAll xs = true then .ret (.tup xs) else .stuck := ndq rfl
theorem retK_of (h : d.ret = true) : retK d = .ret d := if_pos h
def retO : Option (Option D) → Out
  | some (some d) => retK d
  | _ => .stuck
@[simp] theorem retO_some : retO (some (some d)) = retK d := ndq rfl
@[simp] theorem sRetV_eq (i : Nat) : sRetV i ρ = retO ρ[i]? := by unfold sRetV retO; rfl
@[simp] theorem sSet_eq (i : Nat) : sSet i f ρ = oBind (f ρ) ρ fun d => .next (ρ.set i (some d)) := ndq rfl
@[simp] theorem sIf_eq : sIf t F F' ρ = oBind (t ρ) ρ fun b => if b = true then F ρ else F' ρ := ndq rfl
def augP (op : Int → Int → Int) (i : Nat) (ρ : Rho) (x : Int) (d : D) : Out := match d with
  | .int y => .next (ρ.set i (some (.int (op x y))))
  | _ => .stuck
@[simp] theorem augP_int {op : Int → Int → Int} (i : Nat) (a b : Int) : augP op i ρ a (.int b) = .next (ρ.set i (some (.int (op a b)))) := ndq rfl
def augO (op : Int → Int → Int) (i : Nat) (ρ : Rho) (r : Res D) : Option (Option D) → Out
  | some (some (.int x)) => oBind r ρ (augP op i ρ x)
  | _ => .stuck
@[simp] theorem augO_int {op : Int → Int → Int} {i : Nat} {r : Res D} {a : Int} : augO op i ρ r (some (some (.int a))) = oBind r ρ (augP op i ρ a) := ndq rfl
@[simp] theorem sAug_eq {op : Int → Int → Int} (i : Nat) : sAug op i f ρ = augO op i ρ (f ρ) ρ[i]? := by
  have key : ∀ o, ρ[i]? = o → sAug op i f ρ = augO op i ρ (f ρ) o := fun o h => by
    unfold sAug
    rw [h]
    match o, h with
    | none, _ => rfl
    | some none, _ => rfl
    | some (some (.int a)), h =>
      show oBind (f ρ) ρ (augK op i ρ) = oBind (f ρ) ρ (augP op i ρ a)
      congr 1
      funext d
      unfold augK augP
      rw [h]
      cases d <;> rfl
    | some (some .non), _ => rfl
    | some (some (.bl _)), _ => rfl
    | some (some (.str _)), _ => rfl
    | some (some (.lst _ _)), _ => rfl
    | some (some (.tup _)), _ => rfl
    | some (some (.ins _ _)), _ => rfl
    | some (some (.obj _ _)), _ => rfl
    | some (some (.scr _)), _ => rfl
  exact key _ rfl
def appP (i : Nat) (ρ : Rho) (xs : List D) (d : D) : Out := if d.ret = true ∧ xs.length < LINE then .next (ρ.set i (some (.lst .own (xs ++ [d])))) else .stuck
theorem appP_of {i : Nat} (h : xs.length < LINE) : appP i ρ xs d = if d.ret = true then .next (ρ.set i (some (.lst .own (xs ++ [d])))) else .stuck := by unfold appP; simp [h]
def appO (i : Nat) (ρ : Rho) (r : Res D) : Option (Option D) → Out
  | some (some (.lst .own xs)) => oBind r ρ (appP i ρ xs)
  | _ => .stuck
@[simp] theorem appO_own {i : Nat} {r : Res D} : appO i ρ r (some (some (.lst .own xs))) = oBind r ρ (appP i ρ xs) := ndq rfl
@[simp] theorem sApp_eq (i : Nat) : sApp i f ρ = appO i ρ (f ρ) ρ[i]? := by
  have key : ∀ o, ρ[i]? = o → sApp i f ρ = appO i ρ (f ρ) o := fun o h => by
    unfold sApp
    rw [h]
    match o, h with
    | none, _ => rfl
    | some none, _ => rfl
    | some (some (.lst .own xs)), h =>
      show oBind (f ρ) ρ (appK i ρ) = oBind (f ρ) ρ (appP i ρ xs)
      congr 1
      funext d
      unfold appK appP
      rw [h]
    | some (some (.lst .frz _)), _ => rfl
    | some (some (.lst .bor _)), _ => rfl
    | some (some (.lst .tmp _)), _ => rfl
    | some (some .non), _ => rfl
    | some (some (.bl _)), _ => rfl
    | some (some (.str _)), _ => rfl
    | some (some (.int _)), _ => rfl
    | some (some (.tup _)), _ => rfl
    | some (some (.ins _ _)), _ => rfl
    | some (some (.obj _ _)), _ => rfl
    | some (some (.scr _)), _ => rfl
  exact key _ rfl
def setP (i : Nat) (ρ : Rho) (xs : List D) (m : Option Nat) (d : D) : Out := match m with
  | some m => if d.ret = true ∧ d.dup = true ∧ D.dupAll xs = true then .next (ρ.set i (some (.lst .own (xs.set m d)))) else .stuck
  | none => .stuck
theorem setP_of {i m : Nat} (h : d.ret = true) (h2 : d.dup = true) (h3 : D.dupAll xs = true) : setP i ρ xs (some m) d = .next (ρ.set i (some (.lst .own (xs.set m d)))) := if_pos ⟨h, h2, h3⟩
def setJ (i : Nat) (ρ : Rho) (xs : List D) (d j : D) : Out := match j with
  | .int n => setP i ρ xs (ixN xs.length n) d
  | _ => .stuck
@[simp] theorem setJ_int {i : Nat} {n : Int} : setJ i ρ xs d (.int n) = setP i ρ xs (ixN xs.length n) d := ndq rfl
def setO (i : Nat) (ρ : Rho) (r r' : Res D) : Option (Option D) → Out
  | some (some (.lst .own xs)) => oBind r ρ fun d => oBind r' ρ fun j => setJ i ρ xs d j
  | _ => .stuck
@[simp] theorem setO_own {i : Nat} {r r' : Res D} : setO i ρ r r' (some (some (.lst .own xs))) = oBind r ρ fun d => oBind r' ρ fun j => setJ i ρ xs d j := ndq rfl
@[simp] theorem sIx_eq (i : Nat) : sIx i f' f ρ = setO i ρ (f ρ) (f' ρ) ρ[i]? := by
  have key : ∀ o, ρ[i]? = o → sIx i f' f ρ = setO i ρ (f ρ) (f' ρ) o := fun o h => by
    unfold sIx
    rw [h]
    match o, h with
    | none, _ => rfl
    | some none, _ => rfl
    | some (some (.lst .own xs)), h =>
      show (oBind (f ρ) ρ fun d => oBind (f' ρ) ρ fun j => setK i ρ j d) = oBind (f ρ) ρ fun d => oBind (f' ρ) ρ fun j => setJ i ρ xs d j
      congr 1
      funext d
      congr 1
      funext j
      unfold setK setJ setP
      rw [h]
      cases j <;> rfl
    | some (some (.lst .frz _)), _ => rfl
    | some (some (.lst .bor _)), _ => rfl
    | some (some (.lst .tmp _)), _ => rfl
    | some (some .non), _ => rfl
    | some (some (.bl _)), _ => rfl
    | some (some (.str _)), _ => rfl
    | some (some (.int _)), _ => rfl
    | some (some (.tup _)), _ => rfl
    | some (some (.ins _ _)), _ => rfl
    | some (some (.obj _ _)), _ => rfl
    | some (some (.scr _)), _ => rfl
  exact key _ rfl
theorem ixN_nat {n m : Nat} (h : m < n) : ixN n (m : Int) = some m := by unfold ixN; simp [h]
theorem ixN_zero {n : Nat} (h : 0 < n) : ixN n 0 = some 0 := ixN_nat (m := 0) h
def frzO (i : Nat) (ρ : Rho) (F : Rho → Out) : Option (Option D) → Out
  | some (some d) => if d.ret = true then F (ρ.set i (some d.frz)) else .stuck
  | _ => .stuck
@[simp] theorem frzO_some {i : Nat} : frzO i ρ F (some (some d)) = if d.ret = true then F (ρ.set i (some d.frz)) else .stuck := ndq rfl
@[simp] theorem sFrz_eq (i : Nat) : sFrz i F ρ = frzO i ρ F ρ[i]? := by unfold sFrz frzO; rfl
/-! slots, one after the other -/
@[simp] theorem gN_eq (i : Nat) : gN i d ρ = some (ρ.set i (some d)) := ndq rfl
@[simp] theorem gTp_tup {u : GGs} : gTp u (.tup xs) ρ = u xs ρ := ndq rfl
@[simp] theorem gCn_cons {t : GG} {u : GGs} : gCn t u (d :: xs) ρ = (t d ρ).bind fun ρ' => u xs ρ' := ndq rfl
@[simp] theorem gNl_nil : gNl [] ρ = some ρ := ndq rfl
def unpO (r : Option Rho) : Out := match r with | some ρ' => .next ρ' | none => .stuck
@[simp] theorem unpO_some : unpO (some ρ) = .next ρ := ndq rfl
@[simp] theorem sUnp_eq {g : GG} : sUnp g f ρ = oBind (f ρ) ρ fun d => if d.dup = true then unpO (g d ρ) else .stuck := by
  unfold sUnp unpK unpO; rfl
/-! defs, calls -/
def outF (o : Out) : Res D := match o with
  | .next _ => .ok .non
  | .ret d => if d.ret then .ok d else .stuck
  | .err c fs _ => .err c fs
  | _ => .stuck
theorem runF_eq {ds : List D} : runF F n ds = outF (F (ds.map some ++ List.replicate n none)) := by unfold runF outF; rfl
@[simp] theorem outF_next : outF (.next ρ) = .ok .non := ndq rfl
@[simp] theorem outF_err : outF (.err x fv ρ) = .err x fv := ndq rfl
@[simp] theorem outF_stuck : outF .stuck = .stuck := ndq rfl
@[simp] theorem outF_ret : outF (.ret d) = if d.ret = true then .ok d else .stuck := ndq rfl
@[simp] theorem outF_ite (p : Prop) [Decidable p] (a a' : Out) : outF (if p then a else a') = if p then outF a else outF a' := by split <;> rfl
@[simp] theorem oSeq_ite (p : Prop) [Decidable p] (a a' : Out) (g : Rho → Out) : oSeq (if p then a else a') g = if p then oSeq a g else oSeq a' g := by split <;> rfl
@[simp] theorem eCall_eq {m : List D → Res D} : eCall n m fs ρ = (fs ρ).bind (callD n m) := ndq rfl
theorem callD_eq {m : List D → Res D} {ds : List D} : callD n m ds = if ds.length = n ∧ D.lenAll ds = true then m (D.lendAll ds) else .stuck := rfl
theorem callD_at {m : List D → Res D} {ds es : List D} (h1 : ds.length = n) (h2 : D.lenAll ds = true) (h3 : D.lendAll ds = es) : callD n m ds = m es := by rw [callD_eq, if_pos ⟨h1, h2⟩, h3]
@[simp] theorem eMeth_eq {c mn : Str} {m : List D → Res D} : eMeth c mn n m f fs ρ = (f ρ).bind (methK c mn n m (fs ρ)) := ndq rfl
@[simp] theorem eMake_eq {c : Str} {m : List D → Res (List (Str × D))} : eMake c n m fs ρ = (fs ρ).bind (makeD c n m) := ndq rfl
theorem makeD_at {c : Str} {m : List D → Res (List (Str × D))} {ds es : List D} (h1 : ds.length = n) (h2 : D.lenAll ds = true) (h3 : D.lendAll ds = es) : makeD c n m ds = (m es).bind fun fs => .ok (.ins c fs) := by
  unfold makeD; rw [if_pos ⟨h1, h2⟩, h3]
theorem methK_at {c mn : Str} {m : List D → Res D} {fl : List (Str × D)} {r : Res (List D)} (h : (fl.lookup mn).isNone = true) : methK c mn n m r (.ins c fl) = r.bind fun ds => callD n m (.ins c fl :: ds) := by
  show (if c = c ∧ (fl.lookup mn).isNone = true then _ else Res.stuck) = _
  rw [if_pos ⟨rfl, h⟩]
@[simp] theorem sRaise0_eq : sRaise0 x ρ = .err x [] ρ := ndq rfl
@[simp] theorem sRaise_eq {fl : List Str} : sRaise x fl fs ρ = oBind (fs ρ) ρ (raiseK x fl ρ) := ndq rfl
@[simp] theorem raiseK_int1 {g : Str} {i : Int} : raiseK x [g] ρ [.int i] = .err x [(g, .int i)] ρ := ndq rfl
/-! __init__ -/
def outI (c : Str) (o : Out) : Res (List (Str × D)) := match o with
  | .next ρ' => endI c ρ'[(0 : Nat)]?
  | .err c fs _ => .err c fs
  | _ => .stuck
theorem runI_eq {c : Str} {ds : List D} : runI F c n ds = outI c (F ((some (.obj c []) :: ds.map some) ++ List.replicate n none)) := by unfold runI outI; rfl
@[simp] theorem outI_next {c : Str} : outI c (.next ρ) = endI c ρ[(0 : Nat)]? := ndq rfl
@[simp] theorem outI_err {c : Str} : outI c (.err x fv ρ) = .err x fv := ndq rfl
@[simp] theorem outI_ite {c : Str} (p : Prop) [Decidable p] (a a' : Out) : outI c (if p then a else a') = if p then outI c a else outI c a' := by split <;> rfl
@[simp] theorem endI_obj {c : Str} {fl : List (Str × D)} : endI c (some (some (.obj c fl))) = .ok fl := if_pos rfl
def fldP (g : Str) (ρ : Rho) (c : Str) (fl : List (Str × D)) (d : D) : Out := if d.dup = true ∧ d.ret = true ∧ fl.length < 1000 then .next (ρ.set 0 (some (.obj c (putD g d fl)))) else .stuck
@[simp] theorem fldP_eq {g c : Str} {fl : List (Str × D)} : fldP g ρ c fl d = if d.dup = true ∧ d.ret = true ∧ fl.length < 1000 then .next (ρ.set 0 (some (.obj c (putD g d fl)))) else .stuck := ndq rfl
def fldO (c g : Str) (ρ : Rho) (r : Res D) : Option (Option D) → Out
  | some (some (.obj c' fl)) => if c' = c then oBind r ρ (fldP g ρ c' fl) else .stuck
  | _ => .stuck
@[simp] theorem fldO_obj {c g : Str} {r : Res D} {fl : List (Str × D)} : fldO c g ρ r (some (some (.obj c fl))) = oBind r ρ (fldP g ρ c fl) := if_pos rfl
@[simp] theorem sFld_eq {c g : Str} : sFld c g f ρ = fldO c g ρ (f ρ) ρ[(0 : Nat)]? := by
  have key : ∀ o, ρ[(0 : Nat)]? = o → sFld c g f ρ = fldO c g ρ (f ρ) o := fun o h => by
    unfold sFld
    rw [h]
    match o, h with
    | none, _ => rfl
    | some none, _ => rfl
    | some (some (.obj c' fl)), h =>
      show (if c' = c then oBind (f ρ) ρ (fldK g ρ) else .stuck) = if c' = c then oBind (f ρ) ρ (fldP g ρ c' fl) else .stuck
      have e : fldK g ρ = fldP g ρ c' fl := by
        funext d
        unfold fldK fldP
        rw [h]
      rw [e]
    | some (some (.lst _ _)), _ => rfl
    | some (some .non), _ => rfl
    | some (some (.bl _)), _ => rfl
    | some (some (.str _)), _ => rfl
    | some (some (.int _)), _ => rfl
    | some (some (.tup _)), _ => rfl
    | some (some (.ins _ _)), _ => rfl
    | some (some (.scr _)), _ => rfl
  exact key _ rfl
/-! try -/
def tryO (sub : Str → Str → Option Bool) (hs : List ClD) (o : Out) : Out := match o with
  | .err c fs ρ' => handle sub c fs ρ' hs
  | o => o
@[simp] theorem sTry_eq {sub : Str → Str → Option Bool} {hs : List ClD} : sTry sub F hs ρ = tryO sub hs (F ρ) := by unfold sTry tryO; cases F ρ <;> rfl
@[simp] theorem tryO_next {sub : Str → Str → Option Bool} {hs : List ClD} : tryO sub hs (.next ρ) = .next ρ := ndq rfl
@[simp] theorem tryO_ret {sub : Str → Str → Option Bool} {hs : List ClD} : tryO sub hs (.ret d) = .ret d := ndq rfl
@[simp] theorem tryO_err {sub : Str → Str → Option Bool} {hs : List ClD} : tryO sub hs (.err x fv ρ) = handle sub x fv ρ hs := ndq rfl
@[simp] theorem handle_nil {sub : Str → Str → Option Bool} : handle sub x fv ρ [] = .err x fv ρ := ndq rfl
theorem handle_yes {sub : Str → Str → Option Bool} {kk : ClD} {r : List ClD} (h : sub x kk.cls = some true) : handle sub x fv ρ (kk :: r) = if slotOk ρ kk.slot = true then behindA kk.slot (kk.f fv (rhoA ρ kk.slot)) else .stuck := by
  show (match sub x kk.cls with | some true => _ | some false => _ | none => _) = _
  rw [h]
theorem handle_no {sub : Str → Str → Option Bool} {kk : ClD} {r : List ClD} (h : sub x kk.cls = some false) : handle sub x fv ρ (kk :: r) = handle sub x fv ρ r := by
  show (match sub x kk.cls with | some true => _ | some false => _ | none => _) = _
  rw [h]
@[simp] theorem behindA_next {o : Option Nat} : behindA o (.next ρ) = .next (rhoA ρ o) := ndq rfl
@[simp] theorem behindA_ret {o : Option Nat} : behindA o (.ret d) = .ret d := ndq rfl
@[simp] theorem eXf_eq {g : Str} : eXf fv g ρ = xfR (fv.lookup g) := ndq rfl
/-! sources, loops -/
@[simp] theorem iOf_eq : iOf f ρ = (f ρ).bind itemsD := ndq rfl
@[simp] theorem iNew_eq : iNew f ρ = (f ρ).bind newItemsD := ndq rfl
@[simp] theorem iRg_eq {g : List D → Res (List D)} : iRg g fs ρ = (fs ρ).bind g := ndq rfl
@[simp] theorem itemsD_frz : itemsD (.lst .frz xs) = .ok xs := ndq rfl
@[simp] theorem itemsD_bor : itemsD (.lst .bor xs) = .ok xs := ndq rfl
@[simp] theorem itemsD_tup : itemsD (.tup xs) = if D.dupAll xs = true then .ok xs else .stuck := ndq rfl
@[simp] theorem newItemsD_own : newItemsD (.lst .own xs) = if D.dupAll xs = true then .ok xs else .stuck := ndq rfl
@[simp] theorem newItemsD_frz : newItemsD (.lst .frz xs) = .ok xs := ndq rfl
@[simp] theorem newItemsD_bor : newItemsD (.lst .bor xs) = .ok xs := ndq rfl
theorem rng1_at {m : Nat} (h : m < 4611686018427387904) : rng1D [.int (m : Int)] = .ok ((List.range m).map fun (i : Nat) => .int (i : Int)) := by
  show (if (m : Int) < 4611686018427387904 ∧ -4611686018427387904 ≤ (m : Int) then Res.ok (rngL 0 (m : Int).toNat) else .stuck) = _
  rw [if_pos ⟨by omega, by omega⟩]
  unfold rngL
  simp
theorem rng1_int (h : i < 4611686018427387904) (h2 : -4611686018427387904 ≤ i) : rng1D [.int i] = .ok ((List.range i.toNat).map fun (i : Nat) => .int (i : Int)) := by
  show (if i < 4611686018427387904 ∧ -4611686018427387904 ≤ i then Res.ok (rngL 0 i.toNat) else .stuck) = _
  rw [if_pos ⟨h, h2⟩]
  unfold rngL
  simp
theorem rng2_int {a b : Int} (h : a < 4611686018427387904) (h2 : -4611686018427387904 ≤ a) (h3 : b < 4611686018427387904) (h4 : -4611686018427387904 ≤ b) : rng2D [.int a, .int b] = .ok ((List.range (b - a).toNat).map fun (i : Nat) => .int (a + (i : Int))) := by
  show (if a < 4611686018427387904 ∧ -4611686018427387904 ≤ a ∧ b < 4611686018427387904 ∧ -4611686018427387904 ≤ b then Res.ok (rngL a (b - a).toNat) else .stuck) = _
  rw [if_pos ⟨h, h2, h3, h4⟩]
  rfl
theorem rngL_succ (lo : Int) (n : Nat) : rngL lo (n + 1) = .int lo :: rngL (lo + 1) n := by
  unfold rngL
  rw [List.range_succ_eq_map, List.map_cons, List.map_map]
  congr 1
  · simp
  · refine List.map_congr_left fun i _ => ?_
    show D.int (lo + ((i + 1 : Nat) : Int)) = D.int (lo + 1 + (i : Int))
    congr 1
    omega
theorem rng2_ok {a b : Int} (h : a < 4611686018427387904) (h2 : -4611686018427387904 ≤ a) (h3 : b < 4611686018427387904) (h4 : -4611686018427387904 ≤ b) : rng2D [.int a, .int b] = .ok (rngL a (b - a).toNat) := if_pos ⟨h, h2, h3, h4⟩
@[simp] theorem sFor_eq {g : GG} {src : Rho → Res (List D)} : sFor g src F ρ = oBind (src ρ) ρ fun ds => forD g F ds ρ := ndq rfl
@[simp] theorem forD_nil {g : GG} : forD g F [] ρ = .next ρ := ndq rfl
/-- a turn ends so -/
def okS (o : Out) (I : Rho → Prop) : Prop := match o with
  | .next ρ => I ρ
  | .cnt ρ => I ρ
  | _ => False
@[simp] theorem okS_next {I : Rho → Prop} : okS (.next ρ) I = I ρ := ndq rfl
@[simp] theorem okS_cnt {I : Rho → Prop} : okS (.cnt ρ) I = I ρ := ndq rfl
@[simp] theorem okS_ite {I : Rho → Prop} (p : Prop) [Decidable p] (a a' : Out) : okS (if p then a else a') I = if p then okS a I else okS a' I := by split <;> rfl
/-- a loop that never leaves, the items walked so far known -/
theorem for_upto {q : α → D} {g : GG} (all : List α) (Inv : List α → Rho → Prop) (h : ∀ done a rest ρ, all = done ++ a :: rest → Inv done ρ → ∃ ρ1, g (q a) ρ = some ρ1 ∧ okS (F ρ1) (Inv (done ++ [a]))) : ∀ {as done : List α} {ρ : Rho}, all = done ++ as → Inv done ρ →
    ∃ ρ', forD g F (as.map q) ρ = .next ρ' ∧ Inv all ρ'
  | [], done, ρ, e, hi => ⟨ρ, rfl, by rw [e, List.append_nil]; exact hi⟩
  | a :: as, done, ρ, e, hi => by
    obtain ⟨ρ1, e1, e2⟩ := h done a as ρ e hi
    have e0 : forD g F ((a :: as).map q) ρ = match F ρ1 with | .next ρ2 => forD g F (as.map q) ρ2 | .cnt ρ2 => forD g F (as.map q) ρ2 | .brk ρ2 => .next ρ2 | o => o := by
      show (match g (q a) ρ with | none => Out.stuck | some ρ1 => match F ρ1 with | .next ρ2 => forD g F (as.map q) ρ2 | .cnt ρ2 => forD g F (as.map q) ρ2 | .brk ρ2 => .next ρ2 | o => o) = _
      rw [e1]
    rw [e0]
    cases z : F ρ1 with
    | next ρ2 =>
      rw [z] at e2
      exact for_upto all Inv h (as := as) (done := done ++ [a]) (ρ := ρ2) (by rw [List.append_assoc]; exact e) e2
    | cnt ρ2 =>
      rw [z] at e2
      exact for_upto all Inv h (as := as) (done := done ++ [a]) (ρ := ρ2) (by rw [List.append_assoc]; exact e) e2
    | ret _ => rw [z] at e2; exact e2.elim
    | brk _ => rw [z] at e2; exact e2.elim
    | err _ _ _ => rw [z] at e2; exact e2.elim
    | stuck => rw [z] at e2; exact e2.elim
/-- .. from the first item on -/
theorem for_all {q : α → D} {g : GG} {as : List α} (Inv : List α → Rho → Prop) (h0 : Inv [] ρ) (h : ∀ done a rest ρ, as = done ++ a :: rest → Inv done ρ → ∃ ρ1, g (q a) ρ = some ρ1 ∧ okS (F ρ1) (Inv (done ++ [a]))) :
    ∃ ρ', forD g F (as.map q) ρ = .next ρ' ∧ Inv as ρ' := for_upto as Inv h (done := []) rfl h0
/-- .. over a range -/
theorem for_range {g : GG} {m : Nat} (Inv : Nat → Rho → Prop) (h0 : Inv 0 ρ) (h : ∀ k ρ, k < m → Inv k ρ → ∃ ρ1, g (.int (k : Int)) ρ = some ρ1 ∧ okS (F ρ1) (Inv (k + 1))) :
    ∃ ρ', forD g F ((List.range m).map fun (i : Nat) => .int (i : Int)) ρ = .next ρ' ∧ Inv m ρ' := by
  obtain ⟨ρ', e, i⟩ := for_all (q := fun (i : Nat) => D.int (i : Int)) (as := List.range m) (F := F) (g := g) (ρ := ρ) (fun done ρ => Inv done.length ρ) h0 (fun done a rest ρ e hi => by
    have hl : done.length < m := by
      have z := congrArg List.length e
      simp at z
      omega
    have ha : a = done.length := by
      have z := congrArg (fun l => l[done.length]?) e
      simp at z
      rw [List.getElem?_range hl] at z
      exact (Option.some.inj z).symm
    subst ha
    obtain ⟨ρ1, e1, e2⟩ := h _ ρ hl hi
    exact ⟨ρ1, e1, by simpa using e2⟩)
  exact ⟨ρ', e, by simpa using i⟩
theorem for_cons {g : GG} (h : g d ρ = some ρ1) : forD g F (d :: xs) ρ = match F ρ1 with | .next ρ2 => forD g F xs ρ2 | .cnt ρ2 => forD g F xs ρ2 | .brk ρ2 => .next ρ2 | o => o := by
  show (match g d ρ with | none => Out.stuck | some ρ1 => match F ρ1 with | .next ρ2 => forD g F xs ρ2 | .cnt ρ2 => forD g F xs ρ2 | .brk ρ2 => .next ρ2 | o => o) = _
  rw [h]
/-! comprehensions -/
theorem comp_map {q : α → D} {g : GG} {p : α → Bool} {r : α → D} : ∀ {as : List α}, (∀ a ∈ as, ∃ ρ1, g (q a) ρ = some ρ1 ∧ t ρ1 = .ok (p a) ∧ (p a = true → f ρ1 = .ok (r a))) → compD g t f ρ (as.map q) = .ok ((as.filter p).map r)
  | [], _ => rfl
  | a :: as, h => by
    obtain ⟨ρ1, e1, e2, e3⟩ := h a List.mem_cons_self
    have ih := comp_map (as := as) fun a m => h a (List.mem_cons_of_mem _ m)
    show compD g t f ρ (q a :: as.map q) = _
    unfold compD
    rw [e1]
    simp only [e2, noErr, rb_ok, ih]
    cases z : p a with
    | true =>
      simp only [if_true, e3 z, rb_ok, List.filter_cons_of_pos z, List.map_cons]
    | false =>
      simp only [Bool.false_eq_true, if_false]
      rw [List.filter_cons_of_neg (by rw [z]; exact Bool.false_ne_true)]
theorem eComp_eq {vs : List Nat} {src : Rho → Res (List D)} {g : GG} {ds ys : List D} (h1 : src ρ = .ok ds) (h2 : compD g t f (wipeR ρ vs) ds = .ok ys) (h3 : ys.length ≤ LINE) (h4 : D.retAll ys = true) : eComp vs src g t f ρ = .ok (.lst .own ys) := by
  unfold eComp
  rw [h1, rb_ok, h2, rb_ok, if_pos ⟨h3, h4⟩]
@[simp] theorem bYes_eq : bYes ρ = .ok true := ndq rfl
theorem powD_ii (h : 0 ≤ j ∧ j ≤ 1000000 ∧ i.natAbs < 18446744073709551616) : powD (.int i) (.int j) = .ok (.int (i ^ j.toNat)) := if_pos h
/-! lists joined, repeated, cut -/
@[simp] theorem elOk_own : elOk .own xs = D.dupAll xs := rfl
@[simp] theorem elOk_frz : elOk .frz xs = true := rfl
@[simp] theorem elOk_bor : elOk .bor xs = D.retAll xs := rfl
@[simp] theorem elOk_tmp : elOk .tmp xs = (D.dupAll xs && D.retAll xs) := rfl
@[simp] theorem addD_ll : addD (.lst k xs) (.lst l ys) = if elOk k xs = true ∧ elOk l ys = true ∧ xs.length + ys.length ≤ LINE then .ok (.lst .own (xs ++ ys)) else .stuck := ndq rfl
@[simp] theorem mulD_li : mulD (.lst k xs) (.int j) = if elOk k xs = true ∧ -9223372036854775808 ≤ j ∧ j < 9223372036854775808 ∧ xs.length * j.toNat ≤ LINE then .ok (.lst .own (List.replicate j.toNat xs).flatten) else .stuck := ndq rfl
@[simp] theorem eCut_eq {lo hi : Rho → Res (Option Int)} : eCut f lo hi ρ = (f ρ).bind fun d => (lo ρ).bind fun l => (hi ρ).bind fun h => cutD l h d := ndq rfl
@[simp] theorem oNone_eq : oNone ρ = .ok none := ndq rfl
@[simp] theorem oSome_eq : oSome f ρ = (f ρ).bind oInt := ndq rfl
@[simp] theorem oInt_int : oInt (.int i) = .ok (some i) := ndq rfl
@[simp] theorem cutD_lst {lo hi : Option Int} : cutD lo hi (.lst k xs) = if elOk k xs = true then .ok (.lst .own (cutA xs lo hi)) else .stuck := ndq rfl
theorem cutA_map {q : α → β} {as : List α} {lo hi : Option Int} : cutA (as.map q) lo hi = (cutA as lo hi).map q := by
  unfold cutA
  rw [List.length_map, ← List.map_drop, ← List.map_take]
theorem cutA_to {as : List α} {n : Nat} (h : n ≤ as.length) : cutA as none (some (n : Int)) = as.take n := by
  unfold cutA
  rw [HT.sIx_none, HT.sIx_nat, List.drop_zero]
  congr 1
  omega
theorem cutA_from {as : List α} {n : Nat} (h : n ≤ as.length) : cutA as (some (n : Int)) none = as.drop n := by
  unfold cutA
  rw [HT.sIx_none, HT.sIx_nat, Nat.min_eq_left h]
  exact List.take_of_length_le (by rw [List.length_drop]; omega)
theorem cutA_mid {as : List α} {n m : Nat} (h : n ≤ m) (h2 : m ≤ as.length) : cutA as (some (n : Int)) (some (m : Int)) = (as.drop n).take (m - n) := by
  unfold cutA
  rw [HT.sIx_nat, HT.sIx_nat, Nat.min_eq_left h2, Nat.min_eq_left (by omega)]
@[simp] theorem frzAll_app : D.frzAll (xs ++ ys) = D.frzAll xs ++ D.frzAll ys := by
  induction xs with
  | nil => rfl
  | cons x xs ih => show x.frz :: D.frzAll (xs ++ ys) = _; rw [ih]; rfl
@[simp] theorem lendAll_app : D.lendAll (xs ++ ys) = D.lendAll xs ++ D.lendAll ys := by
  induction xs with
  | nil => rfl
  | cons x xs ih => show x.lend :: D.lendAll (xs ++ ys) = _; rw [ih]; rfl
@[simp] theorem lenAll_app : D.lenAll (xs ++ ys) = (D.lenAll xs && D.lenAll ys) := by
  induction xs with
  | nil => rfl
  | cons x xs ih => show (x.len && D.lenAll (xs ++ ys)) = ((x.len && D.lenAll xs) && D.lenAll ys); rw [ih, Bool.and_assoc]
/-! lists compared -/
theorem eqD_same (hs : sV d = none) (h : plain 12 d = true) (h2 : plain 12 e = true) (ht : toPy d = toPy e) : eqD d e = .ok (.bl true) := by
  have z : eqb d e = true := by
    unfold eqb
    rw [← ht]
    exact PySem.SeqAt.eqv_refl _ (plain_py 12 d h).1
  unfold eqD
  rw [hs]
  rw [if_pos ⟨h, h2⟩, z]
theorem neD_same (hs : sV d = none) (h : plain 12 d = true) (h2 : plain 12 e = true) (ht : toPy d = toPy e) : neD d e = .ok (.bl false) := by
  unfold neD
  rw [eqD_same hs h h2 ht]
  rfl
theorem plain_lst (n : Nat) : plain (n + 1) (.lst k xs) = plainAll n xs := rfl
theorem plain_tup (n : Nat) : plain (n + 1) (.tup xs) = plainAll n xs := rfl
theorem plainAll_map {q : α → D} {n : Nat} (h : ∀ a, plain n (q a) = true) : ∀ as : List α, plainAll n (as.map q) = true
  | [] => by cases n <;> rfl
  | a :: as => by
    have e : plainAll n ((a :: as).map q) = (plain n (q a) && plainAll n (as.map q)) := by cases n <;> rfl
    rw [e, h, plainAll_map h as]
    rfl
theorem toPy_lst : toPy (.lst k xs) = toPy (.lst l xs) := rfl
/-! sums, lengths -/
@[simp] theorem lenD_lst : lenD [.lst k xs] = .ok (.int xs.length) := ndq rfl
@[simp] theorem lenD_tup : lenD [.tup xs] = .ok (.int xs.length) := ndq rfl
@[simp] theorem lenD_scr {ns : List Int} : lenD [.scr ns] = .ok (.int ns.length) := ndq rfl
@[simp] theorem intD_int : intD [.int i] = .ok (.int i) := ndq rfl
@[simp] theorem absD_int : absD [.int i] = .ok (.int (if i < 0 then -i else i)) := ndq rfl
@[simp] theorem max2D_ii : max2D [.int i, .int j] = .ok (.int (if j > i then j else i)) := ndq rfl
@[simp] theorem min2D_ii : min2D [.int i, .int j] = .ok (.int (if j < i then j else i)) := ndq rfl
theorem sumD_map {as : List α} {h : α → Int} : sumD [.lst k (as.map fun a => .int (h a))] = .ok (.int (as.map h).sum) := by
  show sumR (toInts (as.map fun a => D.int (h a))) = _
  rw [toInts_map]; rfl
end
end DH
namespace K45
open PySem L2 DH
/-- which class a clause takes -/
def tabT : Tab := [("BadOrder", "MeterError", true), ("BadOrder", "OutOfRange", false), ("Empty", "MeterError", true), ("Empty", "OutOfRange", false), ("OutOfRange", "MeterError", true), ("OutOfRange", "OutOfRange", true), ("TooMany", "MeterError", true), ("TooMany", "OutOfRange", false)]
def subT : Str → Str → Option Bool := tabSub tabT
theorem sub_BadOrder_MeterError : subT "BadOrder" "MeterError" = some true := by decide +kernel
theorem sub_BadOrder_OutOfRange : subT "BadOrder" "OutOfRange" = some false := by decide +kernel
theorem sub_Empty_MeterError : subT "Empty" "MeterError" = some true := by decide +kernel
theorem sub_Empty_OutOfRange : subT "Empty" "OutOfRange" = some false := by decide +kernel
theorem sub_OutOfRange_MeterError : subT "OutOfRange" "MeterError" = some true := by decide +kernel
theorem sub_OutOfRange_OutOfRange : subT "OutOfRange" "OutOfRange" = some true := by decide +kernel
theorem sub_TooMany_MeterError : subT "TooMany" "MeterError" = some true := by decide +kernel
theorem sub_TooMany_OutOfRange : subT "TooMany" "OutOfRange" = some false := by decide +kernel
/-! _law_row: 0 cell, 1 many, 2 row, 3 k, 4 mixed -/
def b__law_row : Rho → Out :=
  (sSeq (sSet 2 (eLst aNil))
  (sSeq (sIf (bE (eB2 geD (eVar 0) (eB2 powD (eC (.int 10)) (eC (.int 18))))) (sSeq (sFor (gN 3) (iRg rng1D (aCons (eVar 1) aNil)) (sSeq (sApp 2 (eB2 modD (eN intD (aCons (eVar 0) aNil)) (eC (.int 1000000))))
      (sSet 0 (eB2 fdivD (eVar 0) (eC (.int 1000000))))))
    (sRetV 2)) sNil)
  (sSeq (sFor (gN 3) (iRg rng1D (aCons (eVar 1) aNil)) (sSeq (sSet 4 (eB2 modD (eN intD (aCons (eB2 addD (eB2 addD (eB2 mulD (eVar 0) (eC (.int 48271))) (eB2 mulD (eVar 3) (eC (.int 69621)))) (eC (.int 4177))) aNil)) (eC (.int 2147483647))))
    (sApp 2 (eB2 modD (eN intD (aCons (eB2 addD (eB2 addD (eB2 mulD (eVar 4) (eC (.int 16807))) (eB2 mulD (eB2 mulD (eVar 3) (eVar 3)) (eC (.int 7919)))) (eC (.int 271))) aNil)) (eC (.int 2147483629))))))
  (sRetV 2))))
def m__law_row : List D → Res D := runF b__law_row 3
/-! _law_at: 0 row, 1 at, 2 many -/
def b__law_at : Rho → Out :=
  (sRet (eB2 modD (eN intD (aCons (eB2 ixD (eVar 0) (eVar 1)) aNil)) (eVar 2)))
def m__law_at : List D → Res D := runF b__law_at 0
/-! _law_steps: 0 row, 1 at, 2 count, 3 wide, 4 mode, 5 units, 6 prices, 7 k, 8 room -/
def b__law_steps : Rho → Out :=
  (sSeq (sSet 5 (eLst (aCons (eC (.int 0)) aNil)))
  (sSeq (sSet 6 (eLst aNil))
  (sSeq (sFor (gN 7) (iRg rng1D (aCons (eVar 2) aNil)) (sSeq (sIf (bE (eB2 gtD (eVar 7) (eC (.int 0)))) (sSeq (sSet 8 (eB2 subD (eB2 addD (eB2 subD (eC (.int 1000001)) (eVar 2)) (eVar 7)) (eB2 ixD (eVar 5) (eU1 negD (eC (.int 1))))))
      (sApp 5 (eB2 addD (eB2 addD (eB2 ixD (eVar 5) (eU1 negD (eC (.int 1)))) (eC (.int 1))) (eCall 3 m__law_at (aCons (eVar 0) (aCons (eB2 addD (eVar 1) (eB2 mulD (eC (.int 3)) (eVar 7))) (aCons (eN min2D (aCons (eVar 8) (aCons (eB2 ixD (eTmp (aCons (eC (.int 6)) (aCons (eC (.int 1000000)) aNil))) (eVar 3)) aNil))) aNil))))))) sNil)
    (sSeq (sApp 6 (eCall 3 m__law_at (aCons (eVar 0) (aCons (eB2 addD (eB2 addD (eVar 1) (eB2 mulD (eC (.int 3)) (eVar 7))) (eC (.int 1))) (aCons (eB2 ixD (eTmp (aCons (eC (.int 10)) (aCons (eC (.int 1000001)) aNil))) (eVar 3)) aNil)))))
    (sIf (bAnd (bE (eB2 gtD (eVar 7) (eC (.int 0)))) (bE (eB2 eqD (eCall 3 m__law_at (aCons (eVar 0) (aCons (eB2 addD (eB2 addD (eVar 1) (eB2 mulD (eC (.int 3)) (eVar 7))) (eC (.int 2))) (aCons (eC (.int 4)) aNil)))) (eC (.int 1))))) (sIx 6 (eVar 7) (eB2 ixD (eVar 6) (eB2 subD (eVar 7) (eC (.int 1))))) sNil))))
  (sSeq (sIf (bE (eB2 eqD (eVar 4) (eC (.int 1)))) (sSet 6 (eN sortD (aCons (eVar 6) aNil))) sNil)
  (sSeq (sIf (bE (eB2 eqD (eVar 4) (eC (.int 2)))) (sSet 6 (eSortB true (eVar 6))) sNil)
  (sRet (eComp [7] (iRg rng1D (aCons (eVar 2) aNil)) (gN 7) bYes (eTup (aCons (eDup (eB2 ixD (eVar 5) (eVar 7))) (aCons (eDup (eB2 ixD (eVar 6) (eVar 7))) aNil))))))))))
def m__law_steps : List D → Res D := runF b__law_steps 4
/-! check_steps: 0 steps, 1 last, 2 unit, 3 price -/
def b_check_steps : Rho → Out :=
  (sSeq (sIf (bNot (bT (eVar 0))) (sRaise0 "Empty") sNil)
  (sSeq (sIf (bE (eB2 gtD (eN lenD (aCons (eVar 0) aNil)) (eC (.int 8)))) (sRaise "TooMany" ["limit"] (aCons (eC (.int 8)) aNil)) sNil)
  (sSeq (sSet 1 (eU1 negD (eC (.int 1))))
  (sFor (gTp (gCn (gN 2) (gCn (gN 3) gNl))) (iOf (eVar 0)) (sSeq (sIf (bOr (bAnd (bE (eB2 ltD (eVar 1) (eC (.int 0)))) (bE (eB2 neD (eVar 2) (eC (.int 0))))) (bE (eB2 leD (eVar 2) (eVar 1)))) (sRaise0 "BadOrder") sNil)
    (sSeq (sIf (bOr (bE (eB2 gtD (eVar 2) (eC (.int 1000000)))) (bNot (bE (eCh2 leD leD (eC (.int 0)) (eVar 3) (eC (.int 1000000)))))) (sRaise0 "OutOfRange") sNil)
    (sSet 1 (eDup (eVar 2)))))))))
def m_check_steps : List D → Res D := runF b_check_steps 3
/-! Tariff.__init__: 0 self, 1 standing, 2 steps -/
def b_Tariff___init__ : Rho → Out :=
  (sSeq (sIf (bNot (bE (eCh2 leD leD (eC (.int 0)) (eVar 1) (eC (.int 1000000))))) (sRaise0 "OutOfRange") sNil)
  (sSeq (sDrop (eCall 1 m_check_steps (aCons (eVar 2) aNil)))
  (sSeq (sFld "Tariff" "standing" (eDup (eVar 1)))
  (sFld "Tariff" "steps" (eN tupleD (aCons (eVar 2) aNil))))))
def m_Tariff___init__ : List D → Res (List (Str × D)) := runI b_Tariff___init__ "Tariff" 0
/-! _law_first_fall: 0 prices, 1 k -/
def b__law_first_fall : Rho → Out :=
  (sSeq (sFor (gN 1) (iRg rng2D (aCons (eC (.int 1)) (aCons (eN lenD (aCons (eVar 0) aNil)) aNil))) (sIf (bE (eB2 ltD (eB2 ixD (eVar 0) (eVar 1)) (eB2 ixD (eVar 0) (eB2 subD (eVar 1) (eC (.int 1)))))) (sRetV 1) sNil))
  (sRet (eC (.int 0))))
def m__law_first_fall : List D → Res D := runF b__law_first_fall 1
/-! _law_use: 0 row, 1 at, 2 steps, 3 days, 4 one, 5 kind -/
def b__law_use : Rho → Out :=
  (sSeq (sSet 4 (eDup (eB2 ixD (eVar 2) (eCall 3 m__law_at (aCons (eVar 0) (aCons (eVar 1) (aCons (eN lenD (aCons (eVar 2) aNil)) aNil)))))))
  (sSeq (sSet 5 (eCall 3 m__law_at (aCons (eVar 0) (aCons (eB2 addD (eVar 1) (eC (.int 1))) (aCons (eC (.int 5)) aNil)))))
  (sSeq (sIf (bE (eB2 ltD (eVar 5) (eC (.int 3)))) (sRet (eN max2D (aCons (eC (.int 0)) (aCons (eB2 subD (eB2 addD (eB2 mulD (eB2 ixD (eVar 4) (eC (.int 0))) (eVar 3)) (eVar 5)) (eC (.int 1))) aNil)))) sNil)
  (sSeq (sIf (bE (eB2 eqD (eVar 5) (eC (.int 3)))) (sRet (eCall 3 m__law_at (aCons (eVar 0) (aCons (eB2 addD (eVar 1) (eC (.int 2))) (aCons (eC (.int 41)) aNil))))) sNil)
  (sRet (eB2 addD (eB2 mulD (eCall 3 m__law_at (aCons (eVar 0) (aCons (eB2 addD (eVar 1) (eC (.int 2))) (aCons (eC (.int 499999)) aNil)))) (eC (.int 1000))) (eCall 3 m__law_at (aCons (eVar 0) (aCons (eB2 addD (eVar 1) (eC (.int 3))) (aCons (eC (.int 1000)) aNil))))))))))
def m__law_use : List D → Res D := runF b__law_use 2
/-! _law_splits: 0 row, 1 steps, 2 splits, 3 k, 4 days, 5 uses, 6 one -/
def b__law_splits : Rho → Out :=
  (sSeq (sSet 2 (eLst aNil))
  (sSeq (sFor (gN 3) (iRg rng1D (aCons (eC (.int 10)) aNil)) (sSeq (sSet 4 (eLst (aCons (eB2 addD (eC (.int 1)) (eCall 3 m__law_at (aCons (eVar 0) (aCons (eB2 mulD (eC (.int 10)) (eVar 3)) (aCons (eB2 ixD (eTmp (aCons (eC (.int 3)) (aCons (eC (.int 200)) aNil))) (eCall 3 m__law_at (aCons (eVar 0) (aCons (eB2 addD (eB2 mulD (eC (.int 10)) (eVar 3)) (eC (.int 1))) (aCons (eC (.int 2)) aNil))))) aNil))))) (aCons (eB2 addD (eC (.int 1)) (eCall 3 m__law_at (aCons (eVar 0) (aCons (eB2 addD (eB2 mulD (eC (.int 10)) (eVar 3)) (eC (.int 2))) (aCons (eC (.int 3)) aNil))))) aNil))))
    (sSeq (sSet 5 (eLst (aCons (eCall 4 m__law_use (aCons (eVar 0) (aCons (eB2 addD (eB2 mulD (eC (.int 10)) (eVar 3)) (eC (.int 3))) (aCons (eVar 1) (aCons (eB2 ixD (eVar 4) (eC (.int 0))) aNil))))) (aCons (eCall 4 m__law_use (aCons (eVar 0) (aCons (eB2 addD (eB2 mulD (eC (.int 10)) (eVar 3)) (eC (.int 6))) (aCons (eVar 1) (aCons (eB2 ixD (eVar 4) (eC (.int 1))) aNil))))) aNil))))
    (sApp 2 (eTup (aCons (eDup (eB2 ixD (eVar 5) (eC (.int 0)))) (aCons (eDup (eB2 ixD (eVar 4) (eC (.int 0)))) (aCons (eDup (eB2 ixD (eVar 5) (eC (.int 1)))) (aCons (eDup (eB2 ixD (eVar 4) (eC (.int 1)))) aNil)))))))))
  (sSeq (sFor (gN 6) (iOf (eVar 1)) (sIf (bE (eB2 gtD (eB2 ixD (eVar 6) (eC (.int 0))) (eC (.int 0)))) (sSet 2 (eB2 addD (eVar 2) (eLst (aCons (eTup (aCons (eB2 subD (eB2 ixD (eVar 6) (eC (.int 0))) (eC (.int 1))) (aCons (eC (.int 1)) (aCons (eB2 addD (eB2 ixD (eVar 6) (eC (.int 0))) (eC (.int 1))) (aCons (eC (.int 1)) aNil))))) (aCons (eTup (aCons (eDup (eB2 ixD (eVar 6) (eC (.int 0)))) (aCons (eC (.int 1)) (aCons (eDup (eB2 ixD (eVar 6) (eC (.int 0)))) (aCons (eC (.int 1)) aNil))))) (aCons (eTup (aCons (eC (.int 0)) (aCons (eC (.int 1)) (aCons (eB2 mulD (eC (.int 2)) (eB2 ixD (eVar 6) (eC (.int 0)))) (aCons (eC (.int 1)) aNil))))) aNil)))))) sNil))
  (sRet (eB2 addD (eVar 2) (eLst (aCons (eTup (aCons (eC (.int 0)) (aCons (eC (.int 1)) (aCons (eC (.int 0)) (aCons (eC (.int 1)) aNil))))) (aCons (eTup (aCons (eC (.int 500000000)) (aCons (eC (.int 200)) (aCons (eC (.int 500000000)) (aCons (eC (.int 200)) aNil))))) (aCons (eTup (aCons (eC (.int 1000000000)) (aCons (eC (.int 399)) (aCons (eC (.int 0)) (aCons (eC (.int 1)) aNil))))) aNil)))))))))
def m__law_splits : List D → Res D := runF b__law_splits 5
/-! check_split: 0 split, 1 use1, 2 days1, 3 use2, 4 days2 -/
def b_check_split : Rho → Out :=
  (sSeq (sUnp (gTp (gCn (gN 1) (gCn (gN 2) (gCn (gN 3) (gCn (gN 4) gNl))))) (eVar 0))
  (sSeq (sIf (bOr (bE (eB2 ltD (eVar 1) (eC (.int 0)))) (bOr (bE (eB2 ltD (eVar 3) (eC (.int 0)))) (bE (eB2 gtD (eB2 addD (eVar 1) (eVar 3)) (eC (.int 1000000000)))))) (sRaise0 "OutOfRange") sNil)
  (sIf (bOr (bE (eB2 ltD (eVar 2) (eC (.int 1)))) (bOr (bE (eB2 ltD (eVar 4) (eC (.int 1)))) (bE (eB2 gtD (eB2 addD (eVar 2) (eVar 4)) (eC (.int 400)))))) (sRaise0 "OutOfRange") sNil)))
def m_check_split : List D → Res D := runF b_check_split 4
/-! check_use: 0 use, 1 days -/
def b_check_use : Rho → Out :=
  (sSeq (sIf (bNot (bE (eCh2 leD leD (eC (.int 0)) (eVar 0) (eC (.int 1000000000))))) (sRaise0 "OutOfRange") sNil)
  (sIf (bNot (bE (eCh2 leD leD (eC (.int 1)) (eVar 1) (eC (.int 400))))) (sRaise0 "OutOfRange") sNil))
def m_check_use : List D → Res D := runF b_check_use 0
/-! Tariff.charge: 0 self, 1 use, 2 days, 3 total, 4 last, 5 unit, 6 price -/
def b_Tariff_charge : Rho → Out :=
  (sSeq (sDrop (eCall 2 m_check_use (aCons (eVar 1) (aCons (eVar 2) aNil))))
  (sSeq (sSet 3 (eB2 mulD (eU1 (fldD "standing") (eVar 0)) (eVar 2)))
  (sSeq (sSet 4 (eC (.int 0)))
  (sSeq (sFor (gTp (gCn (gN 5) (gCn (gN 6) gNl))) (iOf (eU1 (fldD "steps") (eVar 0))) (sSeq (sAug (fun i j => i + j) 3 (eB2 mulD (eB2 subD (eVar 6) (eVar 4)) (eN max2D (aCons (eC (.int 0)) (aCons (eB2 subD (eVar 1) (eB2 mulD (eVar 5) (eVar 2))) aNil)))))
    (sSet 4 (eDup (eVar 6)))))
  (sRetV 3)))))
def m_Tariff_charge : List D → Res D := runF b_Tariff_charge 4
/-! extra_charge: 0 tariff, 1 split, 2 use1, 3 days1, 4 use2, 5 days2, 6 parts -/
def b_extra_charge : Rho → Out :=
  (sSeq (sUnp (gTp (gCn (gN 2) (gCn (gN 3) (gCn (gN 4) (gCn (gN 5) gNl))))) (eVar 1))
  (sSeq (sSet 6 (eB2 addD (eMeth "Tariff" "charge" 3 m_Tariff_charge (eVar 0) (aCons (eVar 2) (aCons (eVar 3) aNil))) (eMeth "Tariff" "charge" 3 m_Tariff_charge (eVar 0) (aCons (eVar 4) (aCons (eVar 5) aNil)))))
  (sRet (eB2 subD (eVar 6) (eMeth "Tariff" "charge" 3 m_Tariff_charge (eVar 0) (aCons (eB2 addD (eVar 2) (eVar 4)) (aCons (eB2 addD (eVar 3) (eVar 5)) aNil)))))))
def m_extra_charge : List D → Res D := runF b_extra_charge 5
/-! is_saving: 0 tariff, 1 split -/
def b_is_saving : Rho → Out :=
  (sSeq (sDrop (eCall 1 m_check_split (aCons (eVar 1) aNil)))
  (sRet (eB2 ltD (eCall 2 m_extra_charge (aCons (eVar 0) (aCons (eVar 1) aNil))) (eC (.int 0)))))
def m_is_saving : List D → Res D := runF b_is_saving 0
/-! is_costly: 0 tariff, 1 split -/
def b_is_costly : Rho → Out :=
  (sSeq (sDrop (eCall 1 m_check_split (aCons (eVar 1) aNil)))
  (sRet (eB2 gtD (eCall 2 m_extra_charge (aCons (eVar 0) (aCons (eVar 1) aNil))) (eC (.int 0)))))
def m_is_costly : List D → Res D := runF b_is_costly 0
/-! _law_called: 0 door, 1 tariff, 2 split -/
def b__law_called : Rho → Out :=
  (sSeq (sTry subT (sIf (bE (eB2 eqD (eVar 0) (eC (.int 0)))) (sDrop (eCall 2 m_is_saving (aCons (eVar 1) (aCons (eVar 2) aNil)))) (sDrop (eCall 2 m_is_costly (aCons (eVar 1) (aCons (eVar 2) aNil))))) [⟨"OutOfRange", none, fun fs => (sRet (eC (.str "range")))⟩, ⟨"MeterError", none, fun fs => (sRet (eC (.str "other")))⟩])
  (sRet (eC (.str "fine"))))
def m__law_called : List D → Res D := runF b__law_called 0
/-! _law_refused: 0 row, 1 tariff, 2 far, 3 wrong, 4 door, 5 split -/
def b__law_refused : Rho → Out :=
  (sSeq (sSet 2 (eB2 mulD (eCall 3 m__law_at (aCons (eVar 0) (aCons (eC (.int 0)) (aCons (eC (.int 2)) aNil)))) (eCall 3 m__law_at (aCons (eVar 0) (aCons (eC (.int 1)) (aCons (eC (.int 1000000)) aNil))))))
  (sSeq (sSet 3 (eLst (aCons (eTup (aCons (eB2 subD (eU1 negD (eC (.int 1))) (eVar 2)) (aCons (eC (.int 1)) (aCons (eC (.int 5)) (aCons (eC (.int 1)) aNil))))) (aCons (eTup (aCons (eB2 addD (eC (.int 5)) (eVar 2)) (aCons (eC (.int 1)) (aCons (eU1 negD (eC (.int 1))) (aCons (eC (.int 1)) aNil))))) (aCons (eTup (aCons (eC (.int 0)) (aCons (eC (.int 0)) (aCons (eC (.int 5)) (aCons (eC (.int 1)) aNil))))) (aCons (eTup (aCons (eC (.int 5)) (aCons (eC (.int 1)) (aCons (eC (.int 0)) (aCons (eU1 negD (eVar 2)) aNil))))) (aCons (eTup (aCons (eB2 addD (eC (.int 1000000001)) (eVar 2)) (aCons (eC (.int 1)) (aCons (eC (.int 0)) (aCons (eC (.int 1)) aNil))))) aNil)))))))
  (sSeq (sSet 3 (eB2 addD (eVar 3) (eLst (aCons (eTup (aCons (eDup (eVar 2)) (aCons (eC (.int 1)) (aCons (eB2 subD (eC (.int 1000000001)) (eVar 2)) (aCons (eC (.int 1)) aNil))))) (aCons (eTup (aCons (eC (.int 0)) (aCons (eC (.int 400)) (aCons (eC (.int 0)) (aCons (eC (.int 1)) aNil))))) (aCons (eTup (aCons (eC (.int 0)) (aCons (eB2 addD (eC (.int 1)) (eVar 2)) (aCons (eC (.int 0)) (aCons (eC (.int 400)) aNil))))) (aCons (eTup (aCons (eU1 negD (eC (.int 1))) (aCons (eC (.int 0)) (aCons (eC (.int 0)) (aCons (eC (.int 0)) aNil))))) aNil)))))))
  (sSeq (sFor (gN 4) (iRg rng1D (aCons (eC (.int 2)) aNil)) (sFrz 3 (sSeq (sFor (gN 5) (iOf (eVar 3)) (sIf (bE (eB2 neD (eCall 3 m__law_called (aCons (eVar 4) (aCons (eVar 1) (aCons (eVar 5) aNil)))) (eC (.str "range")))) (sRet (eC (.bl false))) sNil))
    (sIf (bE (eB2 neD (eCall 3 m__law_called (aCons (eVar 4) (aCons (eVar 1) (aCons (eTup (aCons (eVar 2) (aCons (eC (.int 1)) (aCons (eB2 subD (eC (.int 1000000000)) (eVar 2)) (aCons (eC (.int 399)) aNil))))) aNil)))) (eC (.str "fine")))) (sRet (eC (.bl false))) sNil))))
  (sRet (eC (.bl true)))))))
def m__law_refused : List D → Res D := runF b__law_refused 4
/-! _law_cell: 0 script, 1 k -/
def b__law_cell : Rho → Out :=
  (sSeq (sIf (bE (eB2 ltD (eVar 1) (eN lenD (aCons (eVar 0) aNil)))) (sRet (eDup (eB2 ixD (eVar 0) (eVar 1)))) sNil)
  (sRet (eC (.int 0))))
def m__law_cell : List D → Res D := runF b__law_cell 0
/-! _law_is_whole: 0 value -/
def b__law_is_whole : Rho → Out :=
  (sRet (eAnd (eU1 (isiD "int") (eVar 0)) (eNot (eU1 (isiD "bool") (eVar 0)))))
def m__law_is_whole : List D → Res D := runF b__law_is_whole 0
/-! _law_told: 0 told, 1 word, 2 steps, 3 at, 4 one -/
def b__law_told : Rho → Out :=
  (sSeq (sIf (bOr (bNot (bT (eU1 (isiD "tuple") (eVar 0)))) (bE (eB2 neD (eN lenD (aCons (eVar 0) aNil)) (eC (.int 2))))) (sRet (eC (.bl false))) sNil)
  (sSeq (sIf (bE (eB2 eqD (eVar 3) (eC (.int 0)))) (sRet (eB2 eqD (eVar 0) (eTup (aCons (eC (.str "never")) (aCons (eC .non) aNil))))) sNil)
  (sSeq (sIf (bOr (bE (eB2 neD (eB2 ixD (eVar 0) (eC (.int 0))) (eVar 1))) (bOr (bNot (bT (eU1 (isiD "tuple") (eB2 ixD (eVar 0) (eC (.int 1)))))) (bE (eB2 neD (eN lenD (aCons (eB2 ixD (eVar 0) (eC (.int 1))) aNil)) (eC (.int 4)))))) (sRet (eC (.bl false))) sNil)
  (sSeq (sIf (bE (eB2 gtD (eN lenD (aCons (eComp [4] (iOf (eB2 ixD (eVar 0) (eC (.int 1)))) (gN 4) (bNot (bT (eCall 1 m__law_is_whole (aCons (eVar 4) aNil)))) (eDup (eVar 4))) aNil)) (eC (.int 0)))) (sRet (eC (.bl false))) sNil)
  (sRet (eB2 eqD (eB2 ixD (eVar 0) (eC (.int 1))) (eTup (aCons (eB2 subD (eB2 ixD (eB2 ixD (eVar 2) (eVar 3)) (eC (.int 0))) (eC (.int 1))) (aCons (eC (.int 1)) (aCons (eB2 addD (eB2 ixD (eB2 ixD (eVar 2) (eVar 3)) (eC (.int 0))) (eC (.int 1))) (aCons (eC (.int 1)) aNil)))))))))))
def m__law_told : List D → Res D := runF b__law_told 1
/-! _law_lines: 0 standing, 1 steps, 2 days, 3 use, 4 lines, 5 k, 6 end -/
def b__law_lines : Rho → Out :=
  (sSeq (sSet 4 (eLst (aCons (eTup (aCons (eDup (eVar 2)) (aCons (eDup (eVar 0)) aNil))) aNil)))
  (sSeq (sFor (gN 5) (iRg rng1D (aCons (eN lenD (aCons (eVar 1) aNil)) aNil)) (sSeq (sSet 6 (eDup (eVar 3)))
    (sSeq (sIf (bE (eB2 ltD (eB2 addD (eVar 5) (eC (.int 1))) (eN lenD (aCons (eVar 1) aNil)))) (sSet 6 (eN min2D (aCons (eVar 3) (aCons (eB2 mulD (eB2 ixD (eB2 ixD (eVar 1) (eB2 addD (eVar 5) (eC (.int 1)))) (eC (.int 0))) (eVar 2)) aNil)))) sNil)
    (sIf (bE (eB2 gtD (eVar 6) (eB2 mulD (eB2 ixD (eB2 ixD (eVar 1) (eVar 5)) (eC (.int 0))) (eVar 2)))) (sApp 4 (eTup (aCons (eB2 subD (eVar 6) (eB2 mulD (eB2 ixD (eB2 ixD (eVar 1) (eVar 5)) (eC (.int 0))) (eVar 2))) (aCons (eDup (eB2 ixD (eB2 ixD (eVar 1) (eVar 5)) (eC (.int 1)))) aNil)))) sNil))))
  (sRetV 4)))
def m__law_lines : List D → Res D := runF b__law_lines 3
/-! _law_charge: 0 standing, 1 steps, 2 days, 3 use, 4 one -/
def b__law_charge : Rho → Out :=
  (sRet (eN sumD (aCons (eComp [4] (iNew (eCall 4 m__law_lines (aCons (eVar 0) (aCons (eVar 1) (aCons (eVar 2) (aCons (eVar 3) aNil)))))) (gN 4) bYes (eB2 mulD (eB2 ixD (eVar 4) (eC (.int 0))) (eB2 ixD (eVar 4) (eC (.int 1))))) aNil)))
def m__law_charge : List D → Res D := runF b__law_charge 1
/-! _law_extra: 0 standing, 1 steps, 2 split, 3 parts -/
def b__law_extra : Rho → Out :=
  (sSeq (sSet 3 (eB2 addD (eCall 4 m__law_charge (aCons (eVar 0) (aCons (eVar 1) (aCons (eB2 ixD (eVar 2) (eC (.int 1))) (aCons (eB2 ixD (eVar 2) (eC (.int 0))) aNil))))) (eCall 4 m__law_charge (aCons (eVar 0) (aCons (eVar 1) (aCons (eB2 ixD (eVar 2) (eC (.int 3))) (aCons (eB2 ixD (eVar 2) (eC (.int 2))) aNil)))))))
  (sRet (eB2 subD (eVar 3) (eCall 4 m__law_charge (aCons (eVar 0) (aCons (eVar 1) (aCons (eB2 addD (eB2 ixD (eVar 2) (eC (.int 1))) (eB2 ixD (eVar 2) (eC (.int 3)))) (aCons (eB2 addD (eB2 ixD (eVar 2) (eC (.int 0))) (eB2 ixD (eVar 2) (eC (.int 2)))) aNil))))))))
def m__law_extra : List D → Res D := runF b__law_extra 1
/-! _law_judged: 0 tariff, 1 standing, 2 steps, 3 split, 4 falls, 5 rises, 6 extra, 7 saving, 8 costly -/
def b__law_judged : Rho → Out :=
  (sSeq (sSet 6 (eCall 3 m__law_extra (aCons (eVar 1) (aCons (eVar 2) (aCons (eVar 3) aNil)))))
  (sSeq (sIf (bOr (bAnd (bE (eB2 ltD (eVar 6) (eC (.int 0)))) (bE (eB2 eqD (eVar 4) (eC (.int 0))))) (bAnd (bE (eB2 gtD (eVar 6) (eC (.int 0)))) (bE (eB2 eqD (eVar 5) (eC (.int 0)))))) (sRet (eC (.bl false))) sNil)
  (sSeq (sSet 7 (eCall 2 m_is_saving (aCons (eVar 0) (aCons (eVar 3) aNil))))
  (sSeq (sSet 8 (eCall 2 m_is_costly (aCons (eVar 0) (aCons (eVar 3) aNil))))
  (sSeq (sIf (bOr (bNot (bT (eU1 (isiD "bool") (eVar 7)))) (bNot (bT (eU1 (isiD "bool") (eVar 8))))) (sRet (eC (.bl false))) sNil)
  (sRet (eAnd (eB2 eqD (eVar 7) (eB2 ltD (eVar 6) (eC (.int 0)))) (eB2 eqD (eVar 8) (eB2 gtD (eVar 6) (eC (.int 0)))))))))))
def m__law_judged : List D → Res D := runF b__law_judged 3
/-! split_at: 0 unit -/
def b_split_at : Rho → Out :=
  (sRet (eTup (aCons (eB2 subD (eVar 0) (eC (.int 1))) (aCons (eC (.int 1)) (aCons (eB2 addD (eVar 0) (eC (.int 1))) (aCons (eC (.int 1)) aNil))))))
def m_split_at : List D → Res D := runF b_split_at 0
/-! split_saves: 0 tariff, 1 k -/
def b_split_saves : Rho → Out :=
  (sSeq (sFor (gN 1) (iRg rng2D (aCons (eC (.int 1)) (aCons (eN lenD (aCons (eU1 (fldD "steps") (eVar 0)) aNil)) aNil))) (sIf (bE (eB2 ltD (eB2 ixD (eB2 ixD (eU1 (fldD "steps") (eVar 0)) (eVar 1)) (eC (.int 1))) (eB2 ixD (eB2 ixD (eU1 (fldD "steps") (eVar 0)) (eB2 subD (eVar 1) (eC (.int 1)))) (eC (.int 1))))) (sRet (eTup (aCons (eC (.str "saves")) (aCons (eCall 1 m_split_at (aCons (eB2 ixD (eB2 ixD (eU1 (fldD "steps") (eVar 0)) (eVar 1)) (eC (.int 0))) aNil)) aNil)))) sNil))
  (sRet (eTup (aCons (eC (.str "never")) (aCons (eC .non) aNil)))))
def m_split_saves : List D → Res D := runF b_split_saves 1
/-! split_costs: 0 tariff, 1 k -/
def b_split_costs : Rho → Out :=
  (sSeq (sFor (gN 1) (iRg rng2D (aCons (eC (.int 1)) (aCons (eN lenD (aCons (eU1 (fldD "steps") (eVar 0)) aNil)) aNil))) (sIf (bE (eB2 gtD (eB2 ixD (eB2 ixD (eU1 (fldD "steps") (eVar 0)) (eVar 1)) (eC (.int 1))) (eB2 ixD (eB2 ixD (eU1 (fldD "steps") (eVar 0)) (eB2 subD (eVar 1) (eC (.int 1)))) (eC (.int 1))))) (sRet (eTup (aCons (eC (.str "costs")) (aCons (eCall 1 m_split_at (aCons (eB2 ixD (eB2 ixD (eU1 (fldD "steps") (eVar 0)) (eVar 1)) (eC (.int 0))) aNil)) aNil)))) sNil))
  (sRet (eTup (aCons (eC (.str "never")) (aCons (eC .non) aNil)))))
def m_split_costs : List D → Res D := runF b_split_costs 1
/-! law: 0 script, 1 row, 2 count, 3 wide, 4 standing, 5 steps, 6 tariff, 7 falls, 8 one, 9 rises, 10 more, 11 split -/
def b_law : Rho → Out :=
  (sSeq (sSet 1 (eCall 2 m__law_row (aCons (eCall 2 m__law_cell (aCons (eVar 0) (aCons (eC (.int 0)) aNil))) (aCons (eC (.int 40)) aNil))))
  (sSeq (sSet 2 (eB2 addD (eCall 3 m__law_at (aCons (eVar 1) (aCons (eC (.int 0)) (aCons (eC (.int 8)) aNil)))) (eC (.int 1))))
  (sSeq (sSet 3 (eCall 3 m__law_at (aCons (eVar 1) (aCons (eC (.int 1)) (aCons (eC (.int 2)) aNil)))))
  (sSeq (sSet 4 (eCall 3 m__law_at (aCons (eVar 1) (aCons (eC (.int 2)) (aCons (eB2 ixD (eTmp (aCons (eC (.int 12)) (aCons (eC (.int 1000001)) aNil))) (eVar 3)) aNil)))))
  (sSeq (sSet 5 (eCall 5 m__law_steps (aCons (eVar 1) (aCons (eC (.int 3)) (aCons (eVar 2) (aCons (eVar 3) (aCons (eCall 3 m__law_at (aCons (eVar 1) (aCons (eC (.int 27)) (aCons (eC (.int 5)) aNil)))) aNil)))))))
  (sFrz 5 (sSeq (sSet 6 (eMake "Tariff" 2 m_Tariff___init__ (aCons (eVar 4) (aCons (eVar 5) aNil))))
  (sSeq (sSet 7 (eCall 1 m__law_first_fall (aCons (eComp [8] (iOf (eVar 5)) (gN 8) bYes (eDup (eB2 ixD (eVar 8) (eC (.int 1))))) aNil)))
  (sSeq (sSet 9 (eCall 1 m__law_first_fall (aCons (eComp [8] (iOf (eVar 5)) (gN 8) bYes (eU1 negD (eB2 ixD (eVar 8) (eC (.int 1))))) aNil)))
  (sSeq (sIf (bOr (bNot (bT (eCall 4 m__law_told (aCons (eCall 1 m_split_saves (aCons (eVar 6) aNil)) (aCons (eC (.str "saves")) (aCons (eVar 5) (aCons (eVar 7) aNil))))))) (bNot (bT (eCall 4 m__law_told (aCons (eCall 1 m_split_costs (aCons (eVar 6) aNil)) (aCons (eC (.str "costs")) (aCons (eVar 5) (aCons (eVar 9) aNil)))))))) (sRet (eC (.bl false))) sNil)
  (sSeq (sIf (bAnd (bE (eB2 gtD (eVar 7) (eC (.int 0)))) (bOr (bE (eB2 notND (eCall 2 m_is_saving (aCons (eVar 6) (aCons (eB2 ixD (eCall 1 m_split_saves (aCons (eVar 6) aNil)) (eC (.int 1))) aNil))) (eC (.bl true)))) (bE (eB2 notND (eCall 2 m_is_costly (aCons (eVar 6) (aCons (eB2 ixD (eCall 1 m_split_saves (aCons (eVar 6) aNil)) (eC (.int 1))) aNil))) (eC (.bl false)))))) (sRet (eC (.bl false))) sNil)
  (sSeq (sIf (bAnd (bE (eB2 gtD (eVar 9) (eC (.int 0)))) (bOr (bE (eB2 notND (eCall 2 m_is_costly (aCons (eVar 6) (aCons (eB2 ixD (eCall 1 m_split_costs (aCons (eVar 6) aNil)) (eC (.int 1))) aNil))) (eC (.bl true)))) (bE (eB2 notND (eCall 2 m_is_saving (aCons (eVar 6) (aCons (eB2 ixD (eCall 1 m_split_costs (aCons (eVar 6) aNil)) (eC (.int 1))) aNil))) (eC (.bl false)))))) (sRet (eC (.bl false))) sNil)
  (sSeq (sSet 10 (eCall 2 m__law_row (aCons (eB2 addD (eCall 2 m__law_cell (aCons (eVar 0) (aCons (eC (.int 1)) aNil))) (eB2 mulD (eC (.int 977)) (eCall 2 m__law_cell (aCons (eVar 0) (aCons (eC (.int 0)) aNil))))) (aCons (eC (.int 100)) aNil))))
  (sSeq (sFor (gN 11) (iNew (eCall 2 m__law_splits (aCons (eVar 10) (aCons (eVar 5) aNil)))) (sIf (bNot (bT (eCall 6 m__law_judged (aCons (eVar 6) (aCons (eVar 4) (aCons (eVar 5) (aCons (eVar 11) (aCons (eVar 7) (aCons (eVar 9) aNil))))))))) (sRet (eC (.bl false))) sNil))
  (sRet (eCall 2 m__law_refused (aCons (eCut (eVar 1) (oSome (eC (.int 28))) (oSome (eC (.int 30)))) (aCons (eVar 6) aNil))))))))))))))))))
def m_law : List D → Res D := runF b_law 11
end K45
namespace K45
open PySem L2 DH
def encP (p : Int × Int) : D := .tup [.int p.1, .int p.2]
def tarD (s : Int) (ps : List (Int × Int)) : D := .ins "Tariff" [("standing", .int s), ("steps", .tup (ps.map encP))]
@[simp] theorem encP_dup (p : Int × Int) : (encP p).dup = true := rfl
@[simp] theorem encP_ret (p : Int × Int) : (encP p).ret = true := rfl
@[simp] theorem dupP (ps : List (Int × Int)) : D.dupAll (ps.map encP) = true := dupAll_map encP_dup ps
@[simp] theorem retP (ps : List (Int × Int)) : D.retAll (ps.map encP) = true := retAll_map encP_ret ps
@[simp] theorem lendP (ps : List (Int × Int)) : D.lendAll (ps.map encP) = ps.map encP := lendAll_dup (dupP ps)
@[simp] theorem frzP (ps : List (Int × Int)) : D.frzAll (ps.map encP) = ps.map encP := frzAll_dup (dupP ps)
@[simp] theorem lenP (ps : List (Int × Int)) : D.lenAll (ps.map encP) = true := lenAll_dup (dupP ps)
@[simp] theorem fld_standing (s : Int) (ps : List (Int × Int)) : fldD "standing" (tarD s ps) = .ok (.int s) := rfl
@[simp] theorem fld_steps (s : Int) (ps : List (Int × Int)) : fldD "steps" (tarD s ps) = .ok (.tup (ps.map encP)) := rfl
theorem check_use_eq (u d : Int) : m_check_use [.int u, .int d] = if (0 ≤ u ∧ u ≤ 1000000000) ∧ (1 ≤ d ∧ d ≤ 400) then .ok .non else .err "OutOfRange" [] := by
  unfold m_check_use
  rw [runF_eq]
  unfold b_check_use
  by_cases h1 : 0 ≤ u <;> by_cases h2 : u ≤ 1000000000 <;> by_cases h3 : 1 ≤ d <;> by_cases h4 : d ≤ 400 <;> simp [h1, h2, h3, h4]
theorem law_at_eq (k : LK) (row : List Int) (at_ : Nat) (many : Int) (v : Int) (hm : 0 < many) (h : row[at_]? = some v) : m__law_at [.lst k (row.map D.int), .int at_, .int many] = .ok (.int (v % many)) := by
  unfold m__law_at
  rw [runF_eq]
  unfold b__law_at
  simp [ixA_map, ixA_nat h, modD_ii hm]
@[simp] theorem dupI (r : List Int) : D.dupAll (r.map D.int) = true := dupAll_ints r
@[simp] theorem retI (r : List Int) : D.retAll (r.map D.int) = true := retAll_ints r
@[simp] theorem lendI (r : List Int) : D.lendAll (r.map D.int) = r.map D.int := lendAll_dup (dupI r)
@[simp] theorem frzI (r : List Int) : D.frzAll (r.map D.int) = r.map D.int := frzAll_dup (dupI r)
@[simp] theorem lenI (r : List Int) : D.lenAll (r.map D.int) = true := lenAll_dup (dupI r)
def IRow (c0 : Nat) (k : Nat) (ρ : Rho) : Prop := ∃ (c : Int) (r : List Int) (j q : Option D), ρ = [some (.int c), some (.int c0), some (.lst .own (r.map D.int)), j, q] ∧ r.length = k
theorem ltL {n : Nat} (h : n ≤ 1000000) : n < LINE := Nat.lt_of_le_of_lt h (by decide)
theorem leL {n : Nat} (h : n ≤ 1000000) : n ≤ LINE := Nat.le_of_lt (ltL h)
theorem pow18 : powD (.int 10) (.int 18) = .ok (.int 1000000000000000000) := by
  rw [powD_ii ⟨by decide, by decide, by decide⟩]
  have e : (10 : Int) ^ (18 : Int).toNat = 1000000000000000000 := by decide
  rw [e]
def body1 : Rho → Out := sSeq (sApp 2 (eB2 modD (eN intD (aCons (eVar 0) aNil)) (eC (.int 1000000)))) (sSet 0 (eB2 fdivD (eVar 0) (eC (.int 1000000))))
def body2 : Rho → Out := (sSeq (sSet 4 (eB2 modD (eN intD (aCons (eB2 addD (eB2 addD (eB2 mulD (eVar 0) (eC (.int 48271))) (eB2 mulD (eVar 3) (eC (.int 69621)))) (eC (.int 4177))) aNil)) (eC (.int 2147483647))))
    (sApp 2 (eB2 modD (eN intD (aCons (eB2 addD (eB2 addD (eB2 mulD (eVar 4) (eC (.int 16807))) (eB2 mulD (eB2 mulD (eVar 3) (eVar 3)) (eC (.int 7919)))) (eC (.int 271))) aNil)) (eC (.int 2147483629)))))
theorem step1 {m k : Nat} {ρ : Rho} (hm : m ≤ 1000000) (hk : k < m) (h : IRow m k ρ) : ∃ ρ1, gN 3 (.int (k : Int)) ρ = some ρ1 ∧ okS (body1 ρ1) (IRow m (k + 1)) := by
  obtain ⟨c, r, j, q, rfl, hl⟩ := h
  have hL : (r.map D.int).length < LINE := by rw [List.length_map, hl]; exact ltL (by omega)
  refine ⟨_, rfl, ?_⟩
  unfold body1
  simp [modD_ii, fdivD_ii, appP_of hL]
  exact ⟨_, r ++ [_], _, _, by rw [List.map_append]; rfl, by simp [hl]⟩
theorem step2 {m k : Nat} {ρ : Rho} (hm : m ≤ 1000000) (hk : k < m) (h : IRow m k ρ) : ∃ ρ1, gN 3 (.int (k : Int)) ρ = some ρ1 ∧ okS (body2 ρ1) (IRow m (k + 1)) := by
  obtain ⟨c, r, j, q, rfl, hl⟩ := h
  have hL : (r.map D.int).length < LINE := by rw [List.length_map, hl]; exact ltL (by omega)
  have hkk : mulD (.int (k : Int)) (.int (k : Int)) = .ok (.int ((k : Int) * (k : Int))) := mulD_r ⟨by omega, by omega⟩
  refine ⟨_, rfl, ?_⟩
  unfold body2
  simp [modD_ii, mulD_r, hkk, appP_of hL, -mulD_ii]
  exact ⟨_, r ++ [_], _, _, by rw [List.map_append]; rfl, by simp [hl]⟩
theorem law_row_eq (c : Int) (m : Nat) (hm : m ≤ 1000000) : ∃ r : List Int, m__law_row [.int c, .int m] = .ok (.lst .own (r.map D.int)) ∧ r.length = m := by
  unfold m__law_row
  rw [runF_eq]
  unfold b__law_row
  have hr : rng1D [.int (m : Int)] = .ok ((List.range m).map fun (i : Nat) => .int (i : Int)) := rng1_at (by omega)
  by_cases h : 1000000000000000000 ≤ c
  · simp [pow18, h, hr]
    obtain ⟨ρ', e1, c', r, j, q, rfl, hl⟩ := for_range (m := m) (g := gN 3) (F := body1) (ρ := [some (.int c), some (.int m), some (.lst .own []), none, none]) (IRow m) ⟨c, [], none, none, rfl, rfl⟩ (fun k ρ hk h => step1 hm hk h)
    unfold body1 at e1
    rw [e1]
    exact ⟨r, by simp, hl⟩
  · simp [pow18, h, hr]
    obtain ⟨ρ', e1, c', r, j, q, rfl, hl⟩ := for_range (m := m) (g := gN 3) (F := body2) (ρ := [some (.int c), some (.int m), some (.lst .own []), none, none]) (IRow m) ⟨c, [], none, none, rfl, rfl⟩ (fun k ρ hk h => step2 hm hk h)
    unfold body2 at e1
    rw [e1]
    exact ⟨r, by simp, hl⟩
theorem law_cell_eq (ns : List Int) : ∃ c, m__law_cell [.scr ns, .int 0] = .ok (.int c) := by
  unfold m__law_cell
  rw [runF_eq]
  unfold b__law_cell
  cases ns with
  | nil => exact ⟨0, by simp⟩
  | cons n ns => exact ⟨n, by simp⟩
theorem is_whole_eq (i : Int) : m__law_is_whole [.int i] = .ok (.bl true) := by
  unfold m__law_is_whole
  rw [runF_eq]
  unfold b__law_is_whole
  simp
def chk : Int → List (Int × Int) → Option Str
  | _, [] => none
  | l, p :: r => if (l < 0 ∧ p.1 ≠ 0) ∨ p.1 ≤ l then some "BadOrder" else if 1000000 < p.1 ∨ ¬ (0 ≤ p.2 ∧ p.2 ≤ 1000000) then some "OutOfRange" else chk p.1 r
def chkG : GG := gTp (gCn (gN 2) (gCn (gN 3) gNl))
def chkB : Rho → Out := (sSeq (sIf (bOr (bAnd (bE (eB2 ltD (eVar 1) (eC (.int 0)))) (bE (eB2 neD (eVar 2) (eC (.int 0))))) (bE (eB2 leD (eVar 2) (eVar 1)))) (sRaise0 "BadOrder") sNil)
    (sSeq (sIf (bOr (bE (eB2 gtD (eVar 2) (eC (.int 1000000)))) (bNot (bE (eCh2 leD leD (eC (.int 0)) (eVar 3) (eC (.int 1000000)))))) (sRaise0 "OutOfRange") sNil)
    (sSet 1 (eDup (eVar 2)))))
theorem chkB_eq (st : D) (l u p : Int) : chkB [some st, some (.int l), some (.int u), some (.int p)] = if (l < 0 ∧ u ≠ 0) ∨ u ≤ l then .err "BadOrder" [] [some st, some (.int l), some (.int u), some (.int p)] else
    if 1000000 < u ∨ ¬ (0 ≤ p ∧ p ≤ 1000000) then .err "OutOfRange" [] [some st, some (.int l), some (.int u), some (.int p)] else .next [some st, some (.int u), some (.int u), some (.int p)] := by
  unfold chkB
  simp
  repeat' split
  all_goals first | rfl | (exfalso; omega)
theorem chk_loop (st : D) : ∀ (ps : List (Int × Int)) (l : Int) (j2 j3 : Option D), ∃ ρ', forD chkG chkB (ps.map encP) [some st, some (.int l), j2, j3] = match chk l ps with | none => .next ρ' | some e => .err e [] ρ'
  | [], l, j2, j3 => ⟨_, rfl⟩
  | p :: ps, l, j2, j3 => by
    obtain ⟨ρ', ih⟩ := chk_loop st ps p.1 (some (.int p.1)) (some (.int p.2))
    have hg : chkG (encP p) [some st, some (.int l), j2, j3] = some [some st, some (.int l), some (.int p.1), some (.int p.2)] := rfl
    by_cases h1 : (l < 0 ∧ p.1 ≠ 0) ∨ p.1 ≤ l
    · refine ⟨[some st, some (.int l), some (.int p.1), some (.int p.2)], ?_⟩
      rw [List.map_cons, for_cons hg, chkB_eq, if_pos h1]
      unfold chk
      rw [if_pos h1]
    · by_cases h2 : 1000000 < p.1 ∨ ¬ (0 ≤ p.2 ∧ p.2 ≤ 1000000)
      · refine ⟨[some st, some (.int l), some (.int p.1), some (.int p.2)], ?_⟩
        rw [List.map_cons, for_cons hg, chkB_eq, if_neg h1, if_pos h2]
        unfold chk
        rw [if_neg h1, if_pos h2]
      · refine ⟨ρ', ?_⟩
        rw [List.map_cons, for_cons hg, chkB_eq, if_neg h1, if_neg h2]
        unfold chk
        rw [if_neg h1, if_neg h2]
        exact ih
theorem check_steps_eq (k : LK) (hk : k = .frz ∨ k = .bor) (ps : List (Int × Int)) : m_check_steps [.lst k (ps.map encP)] = if ps = [] then .err "Empty" [] else if 8 < ps.length then .err "TooMany" [("limit", .int 8)] else match chk (-1) ps with | none => .ok .non | some e => .err e [] := by
  unfold m_check_steps
  rw [runF_eq]
  unfold b_check_steps
  cases ps with
  | nil => rcases hk with rfl | rfl <;> simp
  | cons p r =>
    obtain ⟨ρ', e⟩ := chk_loop (.lst k ((p :: r).map encP)) (p :: r) (-1) none none
    have hit : itemsD (.lst k ((p :: r).map encP)) = .ok ((p :: r).map encP) := by rcases hk with rfl | rfl <;> rfl
    unfold chkG chkB at e
    rw [List.map_cons] at e hit
    by_cases h8 : 8 < (p :: r).length
    · have h8' : (8 : Int) < (r.length : Int) + 1 := by simp at h8; omega
      rw [if_neg (by simp), if_pos h8]
      simp [h8']
    · have h8' : ¬ (8 : Int) < (r.length : Int) + 1 := by simp at h8; omega
      rw [if_neg (by simp), if_neg h8]
      simp [h8', hit]
      rw [e]
      cases chk (-1) (p :: r) <;> rfl
@[simp] theorem put_standing (s : Int) : putD "standing" (.int s) [] = ([("standing", .int s)] : List (Str × D)) := rfl
@[simp] theorem put_steps (s : Int) (d : D) : putD "steps" d ([("standing", .int s)] : List (Str × D)) = ([("standing", .int s), ("steps", d)] : List (Str × D)) := rfl
def refS (s : Int) (ps : List (Int × Int)) : Option (Str × List (Str × V)) := if ¬ (0 ≤ s ∧ s ≤ 1000000) then some ("OutOfRange", []) else if ps = [] then some ("Empty", []) else if 8 < ps.length then some ("TooMany", [("limit", .int 8)]) else (chk (-1) ps).map fun e => (e, [])
theorem init_eq (k : LK) (hk : k = .frz ∨ k = .bor) (s : Int) (ps : List (Int × Int)) : m_Tariff___init__ [.int s, .lst k (ps.map encP)] = match refS s ps with | none => .ok ([("standing", .int s), ("steps", .tup (ps.map encP))] : List (Str × D)) | some e => .err e.1 e.2 := by
  unfold m_Tariff___init__
  rw [runI_eq]
  unfold b_Tariff___init__
  have hc : callD 1 m_check_steps [.lst k (ps.map encP)] = m_check_steps [.lst k (ps.map encP)] := callD_at rfl (by rcases hk with rfl | rfl <;> rfl) (by rcases hk with rfl | rfl <;> rfl)
  have ht : tupleD [.lst k (ps.map encP)] = .ok (.tup (ps.map encP)) := by
    show (if elOk k (ps.map encP) = true then Res.ok (D.tup (ps.map encP)) else .stuck) = _
    rcases hk with rfl | rfl
    · rfl
    · exact if_pos (retP ps)
  unfold refS
  by_cases h1 : 0 ≤ s ∧ s ≤ 1000000
  · simp [h1.1, h1.2, hc, check_steps_eq k hk, ht]
    by_cases h2 : ps = []
    · simp [h2]
    · by_cases h3 : 8 < ps.length
      · simp [h2, h3]
      · cases h4 : chk (-1) ps <;> simp [h2, h3, h4, ht]
  · by_cases h2 : 0 ≤ s
    · have h3 : ¬ s ≤ 1000000 := fun z => h1 ⟨h2, z⟩
      simp [h2, h3]
    · simp [h2]
theorem make_eq (k : LK) (hk : k = .frz ∨ k = .bor ∨ k = .own) (s : Int) (ps : List (Int × Int)) : makeD "Tariff" 2 m_Tariff___init__ [.int s, .lst k (ps.map encP)] = match refS s ps with | none => .ok (tarD s ps) | some e => .err e.1 e.2 := by
  have go : ∀ l : LK, l = .frz ∨ l = .bor → (m_Tariff___init__ [.int s, .lst l (ps.map encP)]).bind (fun fs => Res.ok (D.ins "Tariff" fs)) = match refS s ps with | none => .ok (tarD s ps) | some e => .err e.1 e.2 := fun l hl => by
    rw [init_eq l hl]
    cases refS s ps <;> rfl
  rcases hk with rfl | rfl | rfl
  · rw [makeD_at (n := 2) (es := [.int s, .lst .frz (ps.map encP)]) rfl rfl rfl]; exact go _ (.inl rfl)
  · rw [makeD_at (n := 2) (es := [.int s, .lst .bor (ps.map encP)]) rfl rfl rfl]; exact go _ (.inr rfl)
  · rw [makeD_at (n := 2) (es := [.int s, .lst .bor (ps.map encP)]) rfl rfl (by simp)]; exact go _ (.inr rfl)
def mx (x : Int) : Int := if x > 0 then x else 0
def mn (u x : Int) : Int := if x < u then x else u
def chg (u d : Int) : Int → List (Int × Int) → Int
  | _, [] => 0
  | l, p :: r => (p.2 - l) * mx (u - p.1 * d) + chg u d p.2 r
def eHd (u d : Int) : List (Int × Int) → Int
  | [] => u
  | q :: _ => mn u (q.1 * d)
def lnOf (u d : Int) (p : Int × Int) (r : List (Int × Int)) : List (Int × Int) := if eHd u d r > p.1 * d then [(eHd u d r - p.1 * d, p.2)] else []
def lns (u d : Int) : List (Int × Int) → List (Int × Int)
  | [] => []
  | p :: r => lnOf u d p r ++ lns u d r
def okU (u d : Int) : Prop := (0 ≤ u ∧ u ≤ 1000000000) ∧ (1 ≤ d ∧ d ≤ 400)
instance (u d : Int) : Decidable (okU u d) := by unfold okU; infer_instance
def PrB (ps : List (Int × Int)) : Prop := ∀ p ∈ ps, 0 ≤ p.2 ∧ p.2 ≤ 1000000
theorem call_use (u d : Int) : callD 2 m_check_use [.int u, .int d] = if okU u d then .ok .non else .err "OutOfRange" [] := by
  rw [callD_at (n := 2) (es := [.int u, .int d]) rfl rfl rfl, check_use_eq]; rfl
def cgG : GG := (gTp (gCn (gN 5) (gCn (gN 6) gNl)))
def cgB : Rho → Out := (sSeq (sAug (fun i j => i + j) 3 (eB2 mulD (eB2 subD (eVar 6) (eVar 4)) (eN max2D (aCons (eC (.int 0)) (aCons (eB2 subD (eVar 1) (eB2 mulD (eVar 5) (eVar 2))) aNil)))))
    (sSet 4 (eDup (eVar 6))))
theorem cgB_eq (st : D) (u d t l a p : Int) (hd : 1 ≤ d ∧ d ≤ 400) (hl : 0 ≤ l ∧ l ≤ 1000000) (hp : 0 ≤ p ∧ p ≤ 1000000) : cgB [some st, some (.int u), some (.int d), some (.int t), some (.int l), some (.int a), some (.int p)] =
    .next [some st, some (.int u), some (.int d), some (.int (t + (p - l) * mx (u - a * d))), some (.int p), some (.int a), some (.int p)] := by
  have e1 : mulD (.int a) (.int d) = .ok (.int (a * d)) := mulD_r ⟨by omega, by omega⟩
  have e2 : ∀ x, mulD (.int (p - l)) (.int x) = .ok (.int ((p - l) * x)) := fun x => mulD_l ⟨by omega, by omega⟩
  unfold cgB
  simp [e1, e2, -mulD_ii]
  unfold mx
  simp
theorem cg_loop (st : D) (u d : Int) (hd : 1 ≤ d ∧ d ≤ 400) : ∀ (ps : List (Int × Int)) (t l : Int) (j5 j6 : Option D), PrB ps → 0 ≤ l ∧ l ≤ 1000000 → ∃ x4 x5 x6, forD cgG cgB (ps.map encP) [some st, some (.int u), some (.int d), some (.int t), some (.int l), j5, j6] =
    .next [some st, some (.int u), some (.int d), some (.int (t + chg u d l ps)), x4, x5, x6]
  | [], t, l, j5, j6, _, _ => ⟨_, _, _, by rw [show chg u d l [] = 0 from rfl, Int.add_zero]; rfl⟩
  | p :: ps, t, l, j5, j6, hb, hl => by
    have hp := hb p List.mem_cons_self
    obtain ⟨x4, x5, x6, ih⟩ := cg_loop st u d hd ps (t + (p.2 - l) * mx (u - p.1 * d)) p.2 (some (.int p.1)) (some (.int p.2)) (fun q m => hb q (List.mem_cons_of_mem _ m)) hp
    refine ⟨x4, x5, x6, ?_⟩
    have hg : cgG (encP p) [some st, some (.int u), some (.int d), some (.int t), some (.int l), j5, j6] = some [some st, some (.int u), some (.int d), some (.int t), some (.int l), some (.int p.1), some (.int p.2)] := rfl
    rw [List.map_cons, for_cons hg, cgB_eq st u d t l p.1 p.2 hd hl hp]
    rw [Int.add_assoc] at ih
    exact ih
theorem charge_eq (s u d : Int) (ps : List (Int × Int)) (hb : PrB ps) : m_Tariff_charge [tarD s ps, .int u, .int d] = if okU u d then .ok (.int (s * d + chg u d 0 ps)) else .err "OutOfRange" [] := by
  unfold m_Tariff_charge
  rw [runF_eq]
  unfold b_Tariff_charge
  by_cases h : okU u d
  · obtain ⟨x4, x5, x6, e⟩ := cg_loop (tarD s ps) u d h.2 ps (s * d) 0 none none hb ⟨by omega, by omega⟩
    unfold cgG cgB at e
    have e1 : mulD (.int s) (.int d) = .ok (.int (s * d)) := mulD_r ⟨by have := h.2; omega, by have := h.2; omega⟩
    simp [call_use, h, e1, -mulD_ii, e]
  · simp [call_use, h]
theorem drop_at {α : Type} {ps : List α} {k : Nat} (h : k < ps.length) : ∃ p, ps[k]? = some p ∧ ps.drop k = p :: ps.drop (k + 1) := ⟨ps[k], List.getElem?_eq_getElem h, List.drop_eq_getElem_cons h⟩
theorem drop_end {α : Type} {ps : List α} {k : Nat} (h : ¬ k < ps.length) : ps.drop k = [] := List.drop_eq_nil_of_le (by omega)
theorem lns_turn {u d : Int} {ps L : List (Int × Int)} {k : Nat} {p : Int × Int} (h : L ++ lns u d (ps.drop k) = lns u d ps) (e : ps.drop k = p :: ps.drop (k + 1)) : (L ++ lnOf u d p (ps.drop (k + 1))) ++ lns u d (ps.drop (k + 1)) = lns u d ps := by
  rw [← h, e, List.append_assoc]; rfl
theorem lnOf_len (u d : Int) (p : Int × Int) (r : List (Int × Int)) : (lnOf u d p r).length ≤ 1 := by unfold lnOf; split <;> simp
theorem one_le : (1 : Nat) ≤ LINE := by decide
theorem two_le : (2 : Nat) ≤ LINE := by decide
def ILw (st : D) (u d s : Int) (ps : List (Int × Int)) (k : Nat) (ρ : Rho) : Prop := ∃ (L : List (Int × Int)) (j5 j6 : Option D), ρ = [some (.int s), some st, some (.int d), some (.int u), some (.lst .own (((d, s) :: L).map encP)), j5, j6] ∧ L ++ lns u d (ps.drop k) = lns u d ps ∧ L.length ≤ k
theorem lw_fin {st : D} {s u d : Int} {ps L : List (Int × Int)} {k : Nat} {p : Int × Int} (hl : ps.length ≤ 1000) (hk : k < ps.length) (h1 : L ++ lns u d (ps.drop k) = lns u d ps) (h2 : L.length ≤ k) (e2 : ps.drop k = p :: ps.drop (k + 1)) (E : Int) (hE : eHd u d (ps.drop (k + 1)) = E) (x5 x6 : Option D) :
    if p.1 * d < E then okS (appP 4 [some (.int s), some st, some (.int d), some (.int u), some (.lst .own (.tup [.int d, .int s] :: L.map encP)), x5, x6] (.tup [.int d, .int s] :: L.map encP) (.tup [.int (E - p.1 * d), .int p.2])) (ILw st u d s ps (k + 1))
    else ILw st u d s ps (k + 1) [some (.int s), some st, some (.int d), some (.int u), some (.lst .own (.tup [.int d, .int s] :: L.map encP)), x5, x6] := by
  have hL : (D.tup [.int d, .int s] :: L.map encP).length < LINE := by rw [List.length_cons, List.length_map]; exact ltL (by omega)
  have tn := lns_turn h1 e2
  have ll := lnOf_len u d p (ps.drop (k + 1))
  have z : lnOf u d p (ps.drop (k + 1)) = if p.1 * d < E then [(E - p.1 * d, p.2)] else [] := by unfold lnOf; rw [hE]
  rw [z] at tn
  by_cases c : p.1 * d < E
  · rw [if_pos c] at tn ⊢
    rw [appP_of hL]
    simp
    exact ⟨L ++ [(E - p.1 * d, p.2)], x5, x6, by rw [List.map_cons, List.map_append]; rfl, tn, by simp; omega⟩
  · rw [if_neg c] at tn ⊢
    rw [List.append_nil] at tn
    exact ⟨L, x5, x6, rfl, tn, by omega⟩
def lwB : Rho → Out := (sSeq (sSet 6 (eDup (eVar 3)))
    (sSeq (sIf (bE (eB2 ltD (eB2 addD (eVar 5) (eC (.int 1))) (eN lenD (aCons (eVar 1) aNil)))) (sSet 6 (eN min2D (aCons (eVar 3) (aCons (eB2 mulD (eB2 ixD (eB2 ixD (eVar 1) (eB2 addD (eVar 5) (eC (.int 1)))) (eC (.int 0))) (eVar 2)) aNil)))) sNil)
    (sIf (bE (eB2 gtD (eVar 6) (eB2 mulD (eB2 ixD (eB2 ixD (eVar 1) (eVar 5)) (eC (.int 0))) (eVar 2)))) (sApp 4 (eTup (aCons (eB2 subD (eVar 6) (eB2 mulD (eB2 ixD (eB2 ixD (eVar 1) (eVar 5)) (eC (.int 0))) (eVar 2))) (aCons (eDup (eB2 ixD (eB2 ixD (eVar 1) (eVar 5)) (eC (.int 1)))) aNil)))) sNil)))
theorem lw_step {K : LK} {s u d : Int} {ps : List (Int × Int)} (hd : 1 ≤ d ∧ d ≤ 400) (hl : ps.length ≤ 1000) {k : Nat} {ρ : Rho} (hk : k < ps.length) (h : ILw (.lst K (ps.map encP)) u d s ps k ρ) : ∃ ρ1, gN 5 (.int (k : Int)) ρ = some ρ1 ∧ okS (lwB ρ1) (ILw (.lst K (ps.map encP)) u d s ps (k + 1)) := by
  obtain ⟨L, j5, j6, rfl, h1, h2⟩ := h
  refine ⟨_, rfl, ?_⟩
  obtain ⟨p, e1, e2⟩ := drop_at hk
  have a1 : ixA (ps.map encP) (k : Int) Res.ok = .ok (encP p) := by rw [ixA_map, ixA_nat e1]
  have m1 : mulD (.int p.1) (.int d) = .ok (.int (p.1 * d)) := mulD_r ⟨by omega, by omega⟩
  by_cases c : k + 1 < ps.length
  · obtain ⟨q, e3, e4⟩ := drop_at c
    have a2 : ixA (ps.map encP) ((k : Int) + 1) Res.ok = .ok (encP q) := by rw [show ((k : Int) + 1) = ((k + 1 : Nat) : Int) from by omega, ixA_map, ixA_nat e3]
    have m2 : mulD (.int q.1) (.int d) = .ok (.int (q.1 * d)) := mulD_r ⟨by omega, by omega⟩
    have c' : (k : Int) + 1 < (ps.length : Int) := by omega
    have he : eHd u d (ps.drop (k + 1)) = if q.1 * d < u then q.1 * d else u := by rw [e4]; rfl
    unfold lwB
    simp [a1, a2, c', m1, m2, -mulD_ii, encP, two_le]
    exact lw_fin hl hk h1 h2 e2 _ he _ _
  · have c' : ¬ (k : Int) + 1 < (ps.length : Int) := by omega
    have he : eHd u d (ps.drop (k + 1)) = u := by rw [drop_end c]; rfl
    unfold lwB
    simp [a1, c', m1, -mulD_ii, encP, two_le]
    exact lw_fin hl hk h1 h2 e2 _ he _ _
theorem law_lines_eq (K : LK) (s u d : Int) (ps : List (Int × Int)) (hd : 1 ≤ d ∧ d ≤ 400) (hl : ps.length ≤ 1000) : m__law_lines [.int s, .lst K (ps.map encP), .int d, .int u] = .ok (.lst .own (((d, s) :: lns u d ps).map encP)) := by
  unfold m__law_lines
  rw [runF_eq]
  unfold b__law_lines
  obtain ⟨ρ', e, L, j5, j6, rfl, h1, h2⟩ := for_range (m := ps.length) (g := gN 5) (F := lwB) (ρ := [some (.int s), some (.lst K (ps.map encP)), some (.int d), some (.int u), some (.lst .own [.tup [.int d, .int s]]), none, none]) (ILw (.lst K (ps.map encP)) u d s ps)
      ⟨[], none, none, rfl, rfl, by simp⟩ (fun k ρ hk h' => lw_step hd hl hk h')
  unfold lwB at e
  rw [drop_end (by omega)] at h1
  have h1 : L = lns u d ps := by rw [← h1]; show L = L ++ []; rw [List.append_nil]
  subst h1
  have hr : rng1D [.int (ps.length : Int)] = .ok ((List.range ps.length).map fun (i : Nat) => .int (i : Int)) := rng1_at (by omega)
  simp [hr, one_le, two_le]
  rw [e]
  simp
theorem call_lines (K K' : LK) (hK : (K = .frz ∧ K' = .frz) ∨ (K = .bor ∧ K' = .bor) ∨ (K = .own ∧ K' = .bor)) (s u d : Int) (ps : List (Int × Int)) (hd : 1 ≤ d ∧ d ≤ 400) (hl : ps.length ≤ 1000) : callD 4 m__law_lines [.int s, .lst K (ps.map encP), .int d, .int u] = .ok (.lst .own (((d, s) :: lns u d ps).map encP)) := by
  rw [callD_at (n := 4) (es := [.int s, .lst K' (ps.map encP), .int d, .int u]) rfl (by rcases hK with ⟨rfl, rfl⟩ | ⟨rfl, rfl⟩ | ⟨rfl, rfl⟩ <;> rfl) (by rcases hK with ⟨rfl, rfl⟩ | ⟨rfl, rfl⟩ | ⟨rfl, rfl⟩ <;> simp), law_lines_eq K' s u d ps hd hl]
theorem lns_len (u d : Int) : ∀ ps, (lns u d ps).length ≤ ps.length
  | [] => Nat.le_refl _
  | p :: r => by
    show (lnOf u d p r ++ lns u d r).length ≤ r.length + 1
    rw [List.length_append]
    have := lnOf_len u d p r
    have := lns_len u d r
    omega
def sumL (L : List (Int × Int)) : Int := (L.map fun p => p.1 * p.2).sum
/-- each product may be made -/
def MulL (L : List (Int × Int)) : Prop := ∀ p ∈ L, -18446744073709551616 < p.2 ∧ p.2 < 18446744073709551616
theorem law_charge_eq (K : LK) (hK : K = .frz ∨ K = .bor) (s u d : Int) (ps : List (Int × Int)) (hd : 1 ≤ d ∧ d ≤ 400) (hl : ps.length ≤ 1000) (hm : MulL ((d, s) :: lns u d ps)) : m__law_charge [.int s, .lst K (ps.map encP), .int d, .int u] = .ok (.int (sumL ((d, s) :: lns u d ps))) := by
  unfold m__law_charge
  rw [runF_eq]
  unfold b__law_charge
  have hc := call_lines K K (by rcases hK with rfl | rfl; exact .inl ⟨rfl, rfl⟩; exact .inr (.inl ⟨rfl, rfl⟩)) s u d ps hd hl
  have hcomp := eComp_eq (vs := [4]) (src := iNew (eCall 4 m__law_lines (aCons (eVar 0) (aCons (eVar 1) (aCons (eVar 2) (aCons (eVar 3) aNil)))))) (g := gN 4) (t := bYes) (f := eB2 mulD (eB2 ixD (eVar 4) (eC (.int 0))) (eB2 ixD (eVar 4) (eC (.int 1))))
    (ρ := [some (.int s), some (.lst K (ps.map encP)), some (.int d), some (.int u), none]) (ds := ((d, s) :: lns u d ps).map encP) (ys := ((d, s) :: lns u d ps).map fun p => .int (p.1 * p.2))
    (by simp only [iNew_eq, eCall_eq, aCons_eq, eVar_eq, aNil_eq, List.getElem?_cons_zero, List.getElem?_cons_succ, oGet_some, rb_ok, hc, newItemsD_own, dupP, if_true])
    (by
      have z := comp_map (q := encP) (g := gN 4) (p := fun _ => true) (r := fun p : Int × Int => D.int (p.1 * p.2)) (t := bYes) (f := eB2 mulD (eB2 ixD (eVar 4) (eC (.int 0))) (eB2 ixD (eVar 4) (eC (.int 1)))) (ρ := wipeR [some (.int s), some (.lst K (ps.map encP)), some (.int d), some (.int u), none] [4]) (as := (d, s) :: lns u d ps) (fun p hp => ⟨_, rfl, rfl, fun _ => by
        have mm : mulD (.int p.1) (.int p.2) = .ok (.int (p.1 * p.2)) := mulD_r (hm p hp)
        simp [wipeR, encP, mm, -mulD_ii]⟩)
      rw [z, List.filter_eq_self.mpr (fun _ _ => rfl)])
    (by rw [List.length_map, List.length_cons]; have := lns_len u d ps; exact leL (by omega)) (retAll_map (fun _ => rfl) _)
  have hs := sumD_map (k := .own) (as := (d, s) :: lns u d ps) (h := fun p : Int × Int => p.1 * p.2)
  simp only [List.map_cons] at hs hcomp
  simp [hcomp, hs]
  rfl
theorem for_none {α : Type} {q : α → D} {g : GG} {F : Rho → Out} {as : List α} (P : Rho → Prop) {ρ : Rho} (h0 : P ρ) (h : ∀ a ρ, a ∈ as → P ρ → ∃ ρ1, g (q a) ρ = some ρ1 ∧ okS (F ρ1) P) : ∃ ρ', forD g F (as.map q) ρ = .next ρ' ∧ P ρ' :=
  for_all (fun _ => P) h0 fun done a rest ρ e hi => h a ρ (by rw [e]; simp) hi
/-- begins ascend -/
def Up : List (Int × Int) → Prop
  | [] => True
  | p :: r => (∀ q ∈ r, p.1 < q.1) ∧ Up r
theorem mul_lt {a b d : Int} (h : a < b) (hd : 1 ≤ d) : a * d < b * d := Int.mul_lt_mul_of_pos_right h (by omega)
theorem sumL_cons (p : Int × Int) (L : List (Int × Int)) : sumL (p :: L) = p.1 * p.2 + sumL L := by unfold sumL; simp
theorem sumL_app (L M : List (Int × Int)) : sumL (L ++ M) = sumL L + sumL M := by unfold sumL; simp
theorem sumL_nil : sumL [] = 0 := rfl
theorem chg_lns (u d : Int) (hd : 1 ≤ d) : ∀ (ps : List (Int × Int)) (l : Int), Up ps → chg u d l ps = sumL (lns u d ps) - l * (match ps with | [] => 0 | p :: _ => mx (u - p.1 * d))
  | [], l, _ => by show (0 : Int) = sumL [] - l * 0; rw [sumL_nil]; omega
  | [p], l, _ => by
    show (p.2 - l) * mx (u - p.1 * d) + 0 = sumL (lnOf u d p [] ++ []) - l * mx (u - p.1 * d)
    rw [List.append_nil, Int.sub_mul]
    unfold lnOf eHd mx
    by_cases c : u > p.1 * d
    · rw [if_pos c, if_pos (by omega), sumL_cons, sumL_nil, Int.mul_comm p.2]; simp
    · rw [if_neg c, if_neg (by omega), sumL_nil]; simp
  | p :: q :: r, l, h => by
    have ih := chg_lns u d hd (q :: r) p.2 h.2
    have hpq := mul_lt (h.1 q List.mem_cons_self) hd
    show (p.2 - l) * mx (u - p.1 * d) + chg u d p.2 (q :: r) = sumL (lnOf u d p (q :: r) ++ lns u d (q :: r)) - l * mx (u - p.1 * d)
    rw [ih, sumL_app, Int.sub_mul]
    have z : sumL (lnOf u d p (q :: r)) = p.2 * mx (u - p.1 * d) - p.2 * mx (u - q.1 * d) := by
      have key : ∀ E, eHd u d (q :: r) = E → lnOf u d p (q :: r) = if E > p.1 * d then [(E - p.1 * d, p.2)] else [] := fun E h => by unfold lnOf; rw [h]
      have hE : eHd u d (q :: r) = mn u (q.1 * d) := rfl
      by_cases c1 : q.1 * d < u
      · rw [key (q.1 * d) (by rw [hE]; unfold mn; rw [if_pos c1])]
        unfold mx
        rw [if_pos (by omega), if_pos (by omega), if_pos (by omega), sumL_cons, sumL_nil]
        show (q.1 * d - p.1 * d) * p.2 + 0 = _
        rw [Int.add_zero, ← Int.mul_sub, Int.mul_comm p.2]
        congr 1
        omega
      · rw [key u (by rw [hE]; unfold mn; rw [if_neg c1])]
        unfold mx
        rw [if_neg (show ¬ u - q.1 * d > 0 by omega)]
        by_cases c2 : u > p.1 * d
        · rw [if_pos c2, if_pos (by omega), sumL_cons, sumL_nil, Int.mul_comm p.2]; simp
        · rw [if_neg c2, if_neg (by omega), sumL_nil]; simp
    rw [z]
    simp only
    omega
structure Good (ps : List (Int × Int)) : Prop where
  up : Up ps
  b : ∀ p ∈ ps, 0 ≤ p.1 ∧ p.1 ≤ 1000000 ∧ 0 ≤ p.2 ∧ p.2 ≤ 1000000
  z : ∃ p r, ps = p :: r ∧ p.1 = 0
  len : 1 ≤ ps.length ∧ ps.length ≤ 8
@[simp] theorem meth_charge (s : Int) (ps : List (Int × Int)) (n : Nat) (m : List D → Res D) (r : Res (List D)) : methK "Tariff" "charge" n m r (tarD s ps) = r.bind fun ds => callD n m (tarD s ps :: ds) := methK_at rfl
@[simp] theorem meth_price (s : Int) (ps : List (Int × Int)) (n : Nat) (m : List D → Res D) (r : Res (List D)) : methK "Tariff" "price_at" n m r (tarD s ps) = r.bind fun ds => callD n m (tarD s ps :: ds) := methK_at rfl
theorem call_charge (s u d : Int) (ps : List (Int × Int)) (hb : PrB ps) : callD 3 m_Tariff_charge [tarD s ps, .int u, .int d] = if okU u d then .ok (.int (s * d + chg u d 0 ps)) else .err "OutOfRange" [] := by
  rw [callD_at (n := 3) (es := [tarD s ps, .int u, .int d]) rfl rfl rfl, charge_eq s u d ps hb]
theorem lns_price (u d : Int) : ∀ (ps : List (Int × Int)), PrB ps → ∀ q ∈ lns u d ps, 0 ≤ q.2 ∧ q.2 ≤ 1000000
  | [], _, q, h => nomatch h
  | p :: r, hb, q, h => by
    rcases List.mem_append.mp (show q ∈ lnOf u d p r ++ lns u d r from h) with h | h
    · unfold lnOf at h
      split at h
      · rw [List.mem_singleton.mp h]; exact hb p List.mem_cons_self
      · cases h
    · exact lns_price u d r (fun q m => hb q (List.mem_cons_of_mem _ m)) q h
theorem Good.prb {ps : List (Int × Int)} (g : Good ps) : PrB ps := fun p m => (g.b p m).2.2
theorem Good.mull {ps : List (Int × Int)} (g : Good ps) {s u d : Int} (hs : 0 ≤ s ∧ s ≤ 1000001) : MulL ((d, s) :: lns u d ps) := fun p m => by
  rcases List.mem_cons.mp m with rfl | m
  · exact ⟨by omega, by omega⟩
  · have := lns_price u d ps g.prb p m
    omega
theorem Good.chg {ps : List (Int × Int)} (g : Good ps) {s u d : Int} (hd : 1 ≤ d) : s * d + K45.chg u d 0 ps = sumL ((d, s) :: lns u d ps) := by
  rw [chg_lns u d hd ps 0 g.up, sumL_cons, Int.mul_comm s d]
  simp
theorem charge_call (K : LK) (hK : K = .frz ∨ K = .bor) (s u d : Int) (ps : List (Int × Int)) (hd : 1 ≤ d ∧ d ≤ 400) (hl : ps.length ≤ 1000) (hm : MulL ((d, s) :: lns u d ps)) : callD 4 m__law_charge [.int s, .lst K (ps.map encP), .int d, .int u] = .ok (.int (sumL ((d, s) :: lns u d ps))) := by
  rw [callD_at (n := 4) (es := [.int s, .lst K (ps.map encP), .int d, .int u]) rfl (by rcases hK with rfl | rfl <;> rfl) (by rcases hK with rfl | rfl <;> rfl), law_charge_eq K hK s u d ps hd hl hm]
theorem at_call (k : LK) (hk : k = .frz ∨ k = .bor) (row : List Int) (a : Nat) (many : Int) (v : Int) (hm : 0 < many) (h : row[a]? = some v) : callD 3 m__law_at [.lst k (row.map D.int), .int a, .int many] = .ok (.int (v % many)) := by
  rw [callD_at (n := 3) (es := [.lst k (row.map D.int), .int a, .int many]) rfl (by rcases hk with rfl | rfl <;> rfl) (by rcases hk with rfl | rfl <;> rfl), law_at_eq k row a many v hm h]
theorem chk_good : ∀ (ps : List (Int × Int)) (l : Int), (l < 0 → ∃ p r, ps = p :: r ∧ p.1 = 0) → Up ps → (∀ p ∈ ps, l < p.1) → (∀ p ∈ ps, 0 ≤ p.1 ∧ p.1 ≤ 1000000 ∧ 0 ≤ p.2 ∧ p.2 ≤ 1000000) → chk l ps = none
  | [], l, _, _, _, _ => rfl
  | p :: r, l, h0, hu, hl, hb => by
    have b := hb p List.mem_cons_self
    have c := hl p List.mem_cons_self
    unfold chk
    have c1 : ¬ ((l < 0 ∧ p.1 ≠ 0) ∨ p.1 ≤ l) := by
      rintro (⟨h1, h2⟩ | h)
      · obtain ⟨p', r', e, z⟩ := h0 h1
        cases e
        exact h2 z
      · omega
    rw [if_neg c1, if_neg (by omega)]
    exact chk_good r p.1 (by omega) hu.2 hu.1 fun q m => hb q (List.mem_cons_of_mem _ m)
theorem Good.chk {ps : List (Int × Int)} (g : Good ps) : K45.chk (-1) ps = none := chk_good ps (-1) (fun _ => g.z) g.up (fun p m => by have := g.b p m; omega) g.b
theorem Good.ref {ps : List (Int × Int)} (g : Good ps) {s : Int} (hs : 0 ≤ s ∧ s ≤ 1000000) : refS s ps = none := by
  unfold refS
  have := g.len
  rw [if_neg (by omega), if_neg (fun z => by rw [z] at this; simp at this), if_neg (by omega), g.chk]
  rfl
theorem at_callI (k : LK) (hk : k = .frz ∨ k = .bor) (row : List Int) (i m : Int) (h0 : 0 ≤ i) (h1 : i < (row.length : Int)) (hm : 0 < m) : ∃ x, 0 ≤ x ∧ x < m ∧ callD 3 m__law_at [.lst k (row.map D.int), .int i, .int m] = .ok (.int x) := by
  obtain ⟨n, rfl⟩ : ∃ n : Nat, i = (n : Int) := ⟨i.toNat, by omega⟩
  obtain ⟨v, hv⟩ : ∃ v, row[n]? = some v := ⟨row[n]'(by omega), List.getElem?_eq_getElem (by omega)⟩
  exact ⟨v % m, Int.emod_nonneg _ (by omega), Int.emod_lt_of_pos _ hm, at_call k hk row n m v hm hv⟩
structure StI (c : Int) (k : Nat) (us pr : List Int) : Prop where
  ul : us.length = max 1 k
  pl : pr.length = k
  hd : ∃ r, us = 0 :: r
  asc : us.Pairwise (· < ·)
  last : ∃ u, us.getLast? = some u ∧ u ≤ 1000000 - c + (max 1 k : Nat)
  le : ∀ u ∈ us, 0 ≤ u ∧ u ≤ 1000000 - c + (max 1 k : Nat)
  pb : ∀ p ∈ pr, 0 ≤ p ∧ p ≤ 1000000
def ISt (row : List Int) (at_ c w m : Int) (k : Nat) (ρ : Rho) : Prop := ∃ (us pr : List Int) (j7 j8 : Option D), ρ = [some (.lst .bor (row.map D.int)), some (.int at_), some (.int c), some (.int w), some (.int m), some (.lst .own (us.map D.int)), some (.lst .own (pr.map D.int)), j7, j8] ∧ StI c k us pr
def stB : Rho → Out := (sSeq (sIf (bE (eB2 gtD (eVar 7) (eC (.int 0)))) (sSeq (sSet 8 (eB2 subD (eB2 addD (eB2 subD (eC (.int 1000001)) (eVar 2)) (eVar 7)) (eB2 ixD (eVar 5) (eU1 negD (eC (.int 1))))))
      (sApp 5 (eB2 addD (eB2 addD (eB2 ixD (eVar 5) (eU1 negD (eC (.int 1)))) (eC (.int 1))) (eCall 3 m__law_at (aCons (eVar 0) (aCons (eB2 addD (eVar 1) (eB2 mulD (eC (.int 3)) (eVar 7))) (aCons (eN min2D (aCons (eVar 8) (aCons (eB2 ixD (eTmp (aCons (eC (.int 6)) (aCons (eC (.int 1000000)) aNil))) (eVar 3)) aNil))) aNil))))))) sNil)
    (sSeq (sApp 6 (eCall 3 m__law_at (aCons (eVar 0) (aCons (eB2 addD (eB2 addD (eVar 1) (eB2 mulD (eC (.int 3)) (eVar 7))) (eC (.int 1))) (aCons (eB2 ixD (eTmp (aCons (eC (.int 10)) (aCons (eC (.int 1000001)) aNil))) (eVar 3)) aNil)))))
    (sIf (bAnd (bE (eB2 gtD (eVar 7) (eC (.int 0)))) (bE (eB2 eqD (eCall 3 m__law_at (aCons (eVar 0) (aCons (eB2 addD (eB2 addD (eVar 1) (eB2 mulD (eC (.int 3)) (eVar 7))) (eC (.int 2))) (aCons (eC (.int 4)) aNil)))) (eC (.int 1))))) (sIx 6 (eVar 7) (eB2 ixD (eVar 6) (eB2 subD (eVar 7) (eC (.int 1))))) sNil)))
theorem st_step {row : List Int} {at_ c w m : Int} (hw : w = 0 ∨ w = 1) (hc : 1 ≤ c ∧ c ≤ 8) (ha : 0 ≤ at_ ∧ at_ + 3 * c ≤ (row.length : Int)) {k : Nat} {ρ : Rho} (hk : (k : Int) < c) (h : ISt row at_ c w m k ρ) : ∃ ρ1, gN 7 (.int (k : Int)) ρ = some ρ1 ∧ okS (stB ρ1) (ISt row at_ c w m (k + 1)) := by
  obtain ⟨us, pr, j7, j8, rfl, S⟩ := h
  refine ⟨_, rfl, ?_⟩
  obtain ⟨w1, hw1, bw1⟩ : ∃ w1, ixA [D.int 6, D.int 1000000] w Res.ok = .ok (.int w1) ∧ 1 ≤ w1 := by
    rcases hw with rfl | rfl
    · exact ⟨6, by simp, by omega⟩
    · exact ⟨1000000, by simp, by omega⟩
  obtain ⟨w2, hw2, bw2, bw3⟩ : ∃ w2, ixA [D.int 10, D.int 1000001] w Res.ok = .ok (.int w2) ∧ 1 ≤ w2 ∧ w2 ≤ 1000001 := by
    rcases hw with rfl | rfl
    · exact ⟨10, by simp, by omega, by omega⟩
    · exact ⟨1000001, by simp, by omega, by omega⟩
  obtain ⟨u, hu, bu⟩ := S.last
  have lu : ixA (us.map D.int) (-1) Res.ok = .ok (.int u) := by rw [ixA_map, ixA_last hu]
  have m3 : mulD (.int 3) (.int (k : Int)) = .ok (.int (3 * (k : Int))) := mulD_l ⟨by omega, by omega⟩
  obtain ⟨x2, g1, g2, a2⟩ := at_callI .bor (.inr rfl) row (at_ + 3 * (k : Int) + 1) w2 (by omega) (by omega) (by omega)
  obtain ⟨x3, h1, h2, a3⟩ := at_callI .bor (.inr rfl) row (at_ + 3 * (k : Int) + 2) 4 (by omega) (by omega) (by omega)
  have hLu : (us.map D.int).length < LINE := by rw [List.length_map, S.ul]; exact ltL (by omega)
  have hLp : (pr.map D.int).length < LINE := by rw [List.length_map, S.pl]; exact ltL (by omega)
  have S2 : ∀ us', (us'.length = max 1 (k + 1) ∧ (∃ r, us' = 0 :: r) ∧ us'.Pairwise (· < ·) ∧ (∃ u, us'.getLast? = some u ∧ u ≤ 1000000 - c + (max 1 (k + 1) : Nat)) ∧ (∀ u ∈ us', 0 ≤ u ∧ u ≤ 1000000 - c + (max 1 (k + 1) : Nat))) → ∀ pr', pr'.length = k + 1 → (∀ p ∈ pr', 0 ≤ p ∧ p ≤ 1000000) → StI c (k + 1) us' pr' := fun us' ⟨q1, q2, q3, q4, q5⟩ pr' q6 q7 => ⟨q1, q6, q2, q3, q4, q5, q7⟩
  have pb2 : ∀ p ∈ pr ++ [x2], 0 ≤ p ∧ p ≤ 1000000 := fun p hp => by
    rcases List.mem_append.mp hp with hp | hp
    · exact S.pb p hp
    · rw [List.mem_singleton.mp hp]; omega
  unfold stB
  by_cases k0 : k = 0
  · subst k0
    simp [-mulD_ii] at a2 a3 m3
    simp [hw2, a2, a3, appP_of hLp, two_le, m3, -mulD_ii]
    refine ⟨us, pr ++ [x2], _, _, by rw [List.map_append]; rfl, S2 us ⟨S.ul, S.hd, S.asc, S.last, S.le⟩ _ (by rw [List.length_append, S.pl]; rfl) pb2⟩
  · have kp : 0 < (k : Int) := by omega
    have kn : 0 < k := by omega
    have mk : max 1 k = k := by omega
    have mk1 : max 1 (k + 1) = k + 1 := by omega
    rw [mk] at bu
    obtain ⟨x1, f1, f2, a1⟩ := at_callI .bor (.inr rfl) row (at_ + 3 * (k : Int)) (if w1 < 1000001 - c + (k : Int) - u then w1 else 1000001 - c + (k : Int) - u) (by omega) (by omega) (by split <;> omega)
    have f3 : x1 < 1000001 - c + (k : Int) - u := by
      split at f2 <;> omega
    have us2 : (us ++ [u + 1 + x1]).length = max 1 (k + 1) ∧ (∃ r, us ++ [u + 1 + x1] = 0 :: r) ∧ (us ++ [u + 1 + x1]).Pairwise (· < ·) ∧ (∃ v, (us ++ [u + 1 + x1]).getLast? = some v ∧ v ≤ 1000000 - c + (max 1 (k + 1) : Nat)) ∧ (∀ v ∈ us ++ [u + 1 + x1], 0 ≤ v ∧ v ≤ 1000000 - c + (max 1 (k + 1) : Nat)) := by
      have hle : ∀ v ∈ us, v ≤ u := fun v hv => by
        obtain ⟨ini, e⟩ := List.getLast?_eq_some_iff.mp hu
        have asc := S.asc
        rw [e] at asc hv
        rcases List.mem_append.mp hv with hv | hv
        · exact Int.le_of_lt ((List.pairwise_append.mp asc).2.2 v hv u (List.mem_singleton.mpr rfl))
        · rw [List.mem_singleton.mp hv]; exact Int.le_refl _
      have u0 : 0 ≤ u := (S.le u (List.mem_of_getLast? hu)).1
      refine ⟨by rw [List.length_append, S.ul, mk, mk1]; rfl, ?_, ?_, ⟨_, List.getLast?_concat .., by omega⟩, fun v hv => ?_⟩
      · obtain ⟨r, e⟩ := S.hd
        exact ⟨r ++ [u + 1 + x1], by rw [e]; rfl⟩
      · refine List.pairwise_append.mpr ⟨S.asc, List.pairwise_singleton _ _, fun v hv y hy => ?_⟩
        rw [List.mem_singleton.mp hy]
        have := hle v hv
        omega
      · rcases List.mem_append.mp hv with hv | hv
        · have := S.le v hv
          omega
        · rw [List.mem_singleton.mp hv]; omega
    simp [hw1, hw2, a1, a2, a3, appP_of hLu, appP_of hLp, two_le, m3, lu, kp, kn, -mulD_ii]
    by_cases x31 : x3 = 1
    · obtain ⟨v, hv, ev⟩ : ∃ v, (pr ++ [x2])[k - 1]? = some v ∧ ixA (pr.map D.int ++ [D.int x2]) ((k : Int) - 1) Res.ok = .ok (.int v) := by
        have hl : k - 1 < (pr ++ [x2]).length := by rw [List.length_append, S.pl]; omega
        refine ⟨(pr ++ [x2])[k - 1], List.getElem?_eq_getElem hl, ?_⟩
        have e : pr.map D.int ++ [D.int x2] = (pr ++ [x2]).map D.int := by rw [List.map_append]; rfl
        rw [e, show (k : Int) - 1 = ((k - 1 : Nat) : Int) by omega, ixA_map, ixA_nat (List.getElem?_eq_getElem hl)]
      have en : ixN (pr.length + 1) (k : Int) = some k := ixN_nat (by rw [S.pl]; omega)
      simp [x31, ev, en, setP]
      refine ⟨us ++ [u + 1 + x1], (pr ++ [x2]).set k v, _, _, by rw [List.map_append, List.map_set, List.map_append]; rfl, S2 _ us2 _ (by rw [List.length_set, List.length_append, S.pl]; rfl) fun p hp => ?_⟩
      rcases List.mem_or_eq_of_mem_set hp with hp | rfl
      · exact pb2 p hp
      · exact pb2 p (List.mem_of_getElem? hv)
    · simp [x31]
      exact ⟨us ++ [u + 1 + x1], pr ++ [x2], _, _, by rw [List.map_append, List.map_append]; rfl, S2 _ us2 _ (by rw [List.length_append, S.pl]; rfl) pb2⟩
theorem up_zip : ∀ (us pr : List Int), us.Pairwise (· < ·) → Up (us.zip pr)
  | [], pr, _ => trivial
  | u :: us, [], _ => trivial
  | u :: us, p :: pr, h => by
    obtain ⟨h1, h2⟩ := List.pairwise_cons.mp h
    exact ⟨fun q hq => h1 q.1 (List.of_mem_zip hq).1, up_zip us pr h2⟩
theorem good_zip {c : Int} {k : Nat} {us pr : List Int} (hk : 1 ≤ k ∧ k ≤ 8) (hc : c = (k : Int)) (S : StI c k us pr) : Good (us.zip pr) ∧ (us.zip pr).length = k := by
  have l1 := S.ul
  have l2 := S.pl
  have hl : (us.zip pr).length = k := by rw [List.length_zip]; omega
  refine ⟨⟨up_zip us pr S.asc, fun p hp => ?_, ?_, by omega⟩, hl⟩
  · have a := S.le p.1 (List.of_mem_zip hp).1
    have b := S.pb p.2 (List.of_mem_zip hp).2
    omega
  · obtain ⟨r, e⟩ := S.hd
    cases pr with
    | nil => simp at l2; omega
    | cons p pr => exact ⟨(0, p), r.zip pr, by rw [e]; rfl, rfl⟩
theorem law_steps_eq (row : List Int) (at_ c w m : Int) (hw : w = 0 ∨ w = 1) (hc : 1 ≤ c ∧ c ≤ 8) (ha : 0 ≤ at_ ∧ at_ + 3 * c ≤ (row.length : Int)) : ∃ ps, m__law_steps [.lst .bor (row.map D.int), .int at_, .int c, .int w, .int m] = .ok (.lst .own (ps.map encP)) ∧ Good ps := by
  obtain ⟨n, rfl⟩ : ∃ n : Nat, c = (n : Int) := ⟨c.toNat, by omega⟩
  unfold m__law_steps
  rw [runF_eq]
  unfold b__law_steps
  obtain ⟨ρ', e, us, pr, j7, j8, rfl, S⟩ := for_range (m := n) (g := gN 7) (F := stB) (ρ := [some (.lst .bor (row.map D.int)), some (.int at_), some (.int n), some (.int w), some (.int m), some (.lst .own [.int 0]), some (.lst .own []), none, none]) (ISt row at_ n w m)
    ⟨[0], [], none, none, rfl, ⟨rfl, rfl, ⟨[], rfl⟩, List.pairwise_singleton _ _, ⟨0, rfl, by simp; omega⟩, fun u hu => by rw [List.mem_singleton.mp hu]; simp; omega, fun _ z => nomatch z⟩⟩ (fun k ρ hk h => st_step hw hc ha (by omega) h)
  unfold stB at e
  have hr : rng1D [.int (n : Int)] = .ok ((List.range n).map fun (i : Nat) => .int (i : Int)) := rng1_at (by omega)
  -- whichever way the prices lie
  have fin : ∀ pr' : List Int, pr'.length = n → (∀ p ∈ pr', 0 ≤ p ∧ p ≤ 1000000) → ∃ ps, eComp [7] (iRg rng1D (aCons (eVar 2) aNil)) (gN 7) bYes (eTup (aCons (eDup (eB2 ixD (eVar 5) (eVar 7))) (aCons (eDup (eB2 ixD (eVar 6) (eVar 7))) aNil))) [some (.lst .bor (row.map D.int)), some (.int at_), some (.int n), some (.int w), some (.int m), some (.lst .own (us.map D.int)), some (.lst .own (pr'.map D.int)), j7, j8] = .ok (.lst .own (ps.map encP)) ∧ Good ps := fun pr' hl hb => by
    obtain ⟨g, gl⟩ := good_zip ⟨by omega, by omega⟩ rfl { S with pl := hl, pb := hb }
    have hul : us.length = n := by rw [S.ul]; omega
    have z := comp_map (q := fun (i : Nat) => D.int (i : Int)) (g := gN 7) (p := fun _ => true) (r := fun (i : Nat) => encP (us.getD i 0, pr'.getD i 0)) (t := bYes) (f := eTup (aCons (eDup (eB2 ixD (eVar 5) (eVar 7))) (aCons (eDup (eB2 ixD (eVar 6) (eVar 7))) aNil)))
      (ρ := wipeR [some (.lst .bor (row.map D.int)), some (.int at_), some (.int n), some (.int w), some (.int m), some (.lst .own (us.map D.int)), some (.lst .own (pr'.map D.int)), j7, j8] [7]) (as := List.range n)
      (fun i hi => ⟨_, rfl, rfl, fun _ => by
        have hin := List.mem_range.mp hi
        have i1 : ixA (us.map D.int) (i : Int) Res.ok = .ok (.int (us.getD i 0)) := by rw [ixA_map, ixA_nat (a := us.getD i 0) (by rw [List.getD_eq_getElem?_getD, List.getElem?_eq_getElem (by omega)]; rfl)]
        have i2 : ixA (pr'.map D.int) (i : Int) Res.ok = .ok (.int (pr'.getD i 0)) := by rw [ixA_map, ixA_nat (a := pr'.getD i 0) (by rw [List.getD_eq_getElem?_getD, List.getElem?_eq_getElem (by omega)]; rfl)]
        simp [wipeR, i1, i2, encP, two_le]⟩)
    rw [List.filter_eq_self.mpr (fun _ _ => rfl)] at z
    have hcomp := eComp_eq (vs := [7]) (src := iRg rng1D (aCons (eVar 2) aNil)) (ρ := [some (.lst .bor (row.map D.int)), some (.int at_), some (.int n), some (.int w), some (.int m), some (.lst .own (us.map D.int)), some (.lst .own (pr'.map D.int)), j7, j8]) (ds := (List.range n).map fun (i : Nat) => .int (i : Int)) (by simp [hr]) z
      (by rw [List.length_map, List.length_range]; exact leL (by omega)) (retAll_map (fun _ => rfl) _)
    refine ⟨us.zip pr', ?_, g⟩
    rw [hcomp]
    have ez : us.zip pr' = (List.range n).map fun i => (us.getD i 0, pr'.getD i 0) := by
      refine List.ext_getElem (by rw [gl, List.length_map, List.length_range]) fun i a b => ?_
      simp
      rw [List.getElem?_eq_getElem (by omega), List.getElem?_eq_getElem (by omega)]
      simp
    rw [ez, List.map_map]
    rfl
  have sl : (sortI pr).length = n ∧ ∀ p ∈ sortI pr, 0 ≤ p ∧ p ≤ 1000000 := ⟨by rw [(sortI_perm pr).length_eq, S.pl], fun p hp => S.pb p ((sortI_perm pr).mem_iff.mp hp)⟩
  have s1 : sortD [.lst .own (pr.map D.int)] = .ok (.lst .own ((sortI pr).map D.int)) := by show sortR (toInts (pr.map D.int)) = _; rw [toInts_int]; rfl
  have s2 : sortRevD [.lst .own (pr.map D.int)] = .ok (.lst .own ((sortI pr).reverse.map D.int)) := by show revR (toInts (pr.map D.int)) = _; rw [toInts_int]; rfl
  simp [hr, one_le]
  rw [e]
  by_cases m1 : m = 1
  · obtain ⟨ps, h1, h2⟩ := fin (sortI pr) sl.1 sl.2
    refine ⟨ps, ?_, h2⟩
    subst m1
    simp [s1, h1]
  · by_cases m2 : m = 2
    · obtain ⟨ps, h1, h2⟩ := fin (sortI pr).reverse (by rw [List.length_reverse]; exact sl.1) (fun p hp => sl.2 p (List.mem_reverse.mp hp))
      refine ⟨ps, ?_, h2⟩
      subst m2
      simp only [List.map_reverse] at s2 h1
      simp [eSortB, s2, h1]
    · obtain ⟨ps, h1, h2⟩ := fin pr S.pl S.pb
      refine ⟨ps, ?_, h2⟩
      simp [m1, m2, h1]
theorem at_callO (k : LK) (hk : k = .frz ∨ k = .bor ∨ k = .own) (row : List Int) (i m : Int) (h0 : 0 ≤ i) (h1 : i < (row.length : Int)) (hm : 0 < m) : ∃ x, 0 ≤ x ∧ x < m ∧ callD 3 m__law_at [.lst k (row.map D.int), .int i, .int m] = .ok (.int x) := by
  rcases hk with rfl | rfl | rfl
  · exact at_callI .frz (.inl rfl) row i m h0 h1 hm
  · exact at_callI .bor (.inr rfl) row i m h0 h1 hm
  · obtain ⟨x, a, b, e⟩ := at_callI .bor (.inr rfl) row i m h0 h1 hm
    refine ⟨x, a, b, ?_⟩
    rw [← e, callD_at (n := 3) (es := [.lst .bor (row.map D.int), .int i, .int m]) rfl rfl (by simp), callD_at (n := 3) (es := [.lst .bor (row.map D.int), .int i, .int m]) rfl rfl rfl]
/-! a split -/
structure Sp4 where
  u1 : Int
  d1 : Int
  u2 : Int
  d2 : Int
def encS (p : Sp4) : D := .tup [.int p.u1, .int p.d1, .int p.u2, .int p.d2]
def okS4 (p : Sp4) : Prop := (0 ≤ p.u1 ∧ 0 ≤ p.u2 ∧ p.u1 + p.u2 ≤ 1000000000) ∧ (1 ≤ p.d1 ∧ 1 ≤ p.d2 ∧ p.d1 + p.d2 ≤ 400)
instance (p : Sp4) : Decidable (okS4 p) := by unfold okS4; infer_instance
theorem check_split_eq (p : Sp4) : m_check_split [encS p] = if okS4 p then .ok .non else .err "OutOfRange" [] := by
  unfold m_check_split
  rw [runF_eq]
  unfold b_check_split encS
  obtain ⟨u1, d1, u2, d2⟩ := p
  have e : okS4 ⟨u1, d1, u2, d2⟩ ↔ (0 ≤ u1 ∧ 0 ≤ u2 ∧ u1 + u2 ≤ 1000000000) ∧ (1 ≤ d1 ∧ 1 ≤ d2 ∧ d1 + d2 ≤ 400) := Iff.rfl
  by_cases h : okS4 ⟨u1, d1, u2, d2⟩
  · rw [if_pos h]
    rw [e] at h
    simp
    repeat' split
    all_goals first | rfl | (exfalso; omega)
  · rw [if_neg h]
    rw [e] at h
    simp
    omega
theorem call_check (p : Sp4) : callD 1 m_check_split [encS p] = if okS4 p then .ok .non else .err "OutOfRange" [] := by
  rw [callD_at (n := 1) (es := [encS p]) rfl rfl rfl, check_split_eq]
def cg (s : Int) (ps : List (Int × Int)) (u d : Int) : Int := s * d + chg u d 0 ps
def ext (s : Int) (ps : List (Int × Int)) (p : Sp4) : Int := cg s ps p.u1 p.d1 + cg s ps p.u2 p.d2 - cg s ps (p.u1 + p.u2) (p.d1 + p.d2)
theorem okS4.u1 {p : Sp4} (h : okS4 p) : okU p.u1 p.d1 := by unfold okS4 at h; unfold okU; omega
theorem okS4.u2 {p : Sp4} (h : okS4 p) : okU p.u2 p.d2 := by unfold okS4 at h; unfold okU; omega
theorem okS4.u3 {p : Sp4} (h : okS4 p) : okU (p.u1 + p.u2) (p.d1 + p.d2) := by unfold okS4 at h; unfold okU; omega
theorem extra_eq (s : Int) (ps : List (Int × Int)) (g : Good ps) (p : Sp4) (h : okS4 p) : m_extra_charge [tarD s ps, encS p] = .ok (.int (ext s ps p)) := by
  unfold m_extra_charge
  rw [runF_eq]
  unfold b_extra_charge
  have c1 := call_charge s p.u1 p.d1 ps g.prb
  have c2 := call_charge s p.u2 p.d2 ps g.prb
  have c3 := call_charge s (p.u1 + p.u2) (p.d1 + p.d2) ps g.prb
  rw [if_pos h.u1] at c1
  rw [if_pos h.u2] at c2
  rw [if_pos h.u3] at c3
  simp [encS, c1, c2, c3]
  rfl
theorem extra_call (s : Int) (ps : List (Int × Int)) (g : Good ps) (p : Sp4) (h : okS4 p) : callD 2 m_extra_charge [tarD s ps, encS p] = .ok (.int (ext s ps p)) := by
  rw [callD_at (n := 2) (es := [tarD s ps, encS p]) rfl rfl rfl, extra_eq s ps g p h]
theorem saving_eq (s : Int) (ps : List (Int × Int)) (g : Good ps) (p : Sp4) : m_is_saving [tarD s ps, encS p] = if okS4 p then .ok (.bl (decide (ext s ps p < 0))) else .err "OutOfRange" [] := by
  unfold m_is_saving
  rw [runF_eq]
  unfold b_is_saving
  have c1 := call_check p
  by_cases h : okS4 p
  · have c2 := extra_call s ps g p h
    simp [c1, h, c2]
  · simp [c1, h]
theorem costly_eq (s : Int) (ps : List (Int × Int)) (g : Good ps) (p : Sp4) : m_is_costly [tarD s ps, encS p] = if okS4 p then .ok (.bl (decide (0 < ext s ps p))) else .err "OutOfRange" [] := by
  unfold m_is_costly
  rw [runF_eq]
  unfold b_is_costly
  have c1 := call_check p
  by_cases h : okS4 p
  · have c2 := extra_call s ps g p h
    simp [c1, h, c2]
  · simp [c1, h]
theorem saving_call (s : Int) (ps : List (Int × Int)) (g : Good ps) (p : Sp4) : callD 2 m_is_saving [tarD s ps, encS p] = if okS4 p then .ok (.bl (decide (ext s ps p < 0))) else .err "OutOfRange" [] := by
  rw [callD_at (n := 2) (es := [tarD s ps, encS p]) rfl rfl rfl, saving_eq s ps g p]
theorem costly_call (s : Int) (ps : List (Int × Int)) (g : Good ps) (p : Sp4) : callD 2 m_is_costly [tarD s ps, encS p] = if okS4 p then .ok (.bl (decide (0 < ext s ps p))) else .err "OutOfRange" [] := by
  rw [callD_at (n := 2) (es := [tarD s ps, encS p]) rfl rfl rfl, costly_eq s ps g p]
theorem law_extra_eq (K : LK) (hK : K = .frz ∨ K = .bor) (s : Int) (hs : 0 ≤ s ∧ s ≤ 1000000) (ps : List (Int × Int)) (g : Good ps) (p : Sp4) (h : okS4 p) : m__law_extra [.int s, .lst K (ps.map encP), encS p] = .ok (.int (ext s ps p)) := by
  unfold m__law_extra
  rw [runF_eq]
  unfold b__law_extra
  have hl : ps.length ≤ 1000 := by have := g.len; omega
  have c1 := charge_call K hK s p.u1 p.d1 ps h.u1.2 hl (g.mull (by omega))
  have c2 := charge_call K hK s p.u2 p.d2 ps h.u2.2 hl (g.mull (by omega))
  have c3 := charge_call K hK s (p.u1 + p.u2) (p.d1 + p.d2) ps h.u3.2 hl (g.mull (by omega))
  rw [← g.chg h.u1.2.1] at c1
  rw [← g.chg h.u2.2.1] at c2
  rw [← g.chg h.u3.2.1] at c3
  simp [encS, c1, c2, c3]
  rfl
/-! what a split adds, step by step -/
def br (x y : Int) : Int := mx x + mx y - mx (x + y)
def exs (p : Sp4) : Int → List (Int × Int) → Int
  | _, [] => 0
  | l, q :: r => (q.2 - l) * br (p.u1 - q.1 * p.d1) (p.u2 - q.1 * p.d2) + exs p q.2 r
theorem chg_exs (p : Sp4) : ∀ (ps : List (Int × Int)) (l : Int), chg p.u1 p.d1 l ps + chg p.u2 p.d2 l ps - chg (p.u1 + p.u2) (p.d1 + p.d2) l ps = exs p l ps
  | [], l => rfl
  | q :: r, l => by
    have ih := chg_exs p r q.2
    show (q.2 - l) * mx (p.u1 - q.1 * p.d1) + chg p.u1 p.d1 q.2 r + ((q.2 - l) * mx (p.u2 - q.1 * p.d2) + chg p.u2 p.d2 q.2 r) - ((q.2 - l) * mx (p.u1 + p.u2 - q.1 * (p.d1 + p.d2)) + chg (p.u1 + p.u2) (p.d1 + p.d2) q.2 r) = (q.2 - l) * br (p.u1 - q.1 * p.d1) (p.u2 - q.1 * p.d2) + exs p q.2 r
    have e : p.u1 + p.u2 - q.1 * (p.d1 + p.d2) = (p.u1 - q.1 * p.d1) + (p.u2 - q.1 * p.d2) := by rw [Int.mul_add]; omega
    unfold br
    rw [← ih, e, Int.mul_sub, Int.mul_add]
    omega
theorem ext_exs (s : Int) (ps : List (Int × Int)) (p : Sp4) : ext s ps p = exs p 0 ps := by
  unfold ext cg
  rw [← chg_exs, Int.mul_add]
  omega
theorem br_nn (x y : Int) : 0 ≤ br x y := by unfold br mx; split <;> split <;> split <;> omega
theorem br_zero {x y : Int} (hx : 0 ≤ x) (hy : 0 ≤ y) : br x y = 0 := by unfold br mx; split <;> split <;> split <;> omega
theorem br_neg {x y : Int} (hx : x ≤ 0) (hy : y ≤ 0) : br x y = 0 := by unfold br mx; split <;> split <;> split <;> omega
/-- prices that never fall from l on -/
def Asc : Int → List (Int × Int) → Prop
  | _, [] => True
  | l, q :: r => l ≤ q.2 ∧ Asc q.2 r
def Dsc : Int → List (Int × Int) → Prop
  | _, [] => True
  | l, q :: r => q.2 ≤ l ∧ Dsc q.2 r
theorem exs_nn (p : Sp4) : ∀ (ps : List (Int × Int)) (l : Int), Asc l ps → 0 ≤ exs p l ps
  | [], l, _ => Int.le_refl _
  | q :: r, l, h => by
    have a := exs_nn p r q.2 h.2
    have b := Int.mul_nonneg (show 0 ≤ q.2 - l by have := h.1; omega) (br_nn (p.u1 - q.1 * p.d1) (p.u2 - q.1 * p.d2))
    show 0 ≤ (q.2 - l) * br (p.u1 - q.1 * p.d1) (p.u2 - q.1 * p.d2) + exs p q.2 r
    omega
theorem exs_np (p : Sp4) : ∀ (ps : List (Int × Int)) (l : Int), Dsc l ps → exs p l ps ≤ 0
  | [], l, _ => Int.le_refl _
  | q :: r, l, h => by
    have a := exs_np p r q.2 h.2
    have b := Int.mul_nonneg (show 0 ≤ l - q.2 by have := h.1; omega) (br_nn (p.u1 - q.1 * p.d1) (p.u2 - q.1 * p.d2))
    have c : (q.2 - l) * br (p.u1 - q.1 * p.d1) (p.u2 - q.1 * p.d2) = - ((l - q.2) * br (p.u1 - q.1 * p.d1) (p.u2 - q.1 * p.d2)) := by rw [← Int.neg_mul]; congr 1; omega
    show (q.2 - l) * br (p.u1 - q.1 * p.d1) (p.u2 - q.1 * p.d2) + exs p q.2 r ≤ 0
    omega
/-- the split at a step -/
def sAt (u : Int) : Sp4 := ⟨u - 1, 1, u + 1, 1⟩
theorem exs_high (u : Int) : ∀ (ps : List (Int × Int)) (l : Int), (∀ q ∈ ps, u < q.1) → exs (sAt u) l ps = 0
  | [], _, _ => rfl
  | q :: r, l, h => by
    have hq := h q List.mem_cons_self
    show (q.2 - l) * br (u - 1 - q.1 * 1) (u + 1 - q.1 * 1) + exs (sAt u) q.2 r = 0
    rw [br_neg (by omega) (by omega), exs_high u r q.2 fun x m => h x (List.mem_cons_of_mem _ m)]
    simp
theorem exs_at (u pr : Int) (r : List (Int × Int)) (hr : ∀ q ∈ r, u < q.1) : ∀ (A : List (Int × Int)) (l : Int), (∀ q ∈ A, q.1 < u) → exs (sAt u) l (A ++ (u, pr) :: r) = pr - (match A.getLast? with | some q => q.2 | none => l)
  | [], l, _ => by
    show (pr - l) * br (u - 1 - u * 1) (u + 1 - u * 1) + exs (sAt u) pr r = pr - l
    rw [exs_high u r pr hr, show u - 1 - u * 1 = -1 by omega, show u + 1 - u * 1 = 1 by omega, show br (-1) 1 = 1 by decide]
    omega
  | q :: A, l, h => by
    have hq := h q List.mem_cons_self
    show (q.2 - l) * br (u - 1 - q.1 * 1) (u + 1 - q.1 * 1) + exs (sAt u) q.2 (A ++ (u, pr) :: r) = _
    rw [br_zero (by omega) (by omega), exs_at u pr r hr A q.2 fun x m => h x (List.mem_cons_of_mem _ m)]
    cases A with
    | nil => simp
    | cons a A =>
      rw [List.getLast?_cons_cons]
      cases e2 : (a :: A).getLast? with
      | none => simp at e2
      | some x => simp
/-! the first fall -/
def ffP : Nat → Int → List Int → Nat
  | _, _, [] => 0
  | k, l, p :: r => if p < l then k else ffP (k + 1) p r
def ffB : Rho → Out := (sIf (bE (eB2 ltD (eB2 ixD (eVar 0) (eVar 1)) (eB2 ixD (eVar 0) (eB2 subD (eVar 1) (eC (.int 1)))))) (sRetV 1) sNil)
theorem ff_loop (K : LK) (xs : List Int) : ∀ (R A : List Int) (l : Int) (j : Option D), xs = A ++ l :: R → ∃ j', forD (gN 1) ffB (rngL ((A.length : Int) + 1) R.length) [some (.lst K (xs.map D.int)), j] =
    if ffP (A.length + 1) l R = 0 then .next [some (.lst K (xs.map D.int)), j'] else .ret (.int (ffP (A.length + 1) l R : Nat))
  | [], A, l, j, e => ⟨j, rfl⟩
  | p :: R, A, l, j, e => by
    have i1 : ixA (xs.map D.int) ((A.length : Int) + 1) Res.ok = .ok (.int p) := by
      rw [show (A.length : Int) + 1 = ((A.length + 1 : Nat) : Int) by omega, ixA_map, ixA_nat (a := p)]
      rw [e, List.getElem?_append_right (by omega)]
      simp
    have i2 : ixA (xs.map D.int) (A.length : Int) Res.ok = .ok (.int l) := by
      rw [ixA_map, ixA_nat (a := l)]
      rw [e, List.getElem?_append_right (by omega)]
      simp
    rw [show (p :: R).length = R.length + 1 from rfl, rngL_succ]
    have hg : gN 1 (.int ((A.length : Int) + 1)) [some (.lst K (xs.map D.int)), j] = some [some (.lst K (xs.map D.int)), some (.int ((A.length : Int) + 1))] := rfl
    have i3 : (A.length : Int) + 1 - 1 = (A.length : Int) := by omega
    by_cases c : p < l
    · refine ⟨j, ?_⟩
      rw [for_cons hg]
      have z : ffP (A.length + 1) l (p :: R) = A.length + 1 := by unfold ffP; rw [if_pos c]
      rw [z, if_neg (by omega)]
      unfold ffB
      simp [i1, i2, i3, c]
    · obtain ⟨j', ih⟩ := ff_loop K xs R (A ++ [l]) p (some (.int ((A.length : Int) + 1))) (by rw [e]; simp)
      refine ⟨j', ?_⟩
      rw [for_cons hg]
      have z : ffP (A.length + 1) l (p :: R) = ffP (A.length + 1 + 1) p R := by rw [ffP, if_neg c]
      have e0 : ffB [some (.lst K (xs.map D.int)), some (.int ((A.length : Int) + 1))] = .next [some (.lst K (xs.map D.int)), some (.int ((A.length : Int) + 1))] := by
        unfold ffB
        simp [i1, i2, i3, c]
      rw [e0, z]
      have el : (A ++ [l]).length = A.length + 1 := by simp
      rw [el] at ih
      have ei : ((A.length + 1 : Nat) : Int) + 1 = (A.length : Int) + 1 + 1 := by omega
      rw [ei] at ih
      exact ih
def ffAll : List Int → Nat
  | [] => 0
  | p :: r => ffP 1 p r
theorem first_fall_eq (K : LK) (xs : List Int) (hx : xs ≠ []) (hl : xs.length ≤ 1000) : m__law_first_fall [.lst K (xs.map D.int)] = .ok (.int (ffAll xs : Nat)) := by
  unfold m__law_first_fall
  rw [runF_eq]
  unfold b__law_first_fall
  cases xs with
  | nil => exact absurd rfl hx
  | cons p r =>
    obtain ⟨j', e⟩ := ff_loop K (p :: r) r [] p none rfl
    have hr : rng2D [.int 1, .int ((r.length : Int) + 1)] = .ok (rngL 1 r.length) := by
      rw [rng2_ok (by omega) (by omega) (by simp at hl; omega) (by omega)]
      congr 2
      omega
    have ez : (([] : List Int).length : Int) + 1 = 1 := rfl
    rw [ez] at e
    unfold ffB at e
    simp only [List.map_cons] at e
    simp [hr]
    rw [e]
    show outF (oSeq (if ffP 1 p r = 0 then _ else _) _) = .ok (.int (ffP 1 p r : Nat))
    by_cases c : ffP 1 p r = 0
    · rw [if_pos c, c]; simp
    · rw [if_neg c]; simp
theorem ffP_ge : ∀ (R : List Int) (k : Nat) (l : Int), ffP k l R = 0 ∨ k ≤ ffP k l R
  | [], _, _ => .inl rfl
  | p :: r, k, l => by
    unfold ffP
    split
    · exact .inr (Nat.le_refl _)
    · rcases ffP_ge r (k + 1) p with h | h
      · exact .inl h
      · exact .inr (by omega)
def AscI : Int → List Int → Prop
  | _, [] => True
  | l, q :: r => l ≤ q ∧ AscI q r
theorem ffP_zero : ∀ (R : List Int) (k : Nat) (l : Int), 0 < k → ffP k l R = 0 → AscI l R
  | [], _, _, _, _ => trivial
  | p :: r, k, l, hk, h => by
    unfold ffP at h
    split at h
    · omega
    · rename_i c
      exact ⟨by omega, ffP_zero r (k + 1) p (by omega) h⟩
theorem ffP_pos : ∀ (R : List Int) (k : Nat) (l : Int), ffP k l R ≠ 0 → ∃ R1 p R2, R = R1 ++ p :: R2 ∧ ffP k l R = k + R1.length ∧ p < (l :: R1).getLast (by simp)
  | [], _, _, h => absurd rfl h
  | p :: r, k, l, h => by
    by_cases c : p < l
    · exact ⟨[], p, r, rfl, by unfold ffP; rw [if_pos c]; rfl, c⟩
    · have z : ffP k l (p :: r) = ffP (k + 1) p r := by rw [ffP, if_neg c]
      rw [z] at h ⊢
      obtain ⟨R1, q, R2, e1, e2, e3⟩ := ffP_pos r (k + 1) p h
      exact ⟨p :: R1, q, R2, by rw [e1]; rfl, by rw [e2, List.length_cons]; omega, by rw [List.getLast_cons (by simp)]; exact e3⟩
/-! the split that is told -/
theorem four_le : (4 : Nat) ≤ LINE := by decide
theorem split_call (u : Int) : callD 1 m_split_at [.int u] = .ok (encS (sAt u)) := by
  rw [callD_at (n := 1) (es := [.int u]) rfl rfl rfl]
  unfold m_split_at
  rw [runF_eq]
  unfold b_split_at
  simp [four_le]
  rfl
def toldD (w : Str) (k : Nat) (ps : List (Int × Int)) : D := if k = 0 then .tup [.str "never", .non] else .tup [.str w, encS (sAt (ps.getD k (0, 0)).1)]
def split_saves_B : Rho → Out := (sIf (bE (eB2 ltD (eB2 ixD (eB2 ixD (eU1 (fldD "steps") (eVar 0)) (eVar 1)) (eC (.int 1))) (eB2 ixD (eB2 ixD (eU1 (fldD "steps") (eVar 0)) (eB2 subD (eVar 1) (eC (.int 1)))) (eC (.int 1))))) (sRet (eTup (aCons (eC (.str "saves")) (aCons (eCall 1 m_split_at (aCons (eB2 ixD (eB2 ixD (eU1 (fldD "steps") (eVar 0)) (eVar 1)) (eC (.int 0))) aNil)) aNil)))) sNil)
def split_costs_B : Rho → Out := (sIf (bE (eB2 gtD (eB2 ixD (eB2 ixD (eU1 (fldD "steps") (eVar 0)) (eVar 1)) (eC (.int 1))) (eB2 ixD (eB2 ixD (eU1 (fldD "steps") (eVar 0)) (eB2 subD (eVar 1) (eC (.int 1)))) (eC (.int 1))))) (sRet (eTup (aCons (eC (.str "costs")) (aCons (eCall 1 m_split_at (aCons (eB2 ixD (eB2 ixD (eU1 (fldD "steps") (eVar 0)) (eVar 1)) (eC (.int 0))) aNil)) aNil)))) sNil)
theorem split_saves_loop (s : Int) (ps : List (Int × Int)) : ∀ (R A : List (Int × Int)) (l : Int × Int) (j : Option D), ps = A ++ l :: R → ∃ j', forD (gN 1) split_saves_B (rngL ((A.length : Int) + 1) R.length) [some (tarD s ps), j] =
    if ffP (A.length + 1) (l.2) (R.map fun q => q.2) = 0 then .next [some (tarD s ps), j'] else .ret (.tup [.str "saves", encS (sAt (ps.getD (ffP (A.length + 1) (l.2) (R.map fun q => q.2)) (0, 0)).1)])
  | [], A, l, j, e => ⟨j, rfl⟩
  | p :: R, A, l, j, e => by
    have g1 : ps[A.length + 1]? = some p := by
      rw [e, List.getElem?_append_right (by omega)]
      simp
    have i1 : ixA (ps.map encP) ((A.length : Int) + 1) Res.ok = .ok (encP p) := by
      rw [show (A.length : Int) + 1 = ((A.length + 1 : Nat) : Int) by omega, ixA_map, ixA_nat g1]
    have i2 : ixA (ps.map encP) (A.length : Int) Res.ok = .ok (encP l) := by
      rw [ixA_map, ixA_nat (a := l)]
      rw [e, List.getElem?_append_right (by omega)]
      simp
    rw [show (p :: R).length = R.length + 1 from rfl, rngL_succ]
    have hg : gN 1 (.int ((A.length : Int) + 1)) [some (tarD s ps), j] = some [some (tarD s ps), some (.int ((A.length : Int) + 1))] := rfl
    have i3 : (A.length : Int) + 1 - 1 = (A.length : Int) := by omega
    have cs : callD 1 m_split_at [.int p.1] = .ok (encS (sAt p.1)) := split_call p.1
    by_cases c : p.2 < l.2
    · refine ⟨j, ?_⟩
      rw [for_cons hg]
      have z : ffP (A.length + 1) (l.2) ((p :: R).map fun q => q.2) = A.length + 1 := by rw [List.map_cons, ffP, if_pos c]
      rw [z, if_neg (by omega)]
      have gd : ps.getD (A.length + 1) (0, 0) = p := by rw [List.getD_eq_getElem?_getD, g1]; rfl
      rw [gd]
      unfold split_saves_B
      have c' : p.2 < l.2 := by omega
      have rS : D.ret (encS (sAt p.1)) = true := rfl
      have dS : D.dup (encS (sAt p.1)) = true := rfl
      simp [i1, i2, i3]
      simp [encP, c', cs, rS, two_le]
    · obtain ⟨j', ih⟩ := split_saves_loop s ps R (A ++ [l]) p (some (.int ((A.length : Int) + 1))) (by rw [e]; simp)
      refine ⟨j', ?_⟩
      rw [for_cons hg]
      have z : ffP (A.length + 1) (l.2) ((p :: R).map fun q => q.2) = ffP (A.length + 1 + 1) (p.2) (R.map fun q => q.2) := by rw [List.map_cons, ffP, if_neg c]
      have e0 : split_saves_B [some (tarD s ps), some (.int ((A.length : Int) + 1))] = .next [some (tarD s ps), some (.int ((A.length : Int) + 1))] := by
        unfold split_saves_B
        have c' : ¬ p.2 < l.2 := by omega
        simp [i1, i2, i3]
        simp [encP, c']
      rw [e0, z]
      have el : (A ++ [l]).length = A.length + 1 := by simp
      rw [el] at ih
      have ei : ((A.length + 1 : Nat) : Int) + 1 = (A.length : Int) + 1 + 1 := by omega
      rw [ei] at ih
      exact ih
theorem split_saves_eq (s : Int) (ps : List (Int × Int)) (hx : 1 ≤ ps.length ∧ ps.length ≤ 1000) : m_split_saves [tarD s ps] = .ok (toldD "saves" (ffAll (ps.map fun q => q.2)) ps) := by
  unfold m_split_saves
  rw [runF_eq]
  unfold b_split_saves
  cases ps with
  | nil => simp at hx
  | cons p r =>
    obtain ⟨j', e⟩ := split_saves_loop s (p :: r) r [] p none rfl
    have hr : rng2D [.int 1, .int ((r.length : Int) + 1)] = .ok (rngL 1 r.length) := by
      rw [rng2_ok (by omega) (by omega) (by have := hx.2; simp at this; omega) (by omega)]
      congr 2
      omega
    have ez : (([] : List (Int × Int)).length : Int) + 1 = 1 := rfl
    rw [ez] at e
    unfold split_saves_B at e
    have ln : ((p :: r).length : Int) = (r.length : Int) + 1 := by simp
    simp [hr]
    rw [e]
    show outF (oSeq (if ffP 1 (p.2) (r.map fun q => q.2) = 0 then _ else _) _) = .ok (toldD "saves" (ffP 1 (p.2) (r.map fun q => q.2)) (p :: r))
    unfold toldD
    by_cases c : ffP 1 (p.2) (r.map fun q => q.2) = 0
    · rw [if_pos c, if_pos c]; simp [two_le]
    · rw [if_neg c, if_neg c]; simp; rfl
theorem split_saves_call (s : Int) (ps : List (Int × Int)) (hx : 1 ≤ ps.length ∧ ps.length ≤ 1000) : callD 1 m_split_saves [tarD s ps] = .ok (toldD "saves" (ffAll (ps.map fun q => q.2)) ps) := by
  rw [callD_at (n := 1) (es := [tarD s ps]) rfl rfl rfl, split_saves_eq s ps hx]
theorem split_costs_loop (s : Int) (ps : List (Int × Int)) : ∀ (R A : List (Int × Int)) (l : Int × Int) (j : Option D), ps = A ++ l :: R → ∃ j', forD (gN 1) split_costs_B (rngL ((A.length : Int) + 1) R.length) [some (tarD s ps), j] =
    if ffP (A.length + 1) (-l.2) (R.map fun q => -q.2) = 0 then .next [some (tarD s ps), j'] else .ret (.tup [.str "costs", encS (sAt (ps.getD (ffP (A.length + 1) (-l.2) (R.map fun q => -q.2)) (0, 0)).1)])
  | [], A, l, j, e => ⟨j, rfl⟩
  | p :: R, A, l, j, e => by
    have g1 : ps[A.length + 1]? = some p := by
      rw [e, List.getElem?_append_right (by omega)]
      simp
    have i1 : ixA (ps.map encP) ((A.length : Int) + 1) Res.ok = .ok (encP p) := by
      rw [show (A.length : Int) + 1 = ((A.length + 1 : Nat) : Int) by omega, ixA_map, ixA_nat g1]
    have i2 : ixA (ps.map encP) (A.length : Int) Res.ok = .ok (encP l) := by
      rw [ixA_map, ixA_nat (a := l)]
      rw [e, List.getElem?_append_right (by omega)]
      simp
    rw [show (p :: R).length = R.length + 1 from rfl, rngL_succ]
    have hg : gN 1 (.int ((A.length : Int) + 1)) [some (tarD s ps), j] = some [some (tarD s ps), some (.int ((A.length : Int) + 1))] := rfl
    have i3 : (A.length : Int) + 1 - 1 = (A.length : Int) := by omega
    have cs : callD 1 m_split_at [.int p.1] = .ok (encS (sAt p.1)) := split_call p.1
    by_cases c : -p.2 < -l.2
    · refine ⟨j, ?_⟩
      rw [for_cons hg]
      have z : ffP (A.length + 1) (-l.2) ((p :: R).map fun q => -q.2) = A.length + 1 := by rw [List.map_cons, ffP, if_pos c]
      rw [z, if_neg (by omega)]
      have gd : ps.getD (A.length + 1) (0, 0) = p := by rw [List.getD_eq_getElem?_getD, g1]; rfl
      rw [gd]
      unfold split_costs_B
      have c' : l.2 < p.2 := by omega
      have rS : D.ret (encS (sAt p.1)) = true := rfl
      have dS : D.dup (encS (sAt p.1)) = true := rfl
      simp [i1, i2, i3]
      simp [encP, c', cs, rS, two_le]
    · obtain ⟨j', ih⟩ := split_costs_loop s ps R (A ++ [l]) p (some (.int ((A.length : Int) + 1))) (by rw [e]; simp)
      refine ⟨j', ?_⟩
      rw [for_cons hg]
      have z : ffP (A.length + 1) (-l.2) ((p :: R).map fun q => -q.2) = ffP (A.length + 1 + 1) (-p.2) (R.map fun q => -q.2) := by rw [List.map_cons, ffP, if_neg c]
      have e0 : split_costs_B [some (tarD s ps), some (.int ((A.length : Int) + 1))] = .next [some (tarD s ps), some (.int ((A.length : Int) + 1))] := by
        unfold split_costs_B
        have c' : ¬ l.2 < p.2 := by omega
        simp [i1, i2, i3]
        simp [encP, c']
      rw [e0, z]
      have el : (A ++ [l]).length = A.length + 1 := by simp
      rw [el] at ih
      have ei : ((A.length + 1 : Nat) : Int) + 1 = (A.length : Int) + 1 + 1 := by omega
      rw [ei] at ih
      exact ih
theorem split_costs_eq (s : Int) (ps : List (Int × Int)) (hx : 1 ≤ ps.length ∧ ps.length ≤ 1000) : m_split_costs [tarD s ps] = .ok (toldD "costs" (ffAll (ps.map fun q => -q.2)) ps) := by
  unfold m_split_costs
  rw [runF_eq]
  unfold b_split_costs
  cases ps with
  | nil => simp at hx
  | cons p r =>
    obtain ⟨j', e⟩ := split_costs_loop s (p :: r) r [] p none rfl
    have hr : rng2D [.int 1, .int ((r.length : Int) + 1)] = .ok (rngL 1 r.length) := by
      rw [rng2_ok (by omega) (by omega) (by have := hx.2; simp at this; omega) (by omega)]
      congr 2
      omega
    have ez : (([] : List (Int × Int)).length : Int) + 1 = 1 := rfl
    rw [ez] at e
    unfold split_costs_B at e
    have ln : ((p :: r).length : Int) = (r.length : Int) + 1 := by simp
    simp [hr]
    rw [e]
    show outF (oSeq (if ffP 1 (-p.2) (r.map fun q => -q.2) = 0 then _ else _) _) = .ok (toldD "costs" (ffP 1 (-p.2) (r.map fun q => -q.2)) (p :: r))
    unfold toldD
    by_cases c : ffP 1 (-p.2) (r.map fun q => -q.2) = 0
    · rw [if_pos c, if_pos c]; simp [two_le]
    · rw [if_neg c, if_neg c]; simp; rfl
theorem split_costs_call (s : Int) (ps : List (Int × Int)) (hx : 1 ≤ ps.length ∧ ps.length ≤ 1000) : callD 1 m_split_costs [tarD s ps] = .ok (toldD "costs" (ffAll (ps.map fun q => -q.2)) ps) := by
  rw [callD_at (n := 1) (es := [tarD s ps]) rfl rfl rfl, split_costs_eq s ps hx]
/-! what is told is looked at -/
theorem eq_same {d : D} (hs : sV d = none) (h : plain 12 d = true) : eqD d d = .ok (.bl true) := eqD_same hs h h rfl
theorem plain_never : plain 12 (.tup [.str "never", .non]) = true := by decide +kernel
theorem whole_call (i : Int) : callD 1 m__law_is_whole [.int i] = .ok (.bl true) := by rw [callD_at (n := 1) (es := [.int i]) rfl rfl rfl, is_whole_eq]
theorem told_eq (K : LK) (w : Str) (k : Nat) (ps : List (Int × Int)) (hk : k = 0 ∨ k < ps.length) : m__law_told [toldD w k ps, .str w, .lst K (ps.map encP), .int (k : Int)] = .ok (.bl true) := by
  unfold m__law_told
  rw [runF_eq]
  unfold b__law_told
  by_cases h : k = 0
  · subst h
    have e := eq_same (d := .tup [.str "never", .non]) rfl plain_never
    unfold toldD
    simp [e, two_le]
  · have hl : k < ps.length := by omega
    obtain ⟨q, hq⟩ : ∃ q, ps[k]? = some q := ⟨ps[k], List.getElem?_eq_getElem hl⟩
    have gd : ps.getD k (0, 0) = q := by rw [List.getD_eq_getElem?_getD, hq]; rfl
    have ix : ixA (ps.map encP) (k : Int) Res.ok = .ok (encP q) := by rw [ixA_map, ixA_nat hq]
    have hd : toldD w k ps = .tup [.str w, encS (sAt q.1)] := by unfold toldD; rw [if_neg h, gd]
    rw [hd]
    have h' : ¬ (k : Int) = 0 := by omega
    have z := comp_map (q := D.int) (g := gN 4) (p := fun _ : Int => false) (r := D.int) (t := bNot (bT (eCall 1 m__law_is_whole (aCons (eVar 4) aNil)))) (f := eDup (eVar 4)) (ρ := wipeR [some (.tup [.str w, encS (sAt q.1)]), some (.str w), some (.lst K (ps.map encP)), some (.int (k : Int)), none] [4]) (as := [q.1 - 1, 1, q.1 + 1, 1])
      (fun a _ => ⟨_, rfl, by simp [wipeR, whole_call], fun z => nomatch z⟩)
    have hcomp := eComp_eq (vs := [4]) (src := iOf (eB2 ixD (eVar 0) (eC (.int 1)))) (ρ := [some (.tup [.str w, encS (sAt q.1)]), some (.str w), some (.lst K (ps.map encP)), some (.int (k : Int)), none]) (ds := [q.1 - 1, 1, q.1 + 1, 1].map D.int) (ys := []) (by simp [encS, sAt]) (by rw [z]; rfl) (by decide) rfl
    have e := eq_same (d := encS (sAt q.1)) rfl rfl
    have e' : eqD (encS (sAt q.1)) (.tup [.int (q.1 - 1), .int 1, .int (q.1 + 1), .int 1]) = .ok (.bl true) := e
    have i1 : isiD "tuple" (encS (sAt q.1)) = .ok (.bl true) := rfl
    have l1 : lenD [encS (sAt q.1)] = .ok (.int 4) := rfl
    simp [h, hcomp, i1, l1, ix, four_le]
    simp [encP, e', four_le]
theorem told_call (K K' : LK) (hK : (K = .frz ∧ K' = .frz) ∨ (K = .own ∧ K' = .bor)) (w : Str) (k : Nat) (ps : List (Int × Int)) (hk : k = 0 ∨ k < ps.length) : callD 4 m__law_told [toldD w k ps, .str w, .lst K (ps.map encP), .int (k : Int)] = .ok (.bl true) := by
  have dd : D.dup (toldD w k ps) = true := by unfold toldD; split <;> rfl
  rw [callD_at (n := 4) (es := [toldD w k ps, .str w, .lst K' (ps.map encP), .int (k : Int)]) rfl (by rcases hK with ⟨rfl, rfl⟩ | ⟨rfl, rfl⟩ <;> simp [len_dup dd]) (by rcases hK with ⟨rfl, rfl⟩ | ⟨rfl, rfl⟩ <;> simp [lend_dup dd]), told_eq K' w k ps hk]
/-! judged -/
theorem eq_bb (a b : Bool) : eqD (.bl a) (.bl b) = .ok (.bl (decide (a = b))) := by cases a <;> cases b <;> rfl
theorem law_extra_call (K : LK) (hK : K = .frz ∨ K = .bor) (s : Int) (hs : 0 ≤ s ∧ s ≤ 1000000) (ps : List (Int × Int)) (g : Good ps) (p : Sp4) (h : okS4 p) : callD 3 m__law_extra [.int s, .lst K (ps.map encP), encS p] = .ok (.int (ext s ps p)) := by
  rw [callD_at (n := 3) (es := [.int s, .lst K (ps.map encP), encS p]) rfl (by rcases hK with rfl | rfl <;> rfl) (by rcases hK with rfl | rfl <;> rfl), law_extra_eq K hK s hs ps g p h]
theorem judged_eq (K : LK) (hK : K = .frz ∨ K = .bor) (s : Int) (hs : 0 ≤ s ∧ s ≤ 1000000) (ps : List (Int × Int)) (g : Good ps) (p : Sp4) (h : okS4 p) (f r : Int) (hf : f = 0 → 0 ≤ ext s ps p) (hr : r = 0 → ext s ps p ≤ 0) :
    m__law_judged [tarD s ps, .int s, .lst K (ps.map encP), encS p, .int f, .int r] = .ok (.bl true) := by
  unfold m__law_judged
  rw [runF_eq]
  unfold b__law_judged
  have c1 := law_extra_call K hK s hs ps g p h
  have c2 := saving_call s ps g p
  have c3 := costly_call s ps g p
  rw [if_pos h] at c2 c3
  generalize ext s ps p = x at *
  by_cases a : x < 0 <;> by_cases b : 0 < x <;> by_cases f0 : f = 0 <;> by_cases r0 : r = 0 <;> simp [c1, c2, c3, a, b, f0, r0, eq_bb] <;> first | omega | (have := hf f0; omega) | (have := hr r0; omega)
theorem judged_call (K : LK) (hK : K = .frz ∨ K = .bor) (s : Int) (hs : 0 ≤ s ∧ s ≤ 1000000) (ps : List (Int × Int)) (g : Good ps) (p : Sp4) (h : okS4 p) (f r : Int) (hf : f = 0 → 0 ≤ ext s ps p) (hr : r = 0 → ext s ps p ≤ 0) :
    callD 6 m__law_judged [tarD s ps, .int s, .lst K (ps.map encP), encS p, .int f, .int r] = .ok (.bl true) := by
  rw [callD_at (n := 6) (es := [tarD s ps, .int s, .lst K (ps.map encP), encS p, .int f, .int r]) rfl (by rcases hK with rfl | rfl <;> rfl) (by rcases hK with rfl | rfl <;> rfl), judged_eq K hK s hs ps g p h f r hf hr]
/-! the splits of a script -/
theorem law_use_eq (row : List Int) (at_ d : Int) (K : LK) (hK : K = .frz ∨ K = .bor) (ps : List (Int × Int)) (g : Good ps) (hd : 1 ≤ d ∧ d ≤ 200) (ha : 0 ≤ at_ ∧ at_ + 4 ≤ (row.length : Int)) : ∃ u, m__law_use [.lst .bor (row.map D.int), .int at_, .lst K (ps.map encP), .int d] = .ok (.int u) ∧ 0 ≤ u ∧ u ≤ 500000000 := by
  unfold m__law_use
  rw [runF_eq]
  unfold b__law_use
  have gl := g.len
  obtain ⟨x0, p0, q0, a0⟩ := at_callI .bor (.inr rfl) row at_ (ps.length : Int) (by omega) (by omega) (by omega)
  obtain ⟨x1, p1, q1, a1⟩ := at_callI .bor (.inr rfl) row (at_ + 1) 5 (by omega) (by omega) (by omega)
  obtain ⟨x2, p2, q2, a2⟩ := at_callI .bor (.inr rfl) row (at_ + 2) 41 (by omega) (by omega) (by omega)
  obtain ⟨x3, p3, q3, a3⟩ := at_callI .bor (.inr rfl) row (at_ + 2) 499999 (by omega) (by omega) (by omega)
  obtain ⟨x4, p4, q4, a4⟩ := at_callI .bor (.inr rfl) row (at_ + 3) 1000 (by omega) (by omega) (by omega)
  obtain ⟨n, rfl⟩ : ∃ n : Nat, x0 = (n : Int) := ⟨x0.toNat, by omega⟩
  obtain ⟨q, hq⟩ : ∃ q, ps[n]? = some q := ⟨ps[n]'(by omega), List.getElem?_eq_getElem (by omega)⟩
  have ix : ixA (ps.map encP) (n : Int) Res.ok = .ok (encP q) := by rw [ixA_map, ixA_nat hq]
  have qb := g.b q (List.mem_of_getElem? hq)
  have m1 : mulD (.int q.1) (.int d) = .ok (.int (q.1 * d)) := mulD_r ⟨by omega, by omega⟩
  have b0 : 0 ≤ q.1 * d := Int.mul_nonneg qb.1 (by omega)
  have b1 : q.1 * d ≤ 1000000 * 200 := Int.mul_le_mul qb.2.1 hd.2 (by omega) (by omega)
  have m2 : mulD (.int x3) (.int 1000) = .ok (.int (x3 * 1000)) := mulD_r ⟨by omega, by omega⟩
  have dq : D.dup (encP q) = true := rfl
  have dk : dupK (encP q) = .ok (encP q) := dupK_of dq
  by_cases c1 : x1 < 3
  · refine ⟨if 0 < q.1 * d + x1 - 1 then q.1 * d + x1 - 1 else 0, ?_, by split <;> omega, by split <;> omega⟩
    simp [a0, a1, ix, dk, c1]
    simp [encP, m1, -mulD_ii]
  · by_cases c2 : x1 = 3
    · refine ⟨x2, ?_, by omega, by omega⟩
      subst c2
      simp [a0, a1, ix, dk, a2]
    · refine ⟨x3 * 1000 + x4, ?_, by omega, by omega⟩
      simp [a0, a1, ix, dk, c1, c2, a3, a4, m2, -mulD_ii]
theorem use_call (row : List Int) (at_ d : Int) (K : LK) (hK : K = .frz ∨ K = .bor) (ps : List (Int × Int)) (g : Good ps) (hd : 1 ≤ d ∧ d ≤ 200) (ha : 0 ≤ at_ ∧ at_ + 4 ≤ (row.length : Int)) : ∃ u, callD 4 m__law_use [.lst .bor (row.map D.int), .int at_, .lst K (ps.map encP), .int d] = .ok (.int u) ∧ 0 ≤ u ∧ u ≤ 500000000 := by
  obtain ⟨u, h, b⟩ := law_use_eq row at_ d K hK ps g hd ha
  exact ⟨u, by rw [callD_at (n := 4) (es := [.lst .bor (row.map D.int), .int at_, .lst K (ps.map encP), .int d]) rfl (by rcases hK with rfl | rfl <;> rfl) (by rcases hK with rfl | rfl <;> rfl), h], b⟩
@[simp] theorem dupS (L : List Sp4) : D.dupAll (L.map encS) = true := dupAll_map (fun _ => rfl) L
@[simp] theorem retS (L : List Sp4) : D.retAll (L.map encS) = true := retAll_map (fun _ => rfl) L
def ISp (a b : D) (m : Nat) (ρ : Rho) : Prop := ∃ (L : List Sp4) (j3 j4 j5 j6 : Option D), ρ = [some a, some b, some (.lst .own (L.map encS)), j3, j4, j5, j6] ∧ (∀ p ∈ L, okS4 p) ∧ L.length ≤ m
def spB1 : Rho → Out := (sSeq (sSet 4 (eLst (aCons (eB2 addD (eC (.int 1)) (eCall 3 m__law_at (aCons (eVar 0) (aCons (eB2 mulD (eC (.int 10)) (eVar 3)) (aCons (eB2 ixD (eTmp (aCons (eC (.int 3)) (aCons (eC (.int 200)) aNil))) (eCall 3 m__law_at (aCons (eVar 0) (aCons (eB2 addD (eB2 mulD (eC (.int 10)) (eVar 3)) (eC (.int 1))) (aCons (eC (.int 2)) aNil))))) aNil))))) (aCons (eB2 addD (eC (.int 1)) (eCall 3 m__law_at (aCons (eVar 0) (aCons (eB2 addD (eB2 mulD (eC (.int 10)) (eVar 3)) (eC (.int 2))) (aCons (eC (.int 3)) aNil))))) aNil))))
    (sSeq (sSet 5 (eLst (aCons (eCall 4 m__law_use (aCons (eVar 0) (aCons (eB2 addD (eB2 mulD (eC (.int 10)) (eVar 3)) (eC (.int 3))) (aCons (eVar 1) (aCons (eB2 ixD (eVar 4) (eC (.int 0))) aNil))))) (aCons (eCall 4 m__law_use (aCons (eVar 0) (aCons (eB2 addD (eB2 mulD (eC (.int 10)) (eVar 3)) (eC (.int 6))) (aCons (eVar 1) (aCons (eB2 ixD (eVar 4) (eC (.int 1))) aNil))))) aNil))))
    (sApp 2 (eTup (aCons (eDup (eB2 ixD (eVar 5) (eC (.int 0)))) (aCons (eDup (eB2 ixD (eVar 4) (eC (.int 0)))) (aCons (eDup (eB2 ixD (eVar 5) (eC (.int 1)))) (aCons (eDup (eB2 ixD (eVar 4) (eC (.int 1)))) aNil))))))))
theorem sp_step1 {row : List Int} (hl : (row.length : Int) = 100) {K : LK} (hK : K = .frz ∨ K = .bor) {ps : List (Int × Int)} (g : Good ps) {k : Nat} {ρ : Rho} (hk : k < 10) (h : ISp (.lst .bor (row.map D.int)) (.lst K (ps.map encP)) k ρ) :
    ∃ ρ1, gN 3 (.int (k : Int)) ρ = some ρ1 ∧ okS (spB1 ρ1) (ISp (.lst .bor (row.map D.int)) (.lst K (ps.map encP)) (k + 1)) := by
  obtain ⟨L, j3, j4, j5, j6, rfl, h1, h2⟩ := h
  refine ⟨_, rfl, ?_⟩
  have m1 : mulD (.int 10) (.int (k : Int)) = .ok (.int (10 * (k : Int))) := mulD_l ⟨by omega, by omega⟩
  obtain ⟨x1, p1, q1, a1⟩ := at_callI .bor (.inr rfl) row (10 * (k : Int) + 1) 2 (by omega) (by omega) (by omega)
  obtain ⟨w, hw, bw, bw2⟩ : ∃ w, ixA [D.int 3, D.int 200] x1 Res.ok = .ok (.int w) ∧ 1 ≤ w ∧ w ≤ 200 := by
    rcases (show x1 = 0 ∨ x1 = 1 by omega) with rfl | rfl
    · exact ⟨3, by simp, by omega, by omega⟩
    · exact ⟨200, by simp, by omega, by omega⟩
  obtain ⟨x0, p0, q0, a0⟩ := at_callI .bor (.inr rfl) row (10 * (k : Int)) w (by omega) (by omega) (by omega)
  obtain ⟨x2, p2, q2, a2⟩ := at_callI .bor (.inr rfl) row (10 * (k : Int) + 2) 3 (by omega) (by omega) (by omega)
  obtain ⟨u1, c1, e1⟩ := use_call row (10 * (k : Int) + 3) (1 + x0) K hK ps g (by omega) (by omega)
  obtain ⟨u2, c2, e2⟩ := use_call row (10 * (k : Int) + 6) (1 + x2) K hK ps g (by omega) (by omega)
  have hL : (L.map encS).length < LINE := by rw [List.length_map]; exact ltL (by omega)
  unfold spB1
  simp [m1, -mulD_ii, a0, a1, a2, hw, two_le, c1, c2, four_le, appP_of hL]
  refine ⟨L ++ [⟨u1, 1 + x0, u2, 1 + x2⟩], _, _, _, _, by rw [List.map_append]; rfl, fun p hp => ?_, by simp; omega⟩
  rcases List.mem_append.mp hp with hp | hp
  · exact h1 p hp
  · rw [List.mem_singleton.mp hp]
    show (0 ≤ u1 ∧ 0 ≤ u2 ∧ u1 + u2 ≤ 1000000000) ∧ (1 ≤ 1 + x0 ∧ 1 ≤ 1 + x2 ∧ 1 + x0 + (1 + x2) ≤ 400)
    omega
def spB2 : Rho → Out := (sIf (bE (eB2 gtD (eB2 ixD (eVar 6) (eC (.int 0))) (eC (.int 0)))) (sSet 2 (eB2 addD (eVar 2) (eLst (aCons (eTup (aCons (eB2 subD (eB2 ixD (eVar 6) (eC (.int 0))) (eC (.int 1))) (aCons (eC (.int 1)) (aCons (eB2 addD (eB2 ixD (eVar 6) (eC (.int 0))) (eC (.int 1))) (aCons (eC (.int 1)) aNil))))) (aCons (eTup (aCons (eDup (eB2 ixD (eVar 6) (eC (.int 0)))) (aCons (eC (.int 1)) (aCons (eDup (eB2 ixD (eVar 6) (eC (.int 0)))) (aCons (eC (.int 1)) aNil))))) (aCons (eTup (aCons (eC (.int 0)) (aCons (eC (.int 1)) (aCons (eB2 mulD (eC (.int 2)) (eB2 ixD (eVar 6) (eC (.int 0)))) (aCons (eC (.int 1)) aNil))))) aNil)))))) sNil)
theorem three_le : (3 : Nat) ≤ LINE := by decide
theorem sp_step2 {a b : D} {p : Int × Int} (hp : 0 ≤ p.1 ∧ p.1 ≤ 1000000) {m : Nat} (hm : m ≤ 1000) {ρ : Rho} (h : ISp a b m ρ) : ∃ ρ1, gN 6 (encP p) ρ = some ρ1 ∧ okS (spB2 ρ1) (ISp a b (m + 3)) := by
  obtain ⟨L, j3, j4, j5, j6, rfl, h1, h2⟩ := h
  refine ⟨_, rfl, ?_⟩
  have m1 : mulD (.int 2) (.int p.1) = .ok (.int (2 * p.1)) := mulD_l ⟨by omega, by omega⟩
  have z : L.length + 3 ≤ LINE := leL (by omega)
  unfold spB2
  by_cases c : 0 < p.1
  · simp [encP, c, m1, -mulD_ii, three_le, four_le, z]
    refine ⟨L ++ [⟨p.1 - 1, 1, p.1 + 1, 1⟩, ⟨p.1, 1, p.1, 1⟩, ⟨0, 1, 2 * p.1, 1⟩], _, _, _, _, by rw [List.map_append]; rfl, fun q hq => ?_, by simp; omega⟩
    rcases List.mem_append.mp hq with hq | hq
    · exact h1 q hq
    · simp only [List.mem_cons, List.not_mem_nil, or_false] at hq
      rcases hq with rfl | rfl | rfl <;> (unfold okS4; dsimp only; omega)
  · simp [encP, c]
    exact ⟨L, _, _, _, _, rfl, h1, by omega⟩
theorem law_splits_eq {row : List Int} (hl : (row.length : Int) = 100) {K : LK} (hK : K = .frz ∨ K = .bor) {ps : List (Int × Int)} (g : Good ps) : ∃ L : List Sp4, m__law_splits [.lst .bor (row.map D.int), .lst K (ps.map encP)] = .ok (.lst .own (L.map encS)) ∧ ∀ p ∈ L, okS4 p := by
  unfold m__law_splits
  rw [runF_eq]
  unfold b__law_splits
  have gl := g.len
  obtain ⟨ρ', e, L, j3, j4, j5, j6, rfl, h1, h2⟩ := for_range (m := 10) (g := gN 3) (F := spB1) (ρ := [some (.lst .bor (row.map D.int)), some (.lst K (ps.map encP)), some (.lst .own []), none, none, none, none]) (ISp (.lst .bor (row.map D.int)) (.lst K (ps.map encP)))
    ⟨[], none, none, none, none, rfl, (fun _ z => nomatch z), by simp⟩ (fun k ρ hk h => sp_step1 hl hK g hk h)
  obtain ⟨ρ2, e2, M, x3, x4, x5, x6, rfl, h3, h4⟩ := for_all (q := encP) (g := gN 6) (F := spB2) (as := ps) (ρ := [some (.lst .bor (row.map D.int)), some (.lst K (ps.map encP)), some (.lst .own (L.map encS)), j3, j4, j5, j6])
    (fun done ρ => ISp (.lst .bor (row.map D.int)) (.lst K (ps.map encP)) (10 + 3 * done.length) ρ) ⟨L, _, _, _, _, rfl, h1, by simpa using h2⟩ (fun done p rest ρ ep h => by
      have hp : p ∈ ps := by rw [ep]; simp
      have hb := g.b p hp
      have hd : done.length ≤ 8 := by have := congrArg List.length ep; simp at this; omega
      obtain ⟨ρ1, e1, e2⟩ := sp_step2 (m := 10 + 3 * done.length) ⟨hb.1, hb.2.1⟩ (by omega) h
      refine ⟨ρ1, e1, ?_⟩
      have ee : 10 + 3 * (done ++ [p]).length = 10 + 3 * done.length + 3 := by simp; omega
      rw [ee]
      exact e2)
  unfold spB1 at e
  unfold spB2 at e2
  have hr : rng1D [.int 10] = .ok ((List.range 10).map fun (i : Nat) => .int (i : Int)) := rng1_at (m := 10) (by omega)
  have hit : itemsD (.lst K (ps.map encP)) = .ok (ps.map encP) := by rcases hK with rfl | rfl <;> rfl
  have z : M.length + 3 ≤ LINE := leL (by omega)
  refine ⟨M ++ [⟨0, 1, 0, 1⟩, ⟨500000000, 200, 500000000, 200⟩, ⟨1000000000, 399, 0, 1⟩], ?_, fun q hq => ?_⟩
  · have z0 : (0 : Nat) ≤ LINE := Nat.zero_le _
    simp only [sSeq_eq, sSet_eq, eLst_eq, aNil_eq, rb_ok, List.length_nil, z0, retAll_nil, and_self, if_true, ob_ok, List.map_cons, List.map_nil, List.replicate, List.cons_append, List.nil_append, List.set_cons_zero, List.set_cons_succ, oSeq_next, sFor_eq, iRg_eq, aCons_eq, eC_eq, hr]
    rw [e]
    simp only [oSeq_next, sSeq_eq, sFor_eq, iOf_eq, eVar_eq, List.getElem?_cons_zero, List.getElem?_cons_succ, oGet_some, rb_ok, hit, ob_ok]
    rw [e2]
    simp [three_le, four_le, z]
    exact ⟨rfl, rfl, rfl⟩
  · rcases List.mem_append.mp hq with hq | hq
    · exact h3 q hq
    · simp only [List.mem_cons, List.not_mem_nil, or_false] at hq
      rcases hq with rfl | rfl | rfl <;> (unfold okS4; dsimp only; omega)
/-! refused -/
theorem called_eq (door : Int) (s : Int) (ps : List (Int × Int)) (g : Good ps) (p : Sp4) : m__law_called [.int door, tarD s ps, encS p] = .ok (.str (if okS4 p then "fine" else "range")) := by
  unfold m__law_called
  rw [runF_eq]
  unfold b__law_called
  have c1 := saving_call s ps g p
  have c2 := costly_call s ps g p
  have hh := fun (ρ : Rho) (l : List ClD) (f : List (Str × V) → Rho → Out) => handle_yes (ρ := ρ) (fv := []) (r := l) (kk := ⟨"OutOfRange", none, f⟩) sub_OutOfRange_OutOfRange
  by_cases ok : okS4 p
  · rw [if_pos ok] at c1 c2 ⊢
    by_cases d0 : door = 0 <;> simp [d0, c1, c2]
  · rw [if_neg ok] at c1 c2 ⊢
    by_cases d0 : door = 0 <;> simp [d0, c1, c2, hh, slotOk, rhoA]
theorem called_call (door : Int) (s : Int) (ps : List (Int × Int)) (g : Good ps) (p : Sp4) : callD 3 m__law_called [.int door, tarD s ps, encS p] = .ok (.str (if okS4 p then "fine" else "range")) := by
  rw [callD_at (n := 3) (es := [.int door, tarD s ps, encS p]) rfl rfl rfl, called_eq door s ps g p]
theorem at_call2 (row : List Int) (hr : row.length = 2) : ∃ a b, 0 ≤ a ∧ a < 2 ∧ 0 ≤ b ∧ b < 1000000 ∧ callD 3 m__law_at [.lst .bor (row.map D.int), .int 0, .int 2] = .ok (.int a) ∧ callD 3 m__law_at [.lst .bor (row.map D.int), .int 1, .int 1000000] = .ok (.int b) := by
  obtain ⟨a, a1, a2, a3⟩ := at_callI .bor (.inr rfl) row 0 2 (by omega) (by omega) (by omega)
  obtain ⟨b, b1, b2, b3⟩ := at_callI .bor (.inr rfl) row 1 1000000 (by omega) (by omega) (by omega)
  exact ⟨a, b, a1, a2, b1, b2, a3, b3⟩
def rcB : Rho → Out := (sIf (bE (eB2 neD (eCall 3 m__law_called (aCons (eVar 4) (aCons (eVar 1) (aCons (eVar 5) aNil)))) (eC (.str "range")))) (sRet (eC (.bl false))) sNil)
theorem rc_loop (door : Int) (s : Int) (ps : List (Int × Int)) (g : Good ps) (L : List Sp4) (hL : ∀ p ∈ L, ¬ okS4 p) (x0 x2 x3 x5 : Option D) : ∃ x, forD (gN 5) rcB (L.map encS) [x0, some (tarD s ps), x2, x3, some (.int door), x5] = .next [x0, some (tarD s ps), x2, x3, some (.int door), x] := by
  obtain ⟨ρ', e, x, rfl⟩ := for_none (q := encS) (g := gN 5) (as := L) (F := rcB) (ρ := [x0, some (tarD s ps), x2, x3, some (.int door), x5]) (fun ρ => ∃ x, ρ = [x0, some (tarD s ps), x2, x3, some (.int door), x]) ⟨_, rfl⟩ (fun p ρ hp ⟨x, hx⟩ => by
    subst hx
    refine ⟨_, rfl, ?_⟩
    have c := called_call door s ps g p
    rw [if_neg (hL p hp)] at c
    unfold rcB
    simp [c])
  exact ⟨x, e⟩
def wrongL (far : Int) : List Sp4 := [⟨-1 - far, 1, 5, 1⟩, ⟨5 + far, 1, -1, 1⟩, ⟨0, 0, 5, 1⟩, ⟨5, 1, 0, -far⟩, ⟨1000000001 + far, 1, 0, 1⟩, ⟨far, 1, 1000000001 - far, 1⟩, ⟨0, 400, 0, 1⟩, ⟨0, 1 + far, 0, 400⟩, ⟨-1, 0, 0, 0⟩]
theorem wrong_ok (far : Int) (hf : 0 ≤ far) : ∀ p ∈ wrongL far, ¬ okS4 p := by
  intro p hp
  unfold wrongL at hp
  simp only [List.mem_cons, List.not_mem_nil, or_false] at hp
  rcases hp with rfl | rfl | rfl | rfl | rfl | rfl | rfl | rfl | rfl <;> (unfold okS4; dsimp only; omega)
def rdB : Rho → Out := (sFrz 3 (sSeq (sFor (gN 5) (iOf (eVar 3)) rcB)
    (sIf (bE (eB2 neD (eCall 3 m__law_called (aCons (eVar 4) (aCons (eVar 1) (aCons (eTup (aCons (eVar 2) (aCons (eC (.int 1)) (aCons (eB2 subD (eC (.int 1000000000)) (eVar 2)) (aCons (eC (.int 399)) aNil))))) aNil)))) (eC (.str "fine")))) (sRet (eC (.bl false))) sNil)))
def IRd (x0 : D) (s far : Int) (ps : List (Int × Int)) (ρ : Rho) : Prop := ∃ (k : LK) (x4 x5 : Option D), (k = .own ∨ k = .frz) ∧ ρ = [some x0, some (tarD s ps), some (.int far), some (.lst k ((wrongL far).map encS)), x4, x5]
@[simp] theorem frzS (L : List Sp4) : D.frzAll (L.map encS) = L.map encS := frzAll_dup (dupS L)
theorem rd_step (x0 : D) (s far : Int) (hf : 0 ≤ far ∧ far ≤ 999999) (ps : List (Int × Int)) (g : Good ps) (door : Int) {ρ : Rho} (h : IRd x0 s far ps ρ) : ∃ ρ1, gN 4 (.int door) ρ = some ρ1 ∧ okS (rdB ρ1) (IRd x0 s far ps) := by
  obtain ⟨k, x4, x5, hk, rfl⟩ := h
  refine ⟨_, rfl, ?_⟩
  obtain ⟨y, e⟩ := rc_loop door s ps g (wrongL far) (wrong_ok far hf.1) (some x0) (some (.int far)) (some (.lst .frz ((wrongL far).map encS))) x5
  have c := called_call door s ps g ⟨far, 1, 1000000000 - far, 399⟩
  rw [if_pos (show okS4 ⟨far, 1, 1000000000 - far, 399⟩ by unfold okS4; dsimp only; omega)] at c
  have c' : callD 3 m__law_called [.int door, tarD s ps, .tup [.int far, .int 1, .int (1000000000 - far), .int 399]] = .ok (.str "fine") := c
  generalize hW : (wrongL far).map encS = Wl at *
  have fW : D.frzAll Wl = Wl := by rw [← hW]; exact frzS _
  have rW : D.retAll Wl = true := by rw [← hW]; exact retS _
  unfold rdB
  rcases hk with rfl | rfl
  · simp [fW, e, c', four_le]
    exact ⟨.frz, _, _, .inr rfl, by rw [hW]⟩
  · simp [fW, e, c', four_le]
    exact ⟨.frz, _, _, .inr rfl, by rw [hW]⟩
theorem refused_eq (row : List Int) (hr : row.length = 2) (s : Int) (ps : List (Int × Int)) (g : Good ps) : m__law_refused [.lst .bor (row.map D.int), tarD s ps] = .ok (.bl true) := by
  unfold m__law_refused
  rw [runF_eq]
  unfold b__law_refused
  obtain ⟨a, b, p1, p2, p3, p4, a0, a1⟩ := at_call2 row hr
  have hm : mulD (.int a) (.int b) = .ok (.int (a * b)) := mulD_r ⟨by omega, by omega⟩
  have hf : 0 ≤ a * b ∧ a * b ≤ 999999 := by
    rcases (show a = 0 ∨ a = 1 by omega) with rfl | rfl
    · simp
    · omega
  generalize hfar : a * b = far at *
  obtain ⟨ρ', e, k, x4, x5, hk, rfl⟩ := for_range (m := 2) (g := gN 4) (F := rdB) (ρ := [some (.lst .bor (row.map D.int)), some (tarD s ps), some (.int far), some (.lst .own ((wrongL far).map encS)), none, none]) (fun _ ρ => IRd (.lst .bor (row.map D.int)) s far ps ρ) ⟨.own, none, none, .inl rfl, rfl⟩
    (fun k ρ _ h => rd_step (.lst .bor (row.map D.int)) s far hf ps g (k : Int) h)
  unfold rdB rcB at e
  have hr2 : rng1D [.int 2] = .ok ((List.range 2).map fun (i : Nat) => .int (i : Int)) := rng1_at (m := 2) (by omega)
  have L0 : LINE = 16777216 := rfl
  unfold wrongL at e
  simp only [List.map_cons, List.map_nil, encS] at e
  simp only [sSeq_eq, sSet_eq, eB2_eq, eCall_eq, aCons_eq, aNil_eq, eVar_eq, eC_eq, rb_ok, List.map_cons, List.map_nil, List.replicate, List.cons_append, List.nil_append, List.getElem?_cons_zero, List.getElem?_cons_succ, oGet_some, a0, a1, hm, ob_ok, List.set_cons_zero, List.set_cons_succ, oSeq_next]
  simp [L0, hr2, e]
/-! what falls and rises tell -/
theorem asc_map : ∀ (ps : List (Int × Int)) (l : Int), AscI l (ps.map fun q => q.2) → Asc l ps
  | [], _, _ => trivial
  | q :: r, l, h => ⟨h.1, asc_map r q.2 h.2⟩
theorem dsc_map : ∀ (ps : List (Int × Int)) (l : Int), AscI (-l) (ps.map fun q => -q.2) → Dsc l ps
  | [], _, _ => trivial
  | q :: r, l, h => ⟨by have z : -l ≤ -q.2 := h.1; omega, dsc_map r q.2 h.2⟩
theorem fall_ext (s : Int) {ps : List (Int × Int)} (g : Good ps) (p : Sp4) (h : ffAll (ps.map fun q => q.2) = 0) : 0 ≤ ext s ps p := by
  rw [ext_exs]
  obtain ⟨q, r, e, z⟩ := g.z
  have hb := g.prb q (by rw [e]; exact List.mem_cons_self)
  rw [e] at h ⊢
  exact exs_nn p _ 0 ⟨hb.1, asc_map r q.2 (ffP_zero _ 1 q.2 (by omega) h)⟩
theorem rise_ext (s : Int) {ps : List (Int × Int)} (g : Good ps) (p : Sp4) (hp : okS4 p) (h : ffAll (ps.map fun q => -q.2) = 0) : ext s ps p ≤ 0 := by
  rw [ext_exs]
  obtain ⟨q, r, e, z⟩ := g.z
  rw [e] at h ⊢
  have a := exs_np p r q.2 (dsc_map r q.2 (ffP_zero _ 1 (-q.2) (by omega) h))
  show (q.2 - 0) * br (p.u1 - q.1 * p.d1) (p.u2 - q.1 * p.d2) + exs p q.2 r ≤ 0
  have hp1 := hp.1
  rw [z, br_zero (by simp; omega) (by simp; omega)]
  omega
theorem ffP_steps (σ : Int → Int) : ∀ (R : List (Int × Int)) (k : Nat) (l : Int × Int), ffP k (σ l.2) (R.map fun q => σ q.2) ≠ 0 → ∃ A l' q R', l :: R = A ++ l' :: q :: R' ∧ ffP k (σ l.2) (R.map fun q => σ q.2) = k + A.length ∧ σ q.2 < σ l'.2
  | [], _, _, h => absurd rfl h
  | p :: r, k, l, h => by
    by_cases c : σ p.2 < σ l.2
    · exact ⟨[], l, p, r, rfl, by rw [List.map_cons, ffP, if_pos c]; rfl, c⟩
    · have z : ffP k (σ l.2) ((p :: r).map fun q => σ q.2) = ffP (k + 1) (σ p.2) (r.map fun q => σ q.2) := by rw [List.map_cons, ffP, if_neg c]
      rw [z] at h ⊢
      obtain ⟨A, l', q, R', e1, e2, e3⟩ := ffP_steps σ r (k + 1) p h
      exact ⟨l :: A, l', q, R', by rw [e1]; rfl, by rw [e2, List.length_cons]; omega, e3⟩
theorem up_app : ∀ (A B : List (Int × Int)), Up (A ++ B) → Up B ∧ ∀ a ∈ A, ∀ b ∈ B, a.1 < b.1
  | [], B, h => ⟨h, fun _ z => nomatch z⟩
  | a :: A, B, h => by
    obtain ⟨h1, h2⟩ := up_app A B h.2
    refine ⟨h1, fun x hx b hb => ?_⟩
    rcases List.mem_cons.mp hx with rfl | hx
    · exact h.1 b (List.mem_append_right _ hb)
    · exact h2 x hx b hb
theorem first_at (σ : Int → Int) (s : Int) {ps : List (Int × Int)} (g : Good ps) (h : ffAll (ps.map fun q => σ q.2) ≠ 0) : ∃ l q : Int × Int, ffAll (ps.map fun q => σ q.2) < ps.length ∧ ps.getD (ffAll (ps.map fun q => σ q.2)) (0, 0) = q ∧ σ q.2 < σ l.2 ∧ okS4 (sAt q.1) ∧ ext s ps (sAt q.1) = q.2 - l.2 := by
  obtain ⟨p0, r, e0, z0⟩ := g.z
  have hk : ffAll (ps.map fun q => σ q.2) = ffP 1 (σ p0.2) (r.map fun q => σ q.2) := by rw [e0]; rfl
  rw [hk] at h ⊢
  obtain ⟨A, l, q, R, e1, e2, e3⟩ := ffP_steps σ r 1 p0 h
  rw [e2]
  rw [← e0] at e1
  have e1' : ps = (A ++ [l]) ++ q :: R := by rw [e1]; simp
  have up := g.up
  rw [e1'] at up
  obtain ⟨u1, u2⟩ := up_app _ _ up
  have hq : q ∈ ps := by rw [e1]; simp
  have hl : l ∈ ps := by rw [e1]; simp
  have lq := u2 l (by simp) q (by simp)
  have lb := g.b l hl
  have qb := g.b q hq
  refine ⟨l, q, by rw [e1]; simp; omega, ?_, e3, by unfold okS4 sAt; dsimp only; omega, ?_⟩
  · rw [List.getD_eq_getElem?_getD, e1', List.getElem?_append_right (by simp; omega)]
    simp
    rw [show 1 + A.length - (A.length + 1) = 0 by omega]
    rfl
  · rw [ext_exs, e1', exs_at q.1 q.2 R (fun x hx => u1.1 x hx) (A ++ [l]) 0 (fun x hx => u2 x hx q (by simp)), List.getLast?_concat]
/-! the law -/
theorem steps_call (row : List Int) (at_ c w m : Int) (hw : w = 0 ∨ w = 1) (hc : 1 ≤ c ∧ c ≤ 8) (ha : 0 ≤ at_ ∧ at_ + 3 * c ≤ (row.length : Int)) : ∃ ps, callD 5 m__law_steps [.lst .own (row.map D.int), .int at_, .int c, .int w, .int m] = .ok (.lst .own (ps.map encP)) ∧ Good ps := by
  obtain ⟨ps, h, g⟩ := law_steps_eq row at_ c w m hw hc ha
  refine ⟨ps, ?_, g⟩
  rw [callD_at (n := 5) (es := [.lst .bor (row.map D.int), .int at_, .int c, .int w, .int m]) rfl rfl (by simp), h]
theorem row_call (c : Int) (m : Nat) (hm : m ≤ 1000) : ∃ r : List Int, callD 2 m__law_row [.int c, .int (m : Int)] = .ok (.lst .own (r.map D.int)) ∧ r.length = m := by
  obtain ⟨r, h, hl⟩ := law_row_eq c m (by omega)
  exact ⟨r, by rw [callD_at (n := 2) (es := [.int c, .int (m : Int)]) rfl rfl rfl, h], hl⟩
theorem cell0 (ns : List Int) : ∃ c, callD 2 m__law_cell [.scr ns, .int 0] = .ok (.int c) := by
  obtain ⟨c, h⟩ := law_cell_eq ns
  exact ⟨c, by rw [callD_at (n := 2) (es := [.scr ns, .int 0]) rfl rfl rfl, h]⟩
theorem cell1 (ns : List Int) : ∃ c, callD 2 m__law_cell [.scr ns, .int 1] = .ok (.int c) := by
  rw [callD_at (n := 2) (es := [.scr ns, .int 1]) rfl rfl rfl]
  unfold m__law_cell
  rw [runF_eq]
  unfold b__law_cell
  match ns with
  | [] => exact ⟨0, by simp⟩
  | [n] => exact ⟨0, by simp⟩
  | n :: m :: r => exact ⟨m, by simp; omega⟩
theorem make_ok (s : Int) (hs : 0 ≤ s ∧ s ≤ 1000000) (ps : List (Int × Int)) (g : Good ps) : makeD "Tariff" 2 m_Tariff___init__ [.int s, .lst .frz (ps.map encP)] = .ok (tarD s ps) := by
  rw [make_eq .frz (.inl rfl) s ps, g.ref hs]
theorem fall_comp (s : D) (ps : List (Int × Int)) (σ : Int → Int) (f : Rho → Res D) (hl : ps.length ≤ 8) (x : List (Option D)) (i : Nat) (h5 : iOf (eVar 5) x = .ok (ps.map encP)) (hf : ∀ p : Int × Int, f ((wipeR x [8]).set 8 (some (encP p))) = .ok (.int (σ p.2))) :
    eComp [8] (iOf (eVar 5)) (gN 8) bYes f x = .ok (.lst .own ((ps.map fun q => σ q.2).map D.int)) := by
  have z := comp_map (q := encP) (g := gN 8) (p := fun _ => true) (r := fun q : Int × Int => D.int (σ q.2)) (t := bYes) (f := f) (ρ := wipeR x [8]) (as := ps) (fun p _ => ⟨_, rfl, rfl, fun _ => hf p⟩)
  rw [List.filter_eq_self.mpr (fun _ _ => rfl)] at z
  rw [eComp_eq h5 z (by rw [List.length_map]; exact leL (by omega)) (retAll_map (fun _ => rfl) _), List.map_map]
  rfl
theorem first_call (xs : List Int) (hx : xs ≠ []) (hl : xs.length ≤ 1000) : callD 1 m__law_first_fall [.lst .own (xs.map D.int)] = .ok (.int (ffAll xs : Nat)) := by
  rw [callD_at (n := 1) (es := [.lst .bor (xs.map D.int)]) rfl rfl (by simp), first_fall_eq .bor xs hx hl]
def ljB : Rho → Out := (sIf (bNot (bT (eCall 6 m__law_judged (aCons (eVar 6) (aCons (eVar 4) (aCons (eVar 5) (aCons (eVar 11) (aCons (eVar 7) (aCons (eVar 9) aNil))))))))) (sRet (eC (.bl false))) sNil)
theorem lj_loop (s : Int) (hs : 0 ≤ s ∧ s ≤ 1000000) (ps : List (Int × Int)) (g : Good ps) (f r : Int) (hf : ∀ p, okS4 p → f = 0 → 0 ≤ ext s ps p) (hr : ∀ p, okS4 p → r = 0 → ext s ps p ≤ 0) (L : List Sp4) (hL : ∀ p ∈ L, okS4 p) (x0 x1 x2 x3 x8 x10 x11 : Option D) :
    ∃ x, forD (gN 11) ljB (L.map encS) [x0, x1, x2, x3, some (.int s), some (.lst .frz (ps.map encP)), some (tarD s ps), some (.int f), x8, some (.int r), x10, x11] =
      .next [x0, x1, x2, x3, some (.int s), some (.lst .frz (ps.map encP)), some (tarD s ps), some (.int f), x8, some (.int r), x10, x] := by
  obtain ⟨ρ', e, x, rfl⟩ := for_none (q := encS) (g := gN 11) (as := L) (F := ljB) (ρ := [x0, x1, x2, x3, some (.int s), some (.lst .frz (ps.map encP)), some (tarD s ps), some (.int f), x8, some (.int r), x10, x11])
    (fun ρ => ∃ x, ρ = [x0, x1, x2, x3, some (.int s), some (.lst .frz (ps.map encP)), some (tarD s ps), some (.int f), x8, some (.int r), x10, x]) ⟨_, rfl⟩ (fun p ρ hp ⟨x, hx⟩ => by
      subst hx
      refine ⟨_, rfl, ?_⟩
      have c := judged_call .frz (.inl rfl) s hs ps g p (hL p hp) f r (hf p (hL p hp)) (hr p (hL p hp))
      unfold ljB
      simp [c])
  exact ⟨x, e⟩
theorem splits_call {row : List Int} (hl : (row.length : Int) = 100) {ps : List (Int × Int)} (g : Good ps) : ∃ L : List Sp4, callD 2 m__law_splits [.lst .own (row.map D.int), .lst .frz (ps.map encP)] = .ok (.lst .own (L.map encS)) ∧ ∀ p ∈ L, okS4 p := by
  obtain ⟨L, h, k⟩ := law_splits_eq hl (.inl rfl) g
  exact ⟨L, by rw [callD_at (n := 2) (es := [.lst .bor (row.map D.int), .lst .frz (ps.map encP)]) rfl rfl (by simp), h], k⟩
theorem told_ix (w : Str) (k : Nat) (ps : List (Int × Int)) (q : Int × Int) (hk : k ≠ 0) (hq : ps.getD k (0, 0) = q) : ixD (toldD w k ps) (.int 1) = .ok (encS (sAt q.1)) := by
  unfold toldD
  rw [if_neg hk, hq]
  simp
theorem law_true : ∀ ns : List Int, ns.length ≤ 63 → m_law [.scr ns] = .ok (.bl true) := by
  intro ns _
  unfold m_law
  rw [runF_eq]
  unfold b_law
  generalize hTF : bAnd (bE (eB2 gtD (eVar 7) (eC (.int 0)))) (bOr (bE (eB2 notND (eCall 2 m_is_saving (aCons (eVar 6) (aCons (eB2 ixD (eCall 1 m_split_saves (aCons (eVar 6) aNil)) (eC (.int 1))) aNil))) (eC (.bl true)))) (bE (eB2 notND (eCall 2 m_is_costly (aCons (eVar 6) (aCons (eB2 ixD (eCall 1 m_split_saves (aCons (eVar 6) aNil)) (eC (.int 1))) aNil))) (eC (.bl false))))) = TF
  generalize hTR : bAnd (bE (eB2 gtD (eVar 9) (eC (.int 0)))) (bOr (bE (eB2 notND (eCall 2 m_is_costly (aCons (eVar 6) (aCons (eB2 ixD (eCall 1 m_split_costs (aCons (eVar 6) aNil)) (eC (.int 1))) aNil))) (eC (.bl true)))) (bE (eB2 notND (eCall 2 m_is_saving (aCons (eVar 6) (aCons (eB2 ixD (eCall 1 m_split_costs (aCons (eVar 6) aNil)) (eC (.int 1))) aNil))) (eC (.bl false))))) = TR
  obtain ⟨c0, h0⟩ := cell0 ns
  obtain ⟨e1_, h1⟩ := cell1 ns
  obtain ⟨row, hrow, hl⟩ := row_call c0 40 (by omega)
  have crow : callD 2 m__law_row [.int c0, .int 40] = .ok (.lst .own (row.map D.int)) := hrow
  obtain ⟨more, hmore, hl2⟩ := row_call (e1_ + 977 * c0) 100 (by omega)
  have cmore : callD 2 m__law_row [.int (e1_ + 977 * c0), .int 100] = .ok (.lst .own (more.map D.int)) := hmore
  have hl' : (row.length : Int) = 40 := by omega
  obtain ⟨v0, p0, q0, a0⟩ := at_callO .own (.inr (.inr rfl)) row 0 8 (by omega) (by omega) (by omega)
  obtain ⟨w, p1, q1, a1⟩ := at_callO .own (.inr (.inr rfl)) row 1 2 (by omega) (by omega) (by omega)
  have hw : w = 0 ∨ w = 1 := by omega
  obtain ⟨w2, hw2, bw2, bw3⟩ : ∃ w2, ixA [D.int 12, D.int 1000001] w Res.ok = .ok (.int w2) ∧ 1 ≤ w2 ∧ w2 ≤ 1000001 := by
    rcases hw with rfl | rfl
    · exact ⟨12, by simp, by omega, by omega⟩
    · exact ⟨1000001, by simp, by omega, by omega⟩
  obtain ⟨s, p2, q2, a2⟩ := at_callO .own (.inr (.inr rfl)) row 2 w2 (by omega) (by omega) (by omega)
  obtain ⟨v27, p3, q3, a3⟩ := at_callO .own (.inr (.inr rfl)) row 27 5 (by omega) (by omega) (by omega)
  obtain ⟨ps, s1, g⟩ := steps_call row 3 (v0 + 1) w v27 hw (by omega) (by omega)
  have hs : 0 ≤ s ∧ s ≤ 1000000 := by omega
  have t1 := make_ok s hs ps g
  have gl := g.len
  have m977 : mulD (.int 977) (.int c0) = .ok (.int (977 * c0)) := mulD_l ⟨by omega, by omega⟩
  -- what falls, what rises
  have ne : ∀ σ : Int → Int, (ps.map fun q => σ q.2) ≠ [] := fun σ z => by have := congrArg List.length z; simp at this; rw [this] at gl; simp at gl
  have hx : 1 ≤ ps.length ∧ ps.length ≤ 1000 := by omega
  have c1 := first_call (ps.map fun q => q.2) (ne fun x => x) (by rw [List.length_map]; omega)
  have c2 := first_call (ps.map fun q => -q.2) (ne fun x => -x) (by rw [List.length_map]; omega)
  have c3 := split_saves_call s ps hx
  have c4 := split_costs_call s ps hx
  have fe := fun p (hp : okS4 p) => fall_ext s g p
  have re := fun p (hp : okS4 p) => rise_ext s g p hp
  have ff := first_at (fun x => x) s g
  have rf := first_at (fun x => -x) s g
  generalize ffAll (ps.map fun q => q.2) = kf at *
  generalize ffAll (ps.map fun q => -q.2) = kr at *
  have bf : kf = 0 ∨ kf < ps.length := by
    by_cases z : kf = 0
    · exact .inl z
    · obtain ⟨_, _, h, _⟩ := ff z; exact .inr h
  have br : kr = 0 ∨ kr < ps.length := by
    by_cases z : kr = 0
    · exact .inl z
    · obtain ⟨_, _, h, _⟩ := rf z; exact .inr h
  have d1 := told_call .frz .frz (.inl ⟨rfl, rfl⟩) "saves" kf ps bf
  have d2 := told_call .frz .frz (.inl ⟨rfl, rfl⟩) "costs" kr ps br
  obtain ⟨L, sp, hL⟩ := splits_call (row := more) (by omega) g
  obtain ⟨x, lj⟩ := lj_loop s hs ps g (kf : Int) (kr : Int) (fun p hp z => fe p hp (by omega)) (fun p hp z => re p hp (by omega)) L hL (some (.scr ns)) (some (.lst .own (row.map D.int))) (some (.int (v0 + 1))) (some (.int w)) none (some (.lst .own (more.map D.int))) none
  unfold ljB at lj
  have k1 : cutA (row.map D.int) (some 28) (some 30) = ((row.drop 28).take 2).map D.int := by rw [cutA_map, show (28 : Int) = ((28 : Nat) : Int) from rfl, show (30 : Int) = ((30 : Nat) : Int) from rfl, cutA_mid (by omega) (by omega)]
  have f1 : callD 2 m__law_refused [.lst .own (((row.drop 28).take 2).map D.int), tarD s ps] = .ok (.bl true) := by
    rw [callD_at (n := 2) (es := [.lst .bor (((row.drop 28).take 2).map D.int), tarD s ps]) rfl rfl (by rw [lendAll_cons, lend_own, lendI]; rfl), refused_eq _ (by rw [List.length_take, List.length_drop]; omega) s ps g]
  simp only [List.map_take, List.map_drop] at f1 k1
  have e1 := fun x h5 => fall_comp (.int s) ps (fun x => x) (eDup (eB2 ixD (eVar 8) (eC (.int 1)))) (by omega) x 0 h5
  have e2 := fun x h5 => fall_comp (.int s) ps (fun x => -x) (eU1 negD (eB2 ixD (eVar 8) (eC (.int 1)))) (by omega) x 0 h5
  have e1' := e1 [some (.scr ns), some (.lst .own (row.map D.int)), some (.int (v0 + 1)), some (.int w), some (.int s), some (.lst .frz (ps.map encP)), some (tarD s ps), none, none, none, none, none] (by simp) (fun p => by simp [wipeR, encP])
  have e2' := e2 [some (.scr ns), some (.lst .own (row.map D.int)), some (.int (v0 + 1)), some (.int w), some (.int s), some (.lst .frz (ps.map encP)), some (tarD s ps), some (.int (kf : Int)), none, none, none, none] (by simp) (fun p => by simp [wipeR, encP])
  -- the two tests
  have tf : ∀ ρ : Rho, ρ[6]? = some (some (tarD s ps)) → ρ[7]? = some (some (.int (kf : Int))) → TF ρ = .ok false := by
    intro ρ h6 h7
    subst hTF
    by_cases z : kf = 0
    · simp [h7, z]
    · obtain ⟨l, q, b1, b2, b3, b4, b5⟩ := ff z
      have ix := told_ix "saves" kf ps q z b2
      have c5 := saving_call s ps g (sAt q.1)
      have c6 := costly_call s ps g (sAt q.1)
      rw [if_pos b4, b5] at c5 c6
      have n1 : q.2 - l.2 < 0 := by omega
      have n2 : ¬ 0 < q.2 - l.2 := by omega
      have z' : ¬ (kf : Int) = 0 := by omega
      simp [h6, h7, c3, ix, c5, c6, n1, n2, notND, isND]
      try omega
  have tr : ∀ ρ : Rho, ρ[6]? = some (some (tarD s ps)) → ρ[9]? = some (some (.int (kr : Int))) → TR ρ = .ok false := by
    intro ρ h6 h7
    subst hTR
    by_cases z : kr = 0
    · simp [h7, z]
    · obtain ⟨l, q, b1, b2, b3, b4, b5⟩ := rf z
      have ix := told_ix "costs" kr ps q z b2
      have c5 := saving_call s ps g (sAt q.1)
      have c6 := costly_call s ps g (sAt q.1)
      rw [if_pos b4, b5] at c5 c6
      have n1 : ¬ q.2 - l.2 < 0 := by omega
      have n2 : 0 < q.2 - l.2 := by omega
      have z' : ¬ (kr : Int) = 0 := by omega
      simp [h6, h7, c4, ix, c5, c6, n1, n2, notND, isND]
      try omega
  clear hTF hTR
  have d1' : callD 4 m__law_told [toldD "saves" kf ps, .str "saves", .lst .frz (ps.map encP), .int (kf : Int)] = .ok (.bl true) := d1
  generalize hT : tarD s ps = T at *
  have dT : D.dup T = true := by rw [← hT]; rfl
  simp only [List.map_cons, List.map_nil, List.replicate, List.cons_append, List.nil_append]
  simp [h0, crow, a0, a1, a2, hw2, a3, s1, two_le, t1]
  simp [e1', c1, -List.map_map]
  simp [e2', c2, c3, c4, d1, d2, tf, tr, -List.map_map]
  simp [h0, h1, m977, -mulD_ii, cmore, sp, lj, k1, f1]
end K45
namespace K45
open PySem L2 DH
def top (i : Nat) : Stmt := PySem.Challenge.pw_dialhouse_k45_whole_splitting.main.body.getD i (.Pass ⟨0, 0, 0, 0⟩)
abbrev s__law_row : Stmt := top 26
abbrev s__law_at : Stmt := top 27
abbrev s__law_steps : Stmt := top 29
abbrev s_TooMany___init__ : Stmt := inClass (top 4) 0
abbrev s_check_steps : Stmt := top 13
abbrev s_Tariff___init__ : Stmt := inClass (top 15) 0
abbrev s__law_first_fall : Stmt := top 34
abbrev s__law_use : Stmt := top 37
abbrev s__law_splits : Stmt := top 38
abbrev s_check_split : Stmt := top 20
abbrev s_check_use : Stmt := top 14
abbrev s_Tariff_charge : Stmt := inClass (top 15) 1
abbrev s_extra_charge : Stmt := top 21
abbrev s_is_saving : Stmt := top 22
abbrev s_is_costly : Stmt := top 23
abbrev s__law_called : Stmt := top 39
abbrev s__law_refused : Stmt := top 40
abbrev s__law_cell : Stmt := top 25
abbrev s__law_is_whole : Stmt := top 28
abbrev s__law_told : Stmt := top 35
abbrev s__law_lines : Stmt := top 31
abbrev s__law_charge : Stmt := top 32
abbrev s__law_extra : Stmt := top 33
abbrev s__law_judged : Stmt := top 36
abbrev s_split_at : Stmt := top 17
abbrev s_split_saves : Stmt := top 18
abbrev s_split_costs : Stmt := top 19
abbrev s_law : Stmt := top 41
structure Txt (K : PySem.W.Frag) (mg : Str → Option Value) : Prop where
  b_bool : mg "bool" = none
  b_int : mg "int" = none
  b_isinstance : mg "isinstance" = none
  b_len : mg "len" = none
  b_max : mg "max" = none
  b_min : mg "min" = none
  b_range : mg "range" = none
  b_sorted : mg "sorted" = none
  b_sum : mg "sum" = none
  b_tuple : mg "tuple" = none
  c_MOST_DAYS : ∃ t, mg "MOST_DAYS" = some (.int 400 t)
  c_MOST_PRICE : ∃ t, mg "MOST_PRICE" = some (.int 1000000 t)
  c_MOST_STEPS : ∃ t, mg "MOST_STEPS" = some (.int 8 t)
  c_MOST_UNIT : ∃ t, mg "MOST_UNIT" = some (.int 1000000 t)
  c_MOST_USE : ∃ t, mg "MOST_USE" = some (.int 1000000000 t)
  x_BadOrder : Ex0H K mg "BadOrder"
  x_Empty : Ex0H K mg "Empty"
  x_OutOfRange : Ex0H K mg "OutOfRange"
  n_MeterError : NmH mg "MeterError"
  n_OutOfRange : NmH mg "OutOfRange"
  cl_Tariff : ClH K mg "Tariff" ["standing", "steps"]
  sub : SubOk ⟨K, mg⟩ subT
section
variable {P : Program} {w : World} {K : PySem.W.Frag} {mg : Str → Option Value} {base : Heap}
abbrev N__law_row : List Str := ["cell", "many", "row", "k", "mixed"]
theorem sc__law_row : FnScope ["cell", "many", "row", "k", "mixed"] ["cell", "many"] (defScope s__law_row) := ⟨rfl, rfl, rfl, by decide +kernel, rfl, by decide +kernel, by decide +kernel⟩
theorem ok__law_row (T : Txt K mg)  {f : Addr} {fd : FuncData} (F : Fun K "_law_row" "_law_row" s__law_row f fd) : FnOk P w K mg base (L2.CX P w) 1 f fd ["cell", "many"] (spF ⟨K, mg⟩ 2 m__law_row) :=
  have S := sc__law_row
  fn_mk (k := 0) F sc__law_row fun cdv A outer s H H0 F0 E hr tk =>
  (sb_cons (ss_set 2 (by exact True.intro) S.nd (ev_lst eav_nil))
  (sb_cons (ss_if (et_cmp op_ge op2_ge (eb_var 0) (ev_pow ev_int.b ev_int.b).b (nomark _)) (sb_cons (ss_for (passes_of rfl) rfl (it_rng1 T.b_range (ea_cons (eb_var 1) ea_nil)) (fun _ _ => (gt_name 3 (by exact True.intro) S.nd)) (fun _ _ => (sb_cons (ss_app 2 rfl (ev_mod (c_int T.b_int (ea_cons (eb_var 0) ea_nil)).b ev_int.b))
      (sb_one (ss_set 0 (by exact True.intro) S.nd (ev_fdiv (eb_var 0) ev_int.b))))))
    (sb_one (ss_retV 2))) sb_nil)
  (sb_cons (ss_for (passes_of rfl) rfl (it_rng1 T.b_range (ea_cons (eb_var 1) ea_nil)) (fun _ _ => (gt_name 3 (by exact True.intro) S.nd)) (fun _ _ => (sb_cons (ss_set 4 (by exact True.intro) S.nd (ev_mod (c_int T.b_int (ea_cons (ev_add rfl (ev_add rfl (ev_mul (eb_var 0) ev_int.b).b (ev_mul (eb_var 3) ev_int.b).b).b ev_int.b).b ea_nil)).b ev_int.b))
    (sb_one (ss_app 2 rfl (ev_mod (c_int T.b_int (ea_cons (ev_add rfl (ev_add rfl (ev_mul (eb_var 4) ev_int.b).b (ev_mul (ev_mul (eb_var 3) (eb_var 3)).b ev_int.b).b).b ev_int.b).b ea_nil)).b ev_int.b))))))
  (sb_one (ss_retV 2)))))
abbrev N__law_at : List Str := ["row", "at", "many"]
theorem sc__law_at : FnScope ["row", "at", "many"] ["row", "at", "many"] (defScope s__law_at) := ⟨rfl, rfl, rfl, by decide +kernel, rfl, by decide +kernel, by decide +kernel⟩
theorem ok__law_at (T : Txt K mg)  {f : Addr} {fd : FuncData} (F : Fun K "_law_at" "_law_at" s__law_at f fd) : FnOk P w K mg base (L2.CX P w) 1 f fd ["row", "at", "many"] (spF ⟨K, mg⟩ 3 m__law_at) :=
  have S := sc__law_at
  fn_mk (k := 0) F sc__law_at fun cdv A outer s H H0 F0 E hr tk =>
  (sb_one (ss_ret (ev_mod (c_int T.b_int (ea_cons (eb_ix rfl (eb_var 0) (eb_var 1)) ea_nil)).b (eb_var 2))))
abbrev N__law_steps : List Str := ["row", "at", "count", "wide", "mode", "units", "prices", "k", "room"]
theorem sc__law_steps : FnScope ["row", "at", "count", "wide", "mode", "units", "prices", "k", "room"] ["row", "at", "count", "wide", "mode"] (defScope s__law_steps) := ⟨rfl, rfl, rfl, by decide +kernel, rfl, by decide +kernel, by decide +kernel⟩
theorem ok__law_steps (T : Txt K mg) (D__law_at : FnE P w K mg base "_law_at" 3 1 m__law_at) {f : Addr} {fd : FuncData} (F : Fun K "_law_steps" "_law_steps" s__law_steps f fd) : FnOk P w K mg base (L2.CX P w) 2 f fd ["row", "at", "count", "wide", "mode"] (spF ⟨K, mg⟩ 5 m__law_steps) :=
  have S := sc__law_steps
  fn_mk (k := 1) F sc__law_steps fun cdv A outer s H H0 F0 E hr tk =>
  (sb_cons (ss_set 5 (by exact True.intro) S.nd (ev_lst (eav_cons ev_int eav_nil)))
  (sb_cons (ss_set 6 (by exact True.intro) S.nd (ev_lst eav_nil))
  (sb_cons (ss_for (passes_of rfl) rfl (it_rng1 T.b_range (ea_cons (eb_var 2) ea_nil)) (fun _ _ => (gt_name 7 (by exact True.intro) S.nd)) (fun _ _ => (sb_cons (ss_if (et_cmp op_gt op2_gt (eb_var 7) ev_int.b (nomark _)) (sb_cons (ss_set 8 (by exact True.intro) S.nd (ev_sub (ev_add rfl (ev_sub ev_int.b (eb_var 2)).b (eb_var 7)).b (eb_ix rfl (eb_var 5) (ev_neg ev_int.b).b)))
      (sb_one (ss_app 5 rfl (ev_add rfl (ev_add rfl (eb_ix rfl (eb_var 5) (ev_neg ev_int.b).b) ev_int.b).b (ev_call D__law_at rfl (hr.mono (by decide)) tk (ea_cons (eb_var 0) (ea_cons (ev_add rfl (eb_var 1) (ev_mul ev_int.b (eb_var 7)).b).b (ea_cons (c_min2 rfl T.b_min (ea_cons (eb_var 8) (ea_cons (eb_ix rfl (eb_lst (ea_cons ev_int.b (ea_cons ev_int.b ea_nil))) (eb_var 3)) ea_nil))).b ea_nil)))).b)))) sb_nil)
    (sb_cons (ss_app 6 rfl (ev_call D__law_at rfl (hr.mono (by decide)) tk (ea_cons (eb_var 0) (ea_cons (ev_add rfl (ev_add rfl (eb_var 1) (ev_mul ev_int.b (eb_var 7)).b).b ev_int.b).b (ea_cons (eb_ix rfl (eb_lst (ea_cons ev_int.b (ea_cons ev_int.b ea_nil))) (eb_var 3)) ea_nil)))))
    (sb_one (ss_if (et_w (ew_and (et_cmp op_gt op2_gt (eb_var 7) ev_int.b (nomark _)) (ew_and1 (et_cmp (opr_eq hr.units) op2_eq (ev_call D__law_at rfl (hr.mono (by decide)) tk (ea_cons (eb_var 0) (ea_cons (ev_add rfl (ev_add rfl (eb_var 1) (ev_mul ev_int.b (eb_var 7)).b).b ev_int.b).b (ea_cons ev_int.b ea_nil)))).b ev_int.b (nomark _))))) (sb_one (ss_ix 6 (eb_ix rfl (eb_var 6) (ev_sub (eb_var 7) ev_int.b).b) (eb_var 7))) sb_nil))))))
  (sb_cons (ss_if (et_cmp (opr_eq hr.units) op2_eq (eb_var 4) ev_int.b (nomark _)) (sb_one (ss_set 6 (by exact True.intro) S.nd (c_sorted rfl T.b_sorted (ea_cons (eb_var 6) ea_nil)))) sb_nil)
  (sb_cons (ss_if (et_cmp (opr_eq hr.units) op2_eq (eb_var 4) ev_int.b (nomark _)) (sb_one (ss_set 6 (by exact True.intro) S.nd (ev_sortB true rfl T.b_sorted (eb_var 6)))) sb_nil)
  (sb_one (ss_ret (ev_comp [("k", 7)] (fun v hv => by exact True.intro) rfl S.nd (it_rng1 T.b_range (ea_cons (eb_var 2) ea_nil)) (blkOk_by (N := N__law_steps) (sc := defScope s__law_steps) (by decide +kernel)) (fun _ _ _ _ _ => (gt_name 7 (by exact True.intro) S.nd)) (fun _ _ _ _ _ => ec_nil) (fun _ _ _ _ _ => (ev_tup (eav_cons (eb_ix rfl (eb_var 5) (eb_var 7)).v (eav_cons (eb_ix rfl (eb_var 6) (eb_var 7)).v eav_nil))))))))))))
abbrev N_TooMany___init__ : List Str := ["self", "limit"]
theorem sc_TooMany___init__ : FnScope ["self", "limit"] ["self", "limit"] (defScope s_TooMany___init__) := ⟨rfl, rfl, rfl, by decide +kernel, rfl, by decide +kernel, by decide +kernel⟩
theorem ok_TooMany___init__ {f : Addr} {fd : FuncData} (F : Fun K "__init__" "TooMany.__init__" s_TooMany___init__ f fd) : FnOk P w K mg base (L2.CX P w) 1 f fd ["self", "limit"] (spX K ["limit"]) := ex_mk1 F sc_TooMany___init__ fun cdv A outer s H E => pss_one (ps_ost (pv 0) (pv 1))
abbrev N_check_steps : List Str := ["steps", "last", "unit", "price"]
theorem sc_check_steps : FnScope ["steps", "last", "unit", "price"] ["steps"] (defScope s_check_steps) := ⟨rfl, rfl, rfl, by decide +kernel, rfl, by decide +kernel, by decide +kernel⟩
theorem ok_check_steps (T : Txt K mg) (D_TooMany : ExNH P w K mg base "TooMany" ["limit"]) {f : Addr} {fd : FuncData} (F : Fun K "check_steps" "check_steps" s_check_steps f fd) : FnOk P w K mg base (L2.CX P w) 3 f fd ["steps"] (spF ⟨K, mg⟩ 1 m_check_steps) :=
  have S := sc_check_steps
  fn_mk (k := 2) F sc_check_steps fun cdv A outer s H H0 F0 E hr tk =>
  (sb_cons (ss_if (et_not (et_val rfl (eb_var 0))) (sb_one (s_raise0 T.x_Empty rfl rfl tk)) sb_nil)
  (sb_cons (ss_if (et_cmp op_gt op2_gt (c_len rfl T.b_len (ea_cons (eb_var 0) ea_nil)).b (ev_gi T.c_MOST_STEPS).b (nomark _)) (sb_one (s_raise D_TooMany rfl rfl (hr.mono (by decide)) tk (ea_cons (ev_gi T.c_MOST_STEPS).b ea_nil))) sb_nil)
  (sb_cons (ss_set 1 (by exact True.intro) S.nd (ev_neg ev_int.b))
  (sb_one (ss_for (passes_of rfl) rfl (it_seq rfl (eb_var 0)) (fun _ _ => (gt_tup (gl1 (gl1 gl0)) rfl rfl (gts_cons (gt_name 2 (by exact True.intro) S.nd) (gts_cons (gt_name 3 (by exact True.intro) S.nd) gts_nil)))) (fun _ _ => (sb_cons (ss_if (et_w (ew_or (et_w (ew_and (et_cmp op_lt op2_lt (eb_var 1) ev_int.b (nomark _)) (ew_and1 (et_cmp (opr_ne hr.units) op2_ne (eb_var 2) ev_int.b (nomark _))))) (ew_or1 (et_cmp op_le op2_le (eb_var 2) (eb_var 1) (nomark _))))) (sb_one (s_raise0 T.x_BadOrder rfl rfl tk)) sb_nil)
    (sb_cons (ss_if (et_w (ew_or (et_cmp op_gt op2_gt (eb_var 2) (ev_gi T.c_MOST_UNIT).b (nomark _)) (ew_or1 (et_not (et_ch2 op_le op2_le op_le op2_le ev_int.b (eb_var 3) (ev_gi T.c_MOST_PRICE).b))))) (sb_one (s_raise0 T.x_OutOfRange rfl rfl tk)) sb_nil)
    (sb_one (ss_set 1 (by exact True.intro) S.nd (eb_var 2).v))))))))))
abbrev N_Tariff___init__ : List Str := ["self", "standing", "steps"]
theorem sc_Tariff___init__ : FnScope ["self", "standing", "steps"] ["self", "standing", "steps"] (defScope s_Tariff___init__) := ⟨rfl, rfl, rfl, by decide +kernel, rfl, by decide +kernel, by decide +kernel⟩
theorem ok_Tariff___init__ (T : Txt K mg) (D_check_steps : FnE P w K mg base "check_steps" 1 3 m_check_steps) {f : Addr} {fd : FuncData} (F : Fun K "__init__" "Tariff.__init__" s_Tariff___init__ f fd) : FnOk P w K mg base (L2.CX P w) 4 f fd ["self", "standing", "steps"] (spI ⟨K, mg⟩ "Tariff" 2 m_Tariff___init__) :=
  have S := sc_Tariff___init__
  in_mk (k := 3) F sc_Tariff___init__ fun cdv A outer s H H0 F0 E x0 hr tk =>
  (sb_cons (ss_if (et_not (et_ch2 op_le op2_le op_le op2_le ev_int.b (eb_var 1) (ev_gi T.c_MOST_PRICE).b)) (sb_one (s_raise0 T.x_OutOfRange rfl rfl tk)) sb_nil)
  (sb_cons (ss_drop (ev_call D_check_steps rfl (hr.mono (by decide)) tk (ea_cons (eb_var 2) ea_nil)).b)
  (sb_cons (s_fld T.cl_Tariff (by simp) rfl (eb_var 1).v)
  (sb_one (s_fld T.cl_Tariff (by simp) rfl (c_tuple rfl T.b_tuple (ea_cons (eb_var 2) ea_nil)))))))
abbrev N__law_first_fall : List Str := ["prices", "k"]
theorem sc__law_first_fall : FnScope ["prices", "k"] ["prices"] (defScope s__law_first_fall) := ⟨rfl, rfl, rfl, by decide +kernel, rfl, by decide +kernel, by decide +kernel⟩
theorem ok__law_first_fall (T : Txt K mg)  {f : Addr} {fd : FuncData} (F : Fun K "_law_first_fall" "_law_first_fall" s__law_first_fall f fd) : FnOk P w K mg base (L2.CX P w) 1 f fd ["prices"] (spF ⟨K, mg⟩ 1 m__law_first_fall) :=
  have S := sc__law_first_fall
  fn_mk (k := 0) F sc__law_first_fall fun cdv A outer s H H0 F0 E hr tk =>
  (sb_cons (ss_for (passes_of rfl) rfl (it_rng2 T.b_range (ea_cons ev_int.b (ea_cons (c_len rfl T.b_len (ea_cons (eb_var 0) ea_nil)).b ea_nil))) (fun _ _ => (gt_name 1 (by exact True.intro) S.nd)) (fun _ _ => (sb_one (ss_if (et_cmp op_lt op2_lt (eb_ix rfl (eb_var 0) (eb_var 1)) (eb_ix rfl (eb_var 0) (ev_sub (eb_var 1) ev_int.b).b) (nomark _)) (sb_one (ss_retV 1)) sb_nil))))
  (sb_one (ss_ret ev_int)))
abbrev N__law_use : List Str := ["row", "at", "steps", "days", "one", "kind"]
theorem sc__law_use : FnScope ["row", "at", "steps", "days", "one", "kind"] ["row", "at", "steps", "days"] (defScope s__law_use) := ⟨rfl, rfl, rfl, by decide +kernel, rfl, by decide +kernel, by decide +kernel⟩
theorem ok__law_use (T : Txt K mg) (D__law_at : FnE P w K mg base "_law_at" 3 1 m__law_at) {f : Addr} {fd : FuncData} (F : Fun K "_law_use" "_law_use" s__law_use f fd) : FnOk P w K mg base (L2.CX P w) 2 f fd ["row", "at", "steps", "days"] (spF ⟨K, mg⟩ 4 m__law_use) :=
  have S := sc__law_use
  fn_mk (k := 1) F sc__law_use fun cdv A outer s H H0 F0 E hr tk =>
  (sb_cons (ss_set 4 (by exact True.intro) S.nd (eb_ix rfl (eb_var 2) (ev_call D__law_at rfl (hr.mono (by decide)) tk (ea_cons (eb_var 0) (ea_cons (eb_var 1) (ea_cons (c_len rfl T.b_len (ea_cons (eb_var 2) ea_nil)).b ea_nil)))).b).v)
  (sb_cons (ss_set 5 (by exact True.intro) S.nd (ev_call D__law_at rfl (hr.mono (by decide)) tk (ea_cons (eb_var 0) (ea_cons (ev_add rfl (eb_var 1) ev_int.b).b (ea_cons ev_int.b ea_nil)))))
  (sb_cons (ss_if (et_cmp op_lt op2_lt (eb_var 5) ev_int.b (nomark _)) (sb_one (ss_ret (c_max2 rfl T.b_max (ea_cons ev_int.b (ea_cons (ev_sub (ev_add rfl (ev_mul (eb_ix rfl (eb_var 4) ev_int.b) (eb_var 3)).b (eb_var 5)).b ev_int.b).b ea_nil))))) sb_nil)
  (sb_cons (ss_if (et_cmp (opr_eq hr.units) op2_eq (eb_var 5) ev_int.b (nomark _)) (sb_one (ss_ret (ev_call D__law_at rfl (hr.mono (by decide)) tk (ea_cons (eb_var 0) (ea_cons (ev_add rfl (eb_var 1) ev_int.b).b (ea_cons ev_int.b ea_nil)))))) sb_nil)
  (sb_one (ss_ret (ev_add rfl (ev_mul (ev_call D__law_at rfl (hr.mono (by decide)) tk (ea_cons (eb_var 0) (ea_cons (ev_add rfl (eb_var 1) ev_int.b).b (ea_cons ev_int.b ea_nil)))).b ev_int.b).b (ev_call D__law_at rfl (hr.mono (by decide)) tk (ea_cons (eb_var 0) (ea_cons (ev_add rfl (eb_var 1) ev_int.b).b (ea_cons ev_int.b ea_nil)))).b)))))))
abbrev N__law_splits : List Str := ["row", "steps", "splits", "k", "days", "uses", "one"]
theorem sc__law_splits : FnScope ["row", "steps", "splits", "k", "days", "uses", "one"] ["row", "steps"] (defScope s__law_splits) := ⟨rfl, rfl, rfl, by decide +kernel, rfl, by decide +kernel, by decide +kernel⟩
theorem ok__law_splits (T : Txt K mg) (D__law_at : FnE P w K mg base "_law_at" 3 1 m__law_at) (D__law_use : FnE P w K mg base "_law_use" 4 2 m__law_use) {f : Addr} {fd : FuncData} (F : Fun K "_law_splits" "_law_splits" s__law_splits f fd) : FnOk P w K mg base (L2.CX P w) 3 f fd ["row", "steps"] (spF ⟨K, mg⟩ 2 m__law_splits) :=
  have S := sc__law_splits
  fn_mk (k := 2) F sc__law_splits fun cdv A outer s H H0 F0 E hr tk =>
  (sb_cons (ss_set 2 (by exact True.intro) S.nd (ev_lst eav_nil))
  (sb_cons (ss_for (passes_of rfl) rfl (it_rng1 T.b_range (ea_cons ev_int.b ea_nil)) (fun _ _ => (gt_name 3 (by exact True.intro) S.nd)) (fun _ _ => (sb_cons (ss_set 4 (by exact True.intro) S.nd (ev_lst (eav_cons (ev_add rfl ev_int.b (ev_call D__law_at rfl (hr.mono (by decide)) tk (ea_cons (eb_var 0) (ea_cons (ev_mul ev_int.b (eb_var 3)).b (ea_cons (eb_ix rfl (eb_lst (ea_cons ev_int.b (ea_cons ev_int.b ea_nil))) (ev_call D__law_at rfl (hr.mono (by decide)) tk (ea_cons (eb_var 0) (ea_cons (ev_add rfl (ev_mul ev_int.b (eb_var 3)).b ev_int.b).b (ea_cons ev_int.b ea_nil)))).b) ea_nil)))).b) (eav_cons (ev_add rfl ev_int.b (ev_call D__law_at rfl (hr.mono (by decide)) tk (ea_cons (eb_var 0) (ea_cons (ev_add rfl (ev_mul ev_int.b (eb_var 3)).b ev_int.b).b (ea_cons ev_int.b ea_nil)))).b) eav_nil))))
    (sb_cons (ss_set 5 (by exact True.intro) S.nd (ev_lst (eav_cons (ev_call D__law_use rfl (hr.mono (by decide)) tk (ea_cons (eb_var 0) (ea_cons (ev_add rfl (ev_mul ev_int.b (eb_var 3)).b ev_int.b).b (ea_cons (eb_var 1) (ea_cons (eb_ix rfl (eb_var 4) ev_int.b) ea_nil))))) (eav_cons (ev_call D__law_use rfl (hr.mono (by decide)) tk (ea_cons (eb_var 0) (ea_cons (ev_add rfl (ev_mul ev_int.b (eb_var 3)).b ev_int.b).b (ea_cons (eb_var 1) (ea_cons (eb_ix rfl (eb_var 4) ev_int.b) ea_nil))))) eav_nil))))
    (sb_one (ss_app 2 rfl (ev_tup (eav_cons (eb_ix rfl (eb_var 5) ev_int.b).v (eav_cons (eb_ix rfl (eb_var 4) ev_int.b).v (eav_cons (eb_ix rfl (eb_var 5) ev_int.b).v (eav_cons (eb_ix rfl (eb_var 4) ev_int.b).v eav_nil)))))))))))
  (sb_cons (ss_for (passes_of rfl) rfl (it_seq rfl (eb_var 1)) (fun _ _ => (gt_name 6 (by exact True.intro) S.nd)) (fun _ _ => (sb_one (ss_if (et_cmp op_gt op2_gt (eb_ix rfl (eb_var 6) ev_int.b) ev_int.b (nomark _)) (sb_one (ss_set 2 (by exact True.intro) S.nd (ev_add rfl (eb_var 2) (ev_lst (eav_cons (ev_tup (eav_cons (ev_sub (eb_ix rfl (eb_var 6) ev_int.b) ev_int.b) (eav_cons ev_int (eav_cons (ev_add rfl (eb_ix rfl (eb_var 6) ev_int.b) ev_int.b) (eav_cons ev_int eav_nil))))) (eav_cons (ev_tup (eav_cons (eb_ix rfl (eb_var 6) ev_int.b).v (eav_cons ev_int (eav_cons (eb_ix rfl (eb_var 6) ev_int.b).v (eav_cons ev_int eav_nil))))) (eav_cons (ev_tup (eav_cons ev_int (eav_cons ev_int (eav_cons (ev_mul ev_int.b (eb_ix rfl (eb_var 6) ev_int.b)) (eav_cons ev_int eav_nil))))) eav_nil)))).b))) sb_nil))))
  (sb_one (ss_ret (ev_add rfl (eb_var 2) (ev_lst (eav_cons (ev_tup (eav_cons ev_int (eav_cons ev_int (eav_cons ev_int (eav_cons ev_int eav_nil))))) (eav_cons (ev_tup (eav_cons ev_int (eav_cons ev_int (eav_cons ev_int (eav_cons ev_int eav_nil))))) (eav_cons (ev_tup (eav_cons ev_int (eav_cons ev_int (eav_cons ev_int (eav_cons ev_int eav_nil))))) eav_nil)))).b))))))
abbrev N_check_split : List Str := ["split", "use1", "days1", "use2", "days2"]
theorem sc_check_split : FnScope ["split", "use1", "days1", "use2", "days2"] ["split"] (defScope s_check_split) := ⟨rfl, rfl, rfl, by decide +kernel, rfl, by decide +kernel, by decide +kernel⟩
theorem ok_check_split (T : Txt K mg)  {f : Addr} {fd : FuncData} (F : Fun K "check_split" "check_split" s_check_split f fd) : FnOk P w K mg base (L2.CX P w) 1 f fd ["split"] (spF ⟨K, mg⟩ 1 m_check_split) :=
  have S := sc_check_split
  fn_mk (k := 0) F sc_check_split fun cdv A outer s H H0 F0 E hr tk =>
  (sb_cons (ss_unp (eb_var 0) (gt_tup (gl1 (gl1 (gl1 (gl1 gl0)))) rfl rfl (gts_cons (gt_name 1 (by exact True.intro) S.nd) (gts_cons (gt_name 2 (by exact True.intro) S.nd) (gts_cons (gt_name 3 (by exact True.intro) S.nd) (gts_cons (gt_name 4 (by exact True.intro) S.nd) gts_nil))))))
  (sb_cons (ss_if (et_w (ew_or (et_cmp op_lt op2_lt (eb_var 1) ev_int.b (nomark _)) (ew_or (et_cmp op_lt op2_lt (eb_var 3) ev_int.b (nomark _)) (ew_or1 (et_cmp op_gt op2_gt (ev_add rfl (eb_var 1) (eb_var 3)).b (ev_gi T.c_MOST_USE).b (nomark _)))))) (sb_one (s_raise0 T.x_OutOfRange rfl rfl tk)) sb_nil)
  (sb_one (ss_if (et_w (ew_or (et_cmp op_lt op2_lt (eb_var 2) ev_int.b (nomark _)) (ew_or (et_cmp op_lt op2_lt (eb_var 4) ev_int.b (nomark _)) (ew_or1 (et_cmp op_gt op2_gt (ev_add rfl (eb_var 2) (eb_var 4)).b (ev_gi T.c_MOST_DAYS).b (nomark _)))))) (sb_one (s_raise0 T.x_OutOfRange rfl rfl tk)) sb_nil))))
abbrev N_check_use : List Str := ["use", "days"]
theorem sc_check_use : FnScope ["use", "days"] ["use", "days"] (defScope s_check_use) := ⟨rfl, rfl, rfl, by decide +kernel, rfl, by decide +kernel, by decide +kernel⟩
theorem ok_check_use (T : Txt K mg)  {f : Addr} {fd : FuncData} (F : Fun K "check_use" "check_use" s_check_use f fd) : FnOk P w K mg base (L2.CX P w) 1 f fd ["use", "days"] (spF ⟨K, mg⟩ 2 m_check_use) :=
  have S := sc_check_use
  fn_mk (k := 0) F sc_check_use fun cdv A outer s H H0 F0 E hr tk =>
  (sb_cons (ss_if (et_not (et_ch2 op_le op2_le op_le op2_le ev_int.b (eb_var 0) (ev_gi T.c_MOST_USE).b)) (sb_one (s_raise0 T.x_OutOfRange rfl rfl tk)) sb_nil)
  (sb_one (ss_if (et_not (et_ch2 op_le op2_le op_le op2_le ev_int.b (eb_var 1) (ev_gi T.c_MOST_DAYS).b)) (sb_one (s_raise0 T.x_OutOfRange rfl rfl tk)) sb_nil)))
abbrev N_Tariff_charge : List Str := ["self", "use", "days", "total", "last", "unit", "price"]
theorem sc_Tariff_charge : FnScope ["self", "use", "days", "total", "last", "unit", "price"] ["self", "use", "days"] (defScope s_Tariff_charge) := ⟨rfl, rfl, rfl, by decide +kernel, rfl, by decide +kernel, by decide +kernel⟩
theorem ok_Tariff_charge (T : Txt K mg) (D_check_use : FnE P w K mg base "check_use" 2 1 m_check_use) {f : Addr} {fd : FuncData} (F : Fun K "charge" "Tariff.charge" s_Tariff_charge f fd) : FnOk P w K mg base (L2.CX P w) 2 f fd ["self", "use", "days"] (spF ⟨K, mg⟩ 3 m_Tariff_charge) :=
  have S := sc_Tariff_charge
  fn_mk (k := 1) F sc_Tariff_charge fun cdv A outer s H H0 F0 E hr tk =>
  (sb_cons (ss_drop (ev_call D_check_use rfl (hr.mono (by decide)) tk (ea_cons (eb_var 1) (ea_cons (eb_var 2) ea_nil))).b)
  (sb_cons (ss_set 3 (by exact True.intro) S.nd (ev_mul (eb_fld rfl (eb_var 0)) (eb_var 2)))
  (sb_cons (ss_set 4 (by exact True.intro) S.nd ev_int)
  (sb_cons (ss_for (passes_of rfl) rfl (it_seq rfl (eb_fld rfl (eb_var 0))) (fun _ _ => (gt_tup (gl1 (gl1 gl0)) rfl rfl (gts_cons (gt_name 5 (by exact True.intro) S.nd) (gts_cons (gt_name 6 (by exact True.intro) S.nd) gts_nil)))) (fun _ _ => (sb_cons (ss_aug 3 ip_add (by exact True.intro) S.nd (ev_mul (ev_sub (eb_var 6) (eb_var 4)).b (c_max2 rfl T.b_max (ea_cons ev_int.b (ea_cons (ev_sub (eb_var 1) (ev_mul (eb_var 5) (eb_var 2)).b).b ea_nil))).b).b)
    (sb_one (ss_set 4 (by exact True.intro) S.nd (eb_var 6).v)))))
  (sb_one (ss_retV 3))))))
abbrev N_extra_charge : List Str := ["tariff", "split", "use1", "days1", "use2", "days2", "parts"]
theorem sc_extra_charge : FnScope ["tariff", "split", "use1", "days1", "use2", "days2", "parts"] ["tariff", "split"] (defScope s_extra_charge) := ⟨rfl, rfl, rfl, by decide +kernel, rfl, by decide +kernel, by decide +kernel⟩
theorem ok_extra_charge (T : Txt K mg) (D_Tariff_charge : MeH P w K mg base "Tariff" "charge" 3 2 m_Tariff_charge) {f : Addr} {fd : FuncData} (F : Fun K "extra_charge" "extra_charge" s_extra_charge f fd) : FnOk P w K mg base (L2.CX P w) 3 f fd ["tariff", "split"] (spF ⟨K, mg⟩ 2 m_extra_charge) :=
  have S := sc_extra_charge
  fn_mk (k := 2) F sc_extra_charge fun cdv A outer s H H0 F0 E hr tk =>
  (sb_cons (ss_unp (eb_var 1) (gt_tup (gl1 (gl1 (gl1 (gl1 gl0)))) rfl rfl (gts_cons (gt_name 2 (by exact True.intro) S.nd) (gts_cons (gt_name 3 (by exact True.intro) S.nd) (gts_cons (gt_name 4 (by exact True.intro) S.nd) (gts_cons (gt_name 5 (by exact True.intro) S.nd) gts_nil))))))
  (sb_cons (ss_set 6 (by exact True.intro) S.nd (ev_add rfl (c_meth D_Tariff_charge rfl (hr.mono (by decide)) tk (eb_var 0) (ea_cons (eb_var 2) (ea_cons (eb_var 3) ea_nil))).b (c_meth D_Tariff_charge rfl (hr.mono (by decide)) tk (eb_var 0) (ea_cons (eb_var 4) (ea_cons (eb_var 5) ea_nil))).b))
  (sb_one (ss_ret (ev_sub (eb_var 6) (c_meth D_Tariff_charge rfl (hr.mono (by decide)) tk (eb_var 0) (ea_cons (ev_add rfl (eb_var 2) (eb_var 4)).b (ea_cons (ev_add rfl (eb_var 3) (eb_var 5)).b ea_nil))).b)))))
abbrev N_is_saving : List Str := ["tariff", "split"]
theorem sc_is_saving : FnScope ["tariff", "split"] ["tariff", "split"] (defScope s_is_saving) := ⟨rfl, rfl, rfl, by decide +kernel, rfl, by decide +kernel, by decide +kernel⟩
theorem ok_is_saving (T : Txt K mg) (D_check_split : FnE P w K mg base "check_split" 1 1 m_check_split) (D_extra_charge : FnE P w K mg base "extra_charge" 2 3 m_extra_charge) {f : Addr} {fd : FuncData} (F : Fun K "is_saving" "is_saving" s_is_saving f fd) : FnOk P w K mg base (L2.CX P w) 4 f fd ["tariff", "split"] (spF ⟨K, mg⟩ 2 m_is_saving) :=
  have S := sc_is_saving
  fn_mk (k := 3) F sc_is_saving fun cdv A outer s H H0 F0 E hr tk =>
  (sb_cons (ss_drop (ev_call D_check_split rfl (hr.mono (by decide)) tk (ea_cons (eb_var 1) ea_nil)).b)
  (sb_one (ss_ret (ev_cmp op_lt op2_lt (ev_call D_extra_charge rfl (hr.mono (by decide)) tk (ea_cons (eb_var 0) (ea_cons (eb_var 1) ea_nil))).b ev_int.b (nomark _)))))
abbrev N_is_costly : List Str := ["tariff", "split"]
theorem sc_is_costly : FnScope ["tariff", "split"] ["tariff", "split"] (defScope s_is_costly) := ⟨rfl, rfl, rfl, by decide +kernel, rfl, by decide +kernel, by decide +kernel⟩
theorem ok_is_costly (T : Txt K mg) (D_check_split : FnE P w K mg base "check_split" 1 1 m_check_split) (D_extra_charge : FnE P w K mg base "extra_charge" 2 3 m_extra_charge) {f : Addr} {fd : FuncData} (F : Fun K "is_costly" "is_costly" s_is_costly f fd) : FnOk P w K mg base (L2.CX P w) 4 f fd ["tariff", "split"] (spF ⟨K, mg⟩ 2 m_is_costly) :=
  have S := sc_is_costly
  fn_mk (k := 3) F sc_is_costly fun cdv A outer s H H0 F0 E hr tk =>
  (sb_cons (ss_drop (ev_call D_check_split rfl (hr.mono (by decide)) tk (ea_cons (eb_var 1) ea_nil)).b)
  (sb_one (ss_ret (ev_cmp op_gt op2_gt (ev_call D_extra_charge rfl (hr.mono (by decide)) tk (ea_cons (eb_var 0) (ea_cons (eb_var 1) ea_nil))).b ev_int.b (nomark _)))))
abbrev N__law_called : List Str := ["door", "tariff", "split"]
theorem sc__law_called : FnScope ["door", "tariff", "split"] ["door", "tariff", "split"] (defScope s__law_called) := ⟨rfl, rfl, rfl, by decide +kernel, rfl, by decide +kernel, by decide +kernel⟩
theorem ok__law_called (T : Txt K mg) (D_is_saving : FnE P w K mg base "is_saving" 2 4 m_is_saving) (D_is_costly : FnE P w K mg base "is_costly" 2 4 m_is_costly) {f : Addr} {fd : FuncData} (F : Fun K "_law_called" "_law_called" s__law_called f fd) : FnOk P w K mg base (L2.CX P w) 5 f fd ["door", "tariff", "split"] (spF ⟨K, mg⟩ 3 m__law_called) :=
  have S := sc__law_called
  fn_mk (k := 4) F sc__law_called fun cdv A outer s H H0 F0 E hr tk =>
  (sb_cons (ss_try rfl rfl S.nd rfl tk T.sub (fun W' pn xe tk' hpo' => (sb_one (ss_if (et_cmp (opr_eq hr.units) op2_eq (eb_var 0) ev_int.b (nomark _)) (sb_one (ss_drop (ev_call D_is_saving rfl (hr.mono (by decide)) tk' (ea_cons (eb_var 1) (ea_cons (eb_var 2) ea_nil))).b)) (sb_one (ss_drop (ev_call D_is_costly rfl (hr.mono (by decide)) tk' (ea_cons (eb_var 1) (ea_cons (eb_var 2) ea_nil))).b))))) (hd_cons T.n_OutOfRange (fun fs G' C a oe d pn hT' hp hx hz hf hC => (sb_one (ss_ret ev_str))) (hd_cons T.n_MeterError (fun fs G' C a oe d pn hT' hp hx hz hf hC => (sb_one (ss_ret ev_str))) hd_nil)))
  (sb_one (ss_ret ev_str)))
abbrev N__law_refused : List Str := ["row", "tariff", "far", "wrong", "door", "split"]
theorem sc__law_refused : FnScope ["row", "tariff", "far", "wrong", "door", "split"] ["row", "tariff"] (defScope s__law_refused) := ⟨rfl, rfl, rfl, by decide +kernel, rfl, by decide +kernel, by decide +kernel⟩
theorem ok__law_refused (T : Txt K mg) (D__law_at : FnE P w K mg base "_law_at" 3 1 m__law_at) (D__law_called : FnE P w K mg base "_law_called" 3 5 m__law_called) {f : Addr} {fd : FuncData} (F : Fun K "_law_refused" "_law_refused" s__law_refused f fd) : FnOk P w K mg base (L2.CX P w) 6 f fd ["row", "tariff"] (spF ⟨K, mg⟩ 2 m__law_refused) :=
  have S := sc__law_refused
  fn_mk (k := 5) F sc__law_refused fun cdv A outer s H H0 F0 E hr tk =>
  (sb_cons (ss_set 2 (by exact True.intro) S.nd (ev_mul (ev_call D__law_at rfl (hr.mono (by decide)) tk (ea_cons (eb_var 0) (ea_cons ev_int.b (ea_cons ev_int.b ea_nil)))).b (ev_call D__law_at rfl (hr.mono (by decide)) tk (ea_cons (eb_var 0) (ea_cons ev_int.b (ea_cons ev_int.b ea_nil)))).b))
  (sb_cons (ss_set 3 (by exact True.intro) S.nd (ev_lst (eav_cons (ev_tup (eav_cons (ev_sub (ev_neg ev_int.b).b (eb_var 2)) (eav_cons ev_int (eav_cons ev_int (eav_cons ev_int eav_nil))))) (eav_cons (ev_tup (eav_cons (ev_add rfl ev_int.b (eb_var 2)) (eav_cons ev_int (eav_cons (ev_neg ev_int.b) (eav_cons ev_int eav_nil))))) (eav_cons (ev_tup (eav_cons ev_int (eav_cons ev_int (eav_cons ev_int (eav_cons ev_int eav_nil))))) (eav_cons (ev_tup (eav_cons ev_int (eav_cons ev_int (eav_cons ev_int (eav_cons (ev_neg (eb_var 2)) eav_nil))))) (eav_cons (ev_tup (eav_cons (ev_add rfl ev_int.b (eb_var 2)) (eav_cons ev_int (eav_cons ev_int (eav_cons ev_int eav_nil))))) eav_nil)))))))
  (sb_cons (ss_set 3 (by exact True.intro) S.nd (ev_add rfl (eb_var 3) (ev_lst (eav_cons (ev_tup (eav_cons (eb_var 2).v (eav_cons ev_int (eav_cons (ev_sub ev_int.b (eb_var 2)) (eav_cons ev_int eav_nil))))) (eav_cons (ev_tup (eav_cons ev_int (eav_cons ev_int (eav_cons ev_int (eav_cons ev_int eav_nil))))) (eav_cons (ev_tup (eav_cons ev_int (eav_cons (ev_add rfl ev_int.b (eb_var 2)) (eav_cons ev_int (eav_cons ev_int eav_nil))))) (eav_cons (ev_tup (eav_cons (ev_neg ev_int.b) (eav_cons ev_int (eav_cons ev_int (eav_cons ev_int eav_nil))))) eav_nil))))).b))
  (sb_cons (ss_for (passes_of rfl) rfl (it_rng1 T.b_range (ea_cons ev_int.b ea_nil)) (fun _ _ => (gt_name 4 (by exact True.intro) S.nd)) (fun _ _ => (sb_frz 3 (sb_cons (ss_for (passes_of rfl) rfl (it_seq rfl (eb_var 3)) (fun _ _ => (gt_name 5 (by exact True.intro) S.nd)) (fun _ _ => (sb_one (ss_if (et_cmp (opr_ne hr.units) op2_ne (ev_call D__law_called rfl (hr.mono (by decide)) tk (ea_cons (eb_var 4) (ea_cons (eb_var 1) (ea_cons (eb_var 5) ea_nil)))).b ev_str.b (nomark _)) (sb_one (ss_ret ev_bl)) sb_nil))))
    (sb_one (ss_if (et_cmp (opr_ne hr.units) op2_ne (ev_call D__law_called rfl (hr.mono (by decide)) tk (ea_cons (eb_var 4) (ea_cons (eb_var 1) (ea_cons (eb_tup (ea_cons (eb_var 2) (ea_cons ev_int.b (ea_cons (ev_sub ev_int.b (eb_var 2)).b (ea_cons ev_int.b ea_nil))))) ea_nil)))).b ev_str.b (nomark _)) (sb_one (ss_ret ev_bl)) sb_nil))))))
  (sb_one (ss_ret ev_bl))))))
abbrev N__law_cell : List Str := ["script", "k"]
theorem sc__law_cell : FnScope ["script", "k"] ["script", "k"] (defScope s__law_cell) := ⟨rfl, rfl, rfl, by decide +kernel, rfl, by decide +kernel, by decide +kernel⟩
theorem ok__law_cell (T : Txt K mg)  {f : Addr} {fd : FuncData} (F : Fun K "_law_cell" "_law_cell" s__law_cell f fd) : FnOk P w K mg base (L2.CX P w) 1 f fd ["script", "k"] (spF ⟨K, mg⟩ 2 m__law_cell) :=
  have S := sc__law_cell
  fn_mk (k := 0) F sc__law_cell fun cdv A outer s H H0 F0 E hr tk =>
  (sb_cons (ss_if (et_cmp op_lt op2_lt (eb_var 1) (c_len rfl T.b_len (ea_cons (eb_var 0) ea_nil)).b (nomark _)) (sb_one (ss_ret (eb_ix rfl (eb_var 0) (eb_var 1)).v)) sb_nil)
  (sb_one (ss_ret ev_int)))
abbrev N__law_is_whole : List Str := ["value"]
theorem sc__law_is_whole : FnScope ["value"] ["value"] (defScope s__law_is_whole) := ⟨rfl, rfl, rfl, by decide +kernel, rfl, by decide +kernel, by decide +kernel⟩
theorem ok__law_is_whole (T : Txt K mg)  {f : Addr} {fd : FuncData} (F : Fun K "_law_is_whole" "_law_is_whole" s__law_is_whole f fd) : FnOk P w K mg base (L2.CX P w) 1 f fd ["value"] (spF ⟨K, mg⟩ 1 m__law_is_whole) :=
  have S := sc__law_is_whole
  fn_mk (k := 0) F sc__law_is_whole fun cdv A outer s H H0 F0 E hr tk =>
  (sb_one (ss_ret (ev_and (ev_isi rfl T.b_isinstance T.b_int PyProof.Rows.boot_int (eb_var 0) (by decide)) (ev_one (ev_not rfl (ev_isi rfl T.b_isinstance T.b_bool PyProof.Rows.boot_bool (eb_var 0) (by decide)).b)))))
abbrev N__law_told : List Str := ["told", "word", "steps", "at", "one"]
theorem sc__law_told : FnScope ["told", "word", "steps", "at", "one"] ["told", "word", "steps", "at"] (defScope s__law_told) := ⟨rfl, rfl, rfl, by decide +kernel, rfl, by decide +kernel, by decide +kernel⟩
theorem ok__law_told (T : Txt K mg) (D__law_is_whole : FnE P w K mg base "_law_is_whole" 1 1 m__law_is_whole) {f : Addr} {fd : FuncData} (F : Fun K "_law_told" "_law_told" s__law_told f fd) : FnOk P w K mg base (L2.CX P w) 2 f fd ["told", "word", "steps", "at"] (spF ⟨K, mg⟩ 4 m__law_told) :=
  have S := sc__law_told
  fn_mk (k := 1) F sc__law_told fun cdv A outer s H H0 F0 E hr tk =>
  (sb_cons (ss_if (et_w (ew_or (et_not (et_val rfl (ev_isi rfl T.b_isinstance T.b_tuple PyProof.Rows.boot_tuple (eb_var 0) (by decide)).b)) (ew_or1 (et_cmp (opr_ne hr.units) op2_ne (c_len rfl T.b_len (ea_cons (eb_var 0) ea_nil)).b ev_int.b (nomark _))))) (sb_one (ss_ret ev_bl)) sb_nil)
  (sb_cons (ss_if (et_cmp (opr_eq hr.units) op2_eq (eb_var 3) ev_int.b (nomark _)) (sb_one (ss_ret (ev_cmp (opr_eq hr.units) op2_eq (eb_var 0) (eb_tup (ea_cons ev_str.b (ea_cons ev_non.b ea_nil))) (nomark _)))) sb_nil)
  (sb_cons (ss_if (et_w (ew_or (et_cmp (opr_ne hr.units) op2_ne (eb_ix rfl (eb_var 0) ev_int.b) (eb_var 1) (nomark _)) (ew_or (et_not (et_val rfl (ev_isi rfl T.b_isinstance T.b_tuple PyProof.Rows.boot_tuple (eb_ix rfl (eb_var 0) ev_int.b) (by decide)).b)) (ew_or1 (et_cmp (opr_ne hr.units) op2_ne (c_len rfl T.b_len (ea_cons (eb_ix rfl (eb_var 0) ev_int.b) ea_nil)).b ev_int.b (nomark _)))))) (sb_one (ss_ret ev_bl)) sb_nil)
  (sb_cons (ss_if (et_cmp op_gt op2_gt (c_len rfl T.b_len (ea_cons (ev_comp [("one", 4)] (fun v hv => by exact True.intro) rfl S.nd (it_seq rfl (eb_ix rfl (eb_var 0) ev_int.b)) (blkOk_by (N := N__law_told) (sc := defScope s__law_told) (by decide +kernel)) (fun _ _ _ _ _ => (gt_name 4 (by exact True.intro) S.nd)) (fun _ _ _ _ _ => (ec_one (et_not (et_val rfl (ev_call D__law_is_whole rfl (hr.mono (by decide)) takes0 (ea_cons (eb_var 4) ea_nil)).b)))) (fun _ _ _ _ _ => (eb_var 4).v)).b ea_nil)).b ev_int.b (nomark _)) (sb_one (ss_ret ev_bl)) sb_nil)
  (sb_one (ss_ret (ev_cmp (opr_eq hr.units) op2_eq (eb_ix rfl (eb_var 0) ev_int.b) (eb_tup (ea_cons (ev_sub (eb_ix rfl (eb_ix rfl (eb_var 2) (eb_var 3)) ev_int.b) ev_int.b).b (ea_cons ev_int.b (ea_cons (ev_add rfl (eb_ix rfl (eb_ix rfl (eb_var 2) (eb_var 3)) ev_int.b) ev_int.b).b (ea_cons ev_int.b ea_nil))))) (nomark _))))))))
abbrev N__law_lines : List Str := ["standing", "steps", "days", "use", "lines", "k", "end"]
theorem sc__law_lines : FnScope ["standing", "steps", "days", "use", "lines", "k", "end"] ["standing", "steps", "days", "use"] (defScope s__law_lines) := ⟨rfl, rfl, rfl, by decide +kernel, rfl, by decide +kernel, by decide +kernel⟩
theorem ok__law_lines (T : Txt K mg)  {f : Addr} {fd : FuncData} (F : Fun K "_law_lines" "_law_lines" s__law_lines f fd) : FnOk P w K mg base (L2.CX P w) 1 f fd ["standing", "steps", "days", "use"] (spF ⟨K, mg⟩ 4 m__law_lines) :=
  have S := sc__law_lines
  fn_mk (k := 0) F sc__law_lines fun cdv A outer s H H0 F0 E hr tk =>
  (sb_cons (ss_set 4 (by exact True.intro) S.nd (ev_lst (eav_cons (ev_tup (eav_cons (eb_var 2).v (eav_cons (eb_var 0).v eav_nil))) eav_nil)))
  (sb_cons (ss_for (passes_of rfl) rfl (it_rng1 T.b_range (ea_cons (c_len rfl T.b_len (ea_cons (eb_var 1) ea_nil)).b ea_nil)) (fun _ _ => (gt_name 5 (by exact True.intro) S.nd)) (fun _ _ => (sb_cons (ss_set 6 (by exact True.intro) S.nd (eb_var 3).v)
    (sb_cons (ss_if (et_cmp op_lt op2_lt (ev_add rfl (eb_var 5) ev_int.b).b (c_len rfl T.b_len (ea_cons (eb_var 1) ea_nil)).b (nomark _)) (sb_one (ss_set 6 (by exact True.intro) S.nd (c_min2 rfl T.b_min (ea_cons (eb_var 3) (ea_cons (ev_mul (eb_ix rfl (eb_ix rfl (eb_var 1) (ev_add rfl (eb_var 5) ev_int.b).b) ev_int.b) (eb_var 2)).b ea_nil))))) sb_nil)
    (sb_one (ss_if (et_cmp op_gt op2_gt (eb_var 6) (ev_mul (eb_ix rfl (eb_ix rfl (eb_var 1) (eb_var 5)) ev_int.b) (eb_var 2)).b (nomark _)) (sb_one (ss_app 4 rfl (ev_tup (eav_cons (ev_sub (eb_var 6) (ev_mul (eb_ix rfl (eb_ix rfl (eb_var 1) (eb_var 5)) ev_int.b) (eb_var 2)).b) (eav_cons (eb_ix rfl (eb_ix rfl (eb_var 1) (eb_var 5)) ev_int.b).v eav_nil))))) sb_nil))))))
  (sb_one (ss_retV 4))))
abbrev N__law_charge : List Str := ["standing", "steps", "days", "use", "one"]
theorem sc__law_charge : FnScope ["standing", "steps", "days", "use", "one"] ["standing", "steps", "days", "use"] (defScope s__law_charge) := ⟨rfl, rfl, rfl, by decide +kernel, rfl, by decide +kernel, by decide +kernel⟩
theorem ok__law_charge (T : Txt K mg) (D__law_lines : FnE P w K mg base "_law_lines" 4 1 m__law_lines) {f : Addr} {fd : FuncData} (F : Fun K "_law_charge" "_law_charge" s__law_charge f fd) : FnOk P w K mg base (L2.CX P w) 2 f fd ["standing", "steps", "days", "use"] (spF ⟨K, mg⟩ 4 m__law_charge) :=
  have S := sc__law_charge
  fn_mk (k := 1) F sc__law_charge fun cdv A outer s H H0 F0 E hr tk =>
  (sb_one (ss_ret (c_sum rfl rfl T.b_sum (ea_cons (ev_comp [("one", 4)] (fun v hv => by exact True.intro) rfl S.nd (it_new rfl (ev_call D__law_lines rfl (hr.mono (by decide)) tk (ea_cons (eb_var 0) (ea_cons (eb_var 1) (ea_cons (eb_var 2) (ea_cons (eb_var 3) ea_nil)))))) (blkOk_by (N := N__law_charge) (sc := defScope s__law_charge) (by decide +kernel)) (fun _ _ _ _ _ => (gt_name 4 (by exact True.intro) S.nd)) (fun _ _ _ _ _ => ec_nil) (fun _ _ _ _ _ => (ev_mul (eb_ix rfl (eb_var 4) ev_int.b) (eb_ix rfl (eb_var 4) ev_int.b)))).b ea_nil))))
abbrev N__law_extra : List Str := ["standing", "steps", "split", "parts"]
theorem sc__law_extra : FnScope ["standing", "steps", "split", "parts"] ["standing", "steps", "split"] (defScope s__law_extra) := ⟨rfl, rfl, rfl, by decide +kernel, rfl, by decide +kernel, by decide +kernel⟩
theorem ok__law_extra (T : Txt K mg) (D__law_charge : FnE P w K mg base "_law_charge" 4 2 m__law_charge) {f : Addr} {fd : FuncData} (F : Fun K "_law_extra" "_law_extra" s__law_extra f fd) : FnOk P w K mg base (L2.CX P w) 3 f fd ["standing", "steps", "split"] (spF ⟨K, mg⟩ 3 m__law_extra) :=
  have S := sc__law_extra
  fn_mk (k := 2) F sc__law_extra fun cdv A outer s H H0 F0 E hr tk =>
  (sb_cons (ss_set 3 (by exact True.intro) S.nd (ev_add rfl (ev_call D__law_charge rfl (hr.mono (by decide)) tk (ea_cons (eb_var 0) (ea_cons (eb_var 1) (ea_cons (eb_ix rfl (eb_var 2) ev_int.b) (ea_cons (eb_ix rfl (eb_var 2) ev_int.b) ea_nil))))).b (ev_call D__law_charge rfl (hr.mono (by decide)) tk (ea_cons (eb_var 0) (ea_cons (eb_var 1) (ea_cons (eb_ix rfl (eb_var 2) ev_int.b) (ea_cons (eb_ix rfl (eb_var 2) ev_int.b) ea_nil))))).b))
  (sb_one (ss_ret (ev_sub (eb_var 3) (ev_call D__law_charge rfl (hr.mono (by decide)) tk (ea_cons (eb_var 0) (ea_cons (eb_var 1) (ea_cons (ev_add rfl (eb_ix rfl (eb_var 2) ev_int.b) (eb_ix rfl (eb_var 2) ev_int.b)).b (ea_cons (ev_add rfl (eb_ix rfl (eb_var 2) ev_int.b) (eb_ix rfl (eb_var 2) ev_int.b)).b ea_nil))))).b))))
abbrev N__law_judged : List Str := ["tariff", "standing", "steps", "split", "falls", "rises", "extra", "saving", "costly"]
theorem sc__law_judged : FnScope ["tariff", "standing", "steps", "split", "falls", "rises", "extra", "saving", "costly"] ["tariff", "standing", "steps", "split", "falls", "rises"] (defScope s__law_judged) := ⟨rfl, rfl, rfl, by decide +kernel, rfl, by decide +kernel, by decide +kernel⟩
theorem ok__law_judged (T : Txt K mg) (D__law_extra : FnE P w K mg base "_law_extra" 3 3 m__law_extra) (D_is_saving : FnE P w K mg base "is_saving" 2 4 m_is_saving) (D_is_costly : FnE P w K mg base "is_costly" 2 4 m_is_costly) {f : Addr} {fd : FuncData} (F : Fun K "_law_judged" "_law_judged" s__law_judged f fd) : FnOk P w K mg base (L2.CX P w) 5 f fd ["tariff", "standing", "steps", "split", "falls", "rises"] (spF ⟨K, mg⟩ 6 m__law_judged) :=
  have S := sc__law_judged
  fn_mk (k := 4) F sc__law_judged fun cdv A outer s H H0 F0 E hr tk =>
  (sb_cons (ss_set 6 (by exact True.intro) S.nd (ev_call D__law_extra rfl (hr.mono (by decide)) tk (ea_cons (eb_var 1) (ea_cons (eb_var 2) (ea_cons (eb_var 3) ea_nil)))))
  (sb_cons (ss_if (et_w (ew_or (et_w (ew_and (et_cmp op_lt op2_lt (eb_var 6) ev_int.b (nomark _)) (ew_and1 (et_cmp (opr_eq hr.units) op2_eq (eb_var 4) ev_int.b (nomark _))))) (ew_or1 (et_w (ew_and (et_cmp op_gt op2_gt (eb_var 6) ev_int.b (nomark _)) (ew_and1 (et_cmp (opr_eq hr.units) op2_eq (eb_var 5) ev_int.b (nomark _)))))))) (sb_one (ss_ret ev_bl)) sb_nil)
  (sb_cons (ss_set 7 (by exact True.intro) S.nd (ev_call D_is_saving rfl (hr.mono (by decide)) tk (ea_cons (eb_var 0) (ea_cons (eb_var 3) ea_nil))))
  (sb_cons (ss_set 8 (by exact True.intro) S.nd (ev_call D_is_costly rfl (hr.mono (by decide)) tk (ea_cons (eb_var 0) (ea_cons (eb_var 3) ea_nil))))
  (sb_cons (ss_if (et_w (ew_or (et_not (et_val rfl (ev_isi rfl T.b_isinstance T.b_bool PyProof.Rows.boot_bool (eb_var 7) (by decide)).b)) (ew_or1 (et_not (et_val rfl (ev_isi rfl T.b_isinstance T.b_bool PyProof.Rows.boot_bool (eb_var 8) (by decide)).b))))) (sb_one (ss_ret ev_bl)) sb_nil)
  (sb_one (ss_ret (ev_and (ev_cmp (opr_eq hr.units) op2_eq (eb_var 7) (ev_cmp op_lt op2_lt (eb_var 6) ev_int.b (nomark _)).b (nomark _)) (ev_one (ev_cmp (opr_eq hr.units) op2_eq (eb_var 8) (ev_cmp op_gt op2_gt (eb_var 6) ev_int.b (nomark _)).b (nomark _)))))))))))
abbrev N_split_at : List Str := ["unit"]
theorem sc_split_at : FnScope ["unit"] ["unit"] (defScope s_split_at) := ⟨rfl, rfl, rfl, by decide +kernel, rfl, by decide +kernel, by decide +kernel⟩
theorem ok_split_at (T : Txt K mg)  {f : Addr} {fd : FuncData} (F : Fun K "split_at" "split_at" s_split_at f fd) : FnOk P w K mg base (L2.CX P w) 1 f fd ["unit"] (spF ⟨K, mg⟩ 1 m_split_at) :=
  have S := sc_split_at
  fn_mk (k := 0) F sc_split_at fun cdv A outer s H H0 F0 E hr tk =>
  (sb_one (ss_ret (ev_tup (eav_cons (ev_sub (eb_var 0) ev_int.b) (eav_cons ev_int (eav_cons (ev_add rfl (eb_var 0) ev_int.b) (eav_cons ev_int eav_nil)))))))
abbrev N_split_saves : List Str := ["tariff", "k"]
theorem sc_split_saves : FnScope ["tariff", "k"] ["tariff"] (defScope s_split_saves) := ⟨rfl, rfl, rfl, by decide +kernel, rfl, by decide +kernel, by decide +kernel⟩
theorem ok_split_saves (T : Txt K mg) (D_split_at : FnE P w K mg base "split_at" 1 1 m_split_at) {f : Addr} {fd : FuncData} (F : Fun K "split_saves" "split_saves" s_split_saves f fd) : FnOk P w K mg base (L2.CX P w) 2 f fd ["tariff"] (spF ⟨K, mg⟩ 1 m_split_saves) :=
  have S := sc_split_saves
  fn_mk (k := 1) F sc_split_saves fun cdv A outer s H H0 F0 E hr tk =>
  (sb_cons (ss_for (passes_of rfl) rfl (it_rng2 T.b_range (ea_cons ev_int.b (ea_cons (c_len rfl T.b_len (ea_cons (eb_fld rfl (eb_var 0)) ea_nil)).b ea_nil))) (fun _ _ => (gt_name 1 (by exact True.intro) S.nd)) (fun _ _ => (sb_one (ss_if (et_cmp op_lt op2_lt (eb_ix rfl (eb_ix rfl (eb_fld rfl (eb_var 0)) (eb_var 1)) ev_int.b) (eb_ix rfl (eb_ix rfl (eb_fld rfl (eb_var 0)) (ev_sub (eb_var 1) ev_int.b).b) ev_int.b) (nomark _)) (sb_one (ss_ret (ev_tup (eav_cons ev_str (eav_cons (ev_call D_split_at rfl (hr.mono (by decide)) tk (ea_cons (eb_ix rfl (eb_ix rfl (eb_fld rfl (eb_var 0)) (eb_var 1)) ev_int.b) ea_nil)) eav_nil))))) sb_nil))))
  (sb_one (ss_ret (ev_tup (eav_cons ev_str (eav_cons ev_non eav_nil))))))
abbrev N_split_costs : List Str := ["tariff", "k"]
theorem sc_split_costs : FnScope ["tariff", "k"] ["tariff"] (defScope s_split_costs) := ⟨rfl, rfl, rfl, by decide +kernel, rfl, by decide +kernel, by decide +kernel⟩
theorem ok_split_costs (T : Txt K mg) (D_split_at : FnE P w K mg base "split_at" 1 1 m_split_at) {f : Addr} {fd : FuncData} (F : Fun K "split_costs" "split_costs" s_split_costs f fd) : FnOk P w K mg base (L2.CX P w) 2 f fd ["tariff"] (spF ⟨K, mg⟩ 1 m_split_costs) :=
  have S := sc_split_costs
  fn_mk (k := 1) F sc_split_costs fun cdv A outer s H H0 F0 E hr tk =>
  (sb_cons (ss_for (passes_of rfl) rfl (it_rng2 T.b_range (ea_cons ev_int.b (ea_cons (c_len rfl T.b_len (ea_cons (eb_fld rfl (eb_var 0)) ea_nil)).b ea_nil))) (fun _ _ => (gt_name 1 (by exact True.intro) S.nd)) (fun _ _ => (sb_one (ss_if (et_cmp op_gt op2_gt (eb_ix rfl (eb_ix rfl (eb_fld rfl (eb_var 0)) (eb_var 1)) ev_int.b) (eb_ix rfl (eb_ix rfl (eb_fld rfl (eb_var 0)) (ev_sub (eb_var 1) ev_int.b).b) ev_int.b) (nomark _)) (sb_one (ss_ret (ev_tup (eav_cons ev_str (eav_cons (ev_call D_split_at rfl (hr.mono (by decide)) tk (ea_cons (eb_ix rfl (eb_ix rfl (eb_fld rfl (eb_var 0)) (eb_var 1)) ev_int.b) ea_nil)) eav_nil))))) sb_nil))))
  (sb_one (ss_ret (ev_tup (eav_cons ev_str (eav_cons ev_non eav_nil))))))
abbrev N_law : List Str := ["script", "row", "count", "wide", "standing", "steps", "tariff", "falls", "one", "rises", "more", "split"]
theorem sc_law : FnScope ["script", "row", "count", "wide", "standing", "steps", "tariff", "falls", "one", "rises", "more", "split"] ["script"] (defScope s_law) := ⟨rfl, rfl, rfl, by decide +kernel, rfl, by decide +kernel, by decide +kernel⟩
theorem ok_law (T : Txt K mg) (D__law_cell : FnE P w K mg base "_law_cell" 2 1 m__law_cell) (D__law_row : FnE P w K mg base "_law_row" 2 1 m__law_row) (D__law_at : FnE P w K mg base "_law_at" 3 1 m__law_at) (D__law_steps : FnE P w K mg base "_law_steps" 5 2 m__law_steps) (D_Tariff : MkH P w K mg base "Tariff" 2 4 m_Tariff___init__) (D__law_first_fall : FnE P w K mg base "_law_first_fall" 1 1 m__law_first_fall) (D_split_saves : FnE P w K mg base "split_saves" 1 2 m_split_saves) (D__law_told : FnE P w K mg base "_law_told" 4 2 m__law_told) (D_split_costs : FnE P w K mg base "split_costs" 1 2 m_split_costs) (D_is_saving : FnE P w K mg base "is_saving" 2 4 m_is_saving) (D_is_costly : FnE P w K mg base "is_costly" 2 4 m_is_costly) (D__law_splits : FnE P w K mg base "_law_splits" 2 3 m__law_splits) (D__law_judged : FnE P w K mg base "_law_judged" 6 5 m__law_judged) (D__law_refused : FnE P w K mg base "_law_refused" 2 6 m__law_refused) {f : Addr} {fd : FuncData} (F : Fun K "law" "law" s_law f fd) : FnOk P w K mg base (L2.CX P w) 7 f fd ["script"] (spF ⟨K, mg⟩ 1 m_law) :=
  have S := sc_law
  fn_mk (k := 6) F sc_law fun cdv A outer s H H0 F0 E hr tk =>
  (sb_cons (ss_set 1 (by exact True.intro) S.nd (ev_call D__law_row rfl (hr.mono (by decide)) tk (ea_cons (ev_call D__law_cell rfl (hr.mono (by decide)) tk (ea_cons (eb_var 0) (ea_cons ev_int.b ea_nil))).b (ea_cons ev_int.b ea_nil))))
  (sb_cons (ss_set 2 (by exact True.intro) S.nd (ev_add rfl (ev_call D__law_at rfl (hr.mono (by decide)) tk (ea_cons (eb_var 1) (ea_cons ev_int.b (ea_cons ev_int.b ea_nil)))).b ev_int.b))
  (sb_cons (ss_set 3 (by exact True.intro) S.nd (ev_call D__law_at rfl (hr.mono (by decide)) tk (ea_cons (eb_var 1) (ea_cons ev_int.b (ea_cons ev_int.b ea_nil)))))
  (sb_cons (ss_set 4 (by exact True.intro) S.nd (ev_call D__law_at rfl (hr.mono (by decide)) tk (ea_cons (eb_var 1) (ea_cons ev_int.b (ea_cons (eb_ix rfl (eb_lst (ea_cons ev_int.b (ea_cons ev_int.b ea_nil))) (eb_var 3)) ea_nil)))))
  (sb_cons (ss_set 5 (by exact True.intro) S.nd (ev_call D__law_steps rfl (hr.mono (by decide)) tk (ea_cons (eb_var 1) (ea_cons ev_int.b (ea_cons (eb_var 2) (ea_cons (eb_var 3) (ea_cons (ev_call D__law_at rfl (hr.mono (by decide)) tk (ea_cons (eb_var 1) (ea_cons ev_int.b (ea_cons ev_int.b ea_nil)))).b ea_nil)))))))
  (sb_frz 5 (sb_cons (ss_set 6 (by exact True.intro) S.nd (c_make D_Tariff rfl (hr.mono (by decide)) tk (ea_cons (eb_var 4) (ea_cons (eb_var 5) ea_nil))))
  (sb_cons (ss_set 7 (by exact True.intro) S.nd (ev_call D__law_first_fall rfl (hr.mono (by decide)) tk (ea_cons (ev_comp [("one", 8)] (fun v hv => by exact True.intro) rfl S.nd (it_seq rfl (eb_var 5)) (blkOk_by (N := N_law) (sc := defScope s_law) (by decide +kernel)) (fun _ _ _ _ _ => (gt_name 8 (by exact True.intro) S.nd)) (fun _ _ _ _ _ => ec_nil) (fun _ _ _ _ _ => (eb_ix rfl (eb_var 8) ev_int.b).v)).b ea_nil)))
  (sb_cons (ss_set 9 (by exact True.intro) S.nd (ev_call D__law_first_fall rfl (hr.mono (by decide)) tk (ea_cons (ev_comp [("one", 8)] (fun v hv => by exact True.intro) rfl S.nd (it_seq rfl (eb_var 5)) (blkOk_by (N := N_law) (sc := defScope s_law) (by decide +kernel)) (fun _ _ _ _ _ => (gt_name 8 (by exact True.intro) S.nd)) (fun _ _ _ _ _ => ec_nil) (fun _ _ _ _ _ => (ev_neg (eb_ix rfl (eb_var 8) ev_int.b)))).b ea_nil)))
  (sb_cons (ss_if (et_w (ew_or (et_not (et_val rfl (ev_call D__law_told rfl (hr.mono (by decide)) tk (ea_cons (ev_call D_split_saves rfl (hr.mono (by decide)) tk (ea_cons (eb_var 6) ea_nil)).b (ea_cons ev_str.b (ea_cons (eb_var 5) (ea_cons (eb_var 7) ea_nil))))).b)) (ew_or1 (et_not (et_val rfl (ev_call D__law_told rfl (hr.mono (by decide)) tk (ea_cons (ev_call D_split_costs rfl (hr.mono (by decide)) tk (ea_cons (eb_var 6) ea_nil)).b (ea_cons ev_str.b (ea_cons (eb_var 5) (ea_cons (eb_var 9) ea_nil))))).b))))) (sb_one (ss_ret ev_bl)) sb_nil)
  (sb_cons (ss_if (et_w (ew_and (et_cmp op_gt op2_gt (eb_var 7) ev_int.b (nomark _)) (ew_and1 (et_w (ew_or (et_cmp opr_isNot op2_isNot (ev_call D_is_saving rfl (hr.mono (by decide)) tk (ea_cons (eb_var 6) (ea_cons (eb_ix rfl (ev_call D_split_saves rfl (hr.mono (by decide)) tk (ea_cons (eb_var 6) ea_nil)).b ev_int.b) ea_nil))).b ev_bl.b (nomark _)) (ew_or1 (et_cmp opr_isNot op2_isNot (ev_call D_is_costly rfl (hr.mono (by decide)) tk (ea_cons (eb_var 6) (ea_cons (eb_ix rfl (ev_call D_split_saves rfl (hr.mono (by decide)) tk (ea_cons (eb_var 6) ea_nil)).b ev_int.b) ea_nil))).b ev_bl.b (nomark _)))))))) (sb_one (ss_ret ev_bl)) sb_nil)
  (sb_cons (ss_if (et_w (ew_and (et_cmp op_gt op2_gt (eb_var 9) ev_int.b (nomark _)) (ew_and1 (et_w (ew_or (et_cmp opr_isNot op2_isNot (ev_call D_is_costly rfl (hr.mono (by decide)) tk (ea_cons (eb_var 6) (ea_cons (eb_ix rfl (ev_call D_split_costs rfl (hr.mono (by decide)) tk (ea_cons (eb_var 6) ea_nil)).b ev_int.b) ea_nil))).b ev_bl.b (nomark _)) (ew_or1 (et_cmp opr_isNot op2_isNot (ev_call D_is_saving rfl (hr.mono (by decide)) tk (ea_cons (eb_var 6) (ea_cons (eb_ix rfl (ev_call D_split_costs rfl (hr.mono (by decide)) tk (ea_cons (eb_var 6) ea_nil)).b ev_int.b) ea_nil))).b ev_bl.b (nomark _)))))))) (sb_one (ss_ret ev_bl)) sb_nil)
  (sb_cons (ss_set 10 (by exact True.intro) S.nd (ev_call D__law_row rfl (hr.mono (by decide)) tk (ea_cons (ev_add rfl (ev_call D__law_cell rfl (hr.mono (by decide)) tk (ea_cons (eb_var 0) (ea_cons ev_int.b ea_nil))).b (ev_mul ev_int.b (ev_call D__law_cell rfl (hr.mono (by decide)) tk (ea_cons (eb_var 0) (ea_cons ev_int.b ea_nil))).b).b).b (ea_cons ev_int.b ea_nil))))
  (sb_cons (ss_for (passes_of rfl) rfl (it_new rfl (ev_call D__law_splits rfl (hr.mono (by decide)) tk (ea_cons (eb_var 10) (ea_cons (eb_var 5) ea_nil)))) (fun _ _ => (gt_name 11 (by exact True.intro) S.nd)) (fun _ _ => (sb_one (ss_if (et_not (et_val rfl (ev_call D__law_judged rfl (hr.mono (by decide)) tk (ea_cons (eb_var 6) (ea_cons (eb_var 4) (ea_cons (eb_var 5) (ea_cons (eb_var 11) (ea_cons (eb_var 7) (ea_cons (eb_var 9) ea_nil))))))).b)) (sb_one (ss_ret ev_bl)) sb_nil))))
  (sb_one (ss_ret (ev_call D__law_refused rfl (hr.mono (by decide)) tk (ea_cons (ev_cut rfl (eb_var 1) (eo_some ev_int.b) (eo_some ev_int.b)).b (ea_cons (eb_var 6) ea_nil)))))))))))))))))))
theorem all_ok (T : Txt K mg) (d__law_row : DefH K mg "_law_row" s__law_row) (d__law_at : DefH K mg "_law_at" s__law_at) (d__law_steps : DefH K mg "_law_steps" s__law_steps) (d_TooMany : XnT K mg "TooMany" "TooMany.__init__" s_TooMany___init__ ["limit"]) (d_check_steps : DefH K mg "check_steps" s_check_steps) (d_Tariff___init__ : IniH K mg "Tariff" "Tariff.__init__" s_Tariff___init__) (d__law_first_fall : DefH K mg "_law_first_fall" s__law_first_fall) (d__law_use : DefH K mg "_law_use" s__law_use) (d__law_splits : DefH K mg "_law_splits" s__law_splits) (d_check_split : DefH K mg "check_split" s_check_split) (d_check_use : DefH K mg "check_use" s_check_use) (d_Tariff_charge : MthH K mg "Tariff" "charge" "Tariff.charge" s_Tariff_charge) (d_extra_charge : DefH K mg "extra_charge" s_extra_charge) (d_is_saving : DefH K mg "is_saving" s_is_saving) (d_is_costly : DefH K mg "is_costly" s_is_costly) (d__law_called : DefH K mg "_law_called" s__law_called) (d__law_refused : DefH K mg "_law_refused" s__law_refused) (d__law_cell : DefH K mg "_law_cell" s__law_cell) (d__law_is_whole : DefH K mg "_law_is_whole" s__law_is_whole) (d__law_told : DefH K mg "_law_told" s__law_told) (d__law_lines : DefH K mg "_law_lines" s__law_lines) (d__law_charge : DefH K mg "_law_charge" s__law_charge) (d__law_extra : DefH K mg "_law_extra" s__law_extra) (d__law_judged : DefH K mg "_law_judged" s__law_judged) (d_split_at : DefH K mg "split_at" s_split_at) (d_split_saves : DefH K mg "split_saves" s_split_saves) (d_split_costs : DefH K mg "split_costs" s_split_costs) (d_law : DefH K mg "law" s_law) {fa : Addr} (hfa : mg "law" = some (.ref fa)) (hm : ∀ ns : List Int, ns.length ≤ 63 → m_law [.scr ns] = .ok (.bl true)) :
    ∃ fd : FuncData, (∀ (s : Shared) (u : Value), BindsTo s fd ⟨[u], []⟩ [("script", u)]) ∧ ∀ base : Heap, K.In base → base.Ns mainGlobals mg → FnOk P w K mg base (L2.CX P w) 7 fa fd ["script"] (spLaw ⟨K, mg⟩) := by
  refine law_of d_law hfa (fun _ _ _ _ _ _ _ _ => .of_eq rfl) hm fun base hb1 hb2 {f fd} F => ?_
  have D__law_row : FnE P w K mg base "_law_row" 2 1 m__law_row := FnE.of d__law_row (fun _ _ _ _ _ _ us hl => match us, hl with | [_, _], _ => rfl) (fun F => ok__law_row T  F)
  have D__law_at : FnE P w K mg base "_law_at" 3 1 m__law_at := FnE.of d__law_at (fun _ _ _ _ _ _ us hl => match us, hl with | [_, _, _], _ => rfl) (fun F => ok__law_at T  F)
  have D__law_steps : FnE P w K mg base "_law_steps" 5 2 m__law_steps := FnE.of d__law_steps (fun _ _ _ _ _ _ us hl => match us, hl with | [_, _, _, _, _], _ => rfl) (fun F => ok__law_steps T D__law_at F)
  have D_TooMany : ExNH P w K mg base "TooMany" ["limit"] := ExNH.of d_TooMany (fun _ _ _ _ _ _ us hl => match us, hl with | [_, _], _ => rfl) (fun F => ok_TooMany___init__ F)
  have D_check_steps : FnE P w K mg base "check_steps" 1 3 m_check_steps := FnE.of d_check_steps (fun _ _ _ _ _ _ us hl => match us, hl with | [_], _ => rfl) (fun F => ok_check_steps T D_TooMany F)
  have D_Tariff : MkH P w K mg base "Tariff" 2 4 m_Tariff___init__ := MkH.of T.cl_Tariff d_Tariff___init__ (fun _ _ _ _ _ _ us hl => match us, hl with | [_, _, _], _ => rfl) (fun F => ok_Tariff___init__ T D_check_steps F)
  have D__law_first_fall : FnE P w K mg base "_law_first_fall" 1 1 m__law_first_fall := FnE.of d__law_first_fall (fun _ _ _ _ _ _ us hl => match us, hl with | [_], _ => rfl) (fun F => ok__law_first_fall T  F)
  have D__law_use : FnE P w K mg base "_law_use" 4 2 m__law_use := FnE.of d__law_use (fun _ _ _ _ _ _ us hl => match us, hl with | [_, _, _, _], _ => rfl) (fun F => ok__law_use T D__law_at F)
  have D__law_splits : FnE P w K mg base "_law_splits" 2 3 m__law_splits := FnE.of d__law_splits (fun _ _ _ _ _ _ us hl => match us, hl with | [_, _], _ => rfl) (fun F => ok__law_splits T D__law_at D__law_use F)
  have D_check_split : FnE P w K mg base "check_split" 1 1 m_check_split := FnE.of d_check_split (fun _ _ _ _ _ _ us hl => match us, hl with | [_], _ => rfl) (fun F => ok_check_split T  F)
  have D_check_use : FnE P w K mg base "check_use" 2 1 m_check_use := FnE.of d_check_use (fun _ _ _ _ _ _ us hl => match us, hl with | [_, _], _ => rfl) (fun F => ok_check_use T  F)
  have D_Tariff_charge : MeH P w K mg base "Tariff" "charge" 3 2 m_Tariff_charge := MeH.of T.cl_Tariff d_Tariff_charge (fun _ _ _ _ _ _ us hl => match us, hl with | [_, _, _], _ => rfl) (fun F => ok_Tariff_charge T D_check_use F)
  have D_extra_charge : FnE P w K mg base "extra_charge" 2 3 m_extra_charge := FnE.of d_extra_charge (fun _ _ _ _ _ _ us hl => match us, hl with | [_, _], _ => rfl) (fun F => ok_extra_charge T D_Tariff_charge F)
  have D_is_saving : FnE P w K mg base "is_saving" 2 4 m_is_saving := FnE.of d_is_saving (fun _ _ _ _ _ _ us hl => match us, hl with | [_, _], _ => rfl) (fun F => ok_is_saving T D_check_split D_extra_charge F)
  have D_is_costly : FnE P w K mg base "is_costly" 2 4 m_is_costly := FnE.of d_is_costly (fun _ _ _ _ _ _ us hl => match us, hl with | [_, _], _ => rfl) (fun F => ok_is_costly T D_check_split D_extra_charge F)
  have D__law_called : FnE P w K mg base "_law_called" 3 5 m__law_called := FnE.of d__law_called (fun _ _ _ _ _ _ us hl => match us, hl with | [_, _, _], _ => rfl) (fun F => ok__law_called T D_is_saving D_is_costly F)
  have D__law_refused : FnE P w K mg base "_law_refused" 2 6 m__law_refused := FnE.of d__law_refused (fun _ _ _ _ _ _ us hl => match us, hl with | [_, _], _ => rfl) (fun F => ok__law_refused T D__law_at D__law_called F)
  have D__law_cell : FnE P w K mg base "_law_cell" 2 1 m__law_cell := FnE.of d__law_cell (fun _ _ _ _ _ _ us hl => match us, hl with | [_, _], _ => rfl) (fun F => ok__law_cell T  F)
  have D__law_is_whole : FnE P w K mg base "_law_is_whole" 1 1 m__law_is_whole := FnE.of d__law_is_whole (fun _ _ _ _ _ _ us hl => match us, hl with | [_], _ => rfl) (fun F => ok__law_is_whole T  F)
  have D__law_told : FnE P w K mg base "_law_told" 4 2 m__law_told := FnE.of d__law_told (fun _ _ _ _ _ _ us hl => match us, hl with | [_, _, _, _], _ => rfl) (fun F => ok__law_told T D__law_is_whole F)
  have D__law_lines : FnE P w K mg base "_law_lines" 4 1 m__law_lines := FnE.of d__law_lines (fun _ _ _ _ _ _ us hl => match us, hl with | [_, _, _, _], _ => rfl) (fun F => ok__law_lines T  F)
  have D__law_charge : FnE P w K mg base "_law_charge" 4 2 m__law_charge := FnE.of d__law_charge (fun _ _ _ _ _ _ us hl => match us, hl with | [_, _, _, _], _ => rfl) (fun F => ok__law_charge T D__law_lines F)
  have D__law_extra : FnE P w K mg base "_law_extra" 3 3 m__law_extra := FnE.of d__law_extra (fun _ _ _ _ _ _ us hl => match us, hl with | [_, _, _], _ => rfl) (fun F => ok__law_extra T D__law_charge F)
  have D__law_judged : FnE P w K mg base "_law_judged" 6 5 m__law_judged := FnE.of d__law_judged (fun _ _ _ _ _ _ us hl => match us, hl with | [_, _, _, _, _, _], _ => rfl) (fun F => ok__law_judged T D__law_extra D_is_saving D_is_costly F)
  have D_split_at : FnE P w K mg base "split_at" 1 1 m_split_at := FnE.of d_split_at (fun _ _ _ _ _ _ us hl => match us, hl with | [_], _ => rfl) (fun F => ok_split_at T  F)
  have D_split_saves : FnE P w K mg base "split_saves" 1 2 m_split_saves := FnE.of d_split_saves (fun _ _ _ _ _ _ us hl => match us, hl with | [_], _ => rfl) (fun F => ok_split_saves T D_split_at F)
  have D_split_costs : FnE P w K mg base "split_costs" 1 2 m_split_costs := FnE.of d_split_costs (fun _ _ _ _ _ _ us hl => match us, hl with | [_], _ => rfl) (fun F => ok_split_costs T D_split_at F)
  exact ok_law T D__law_cell D__law_row D__law_at D__law_steps D_Tariff D__law_first_fall D_split_saves D__law_told D_split_costs D_is_saving D_is_costly D__law_splits D__law_judged D__law_refused F
end
end K45
open PySem PySem.W PyProof.Rows
set_option maxHeartbeats 0 in
theorem PySem.Challenge.cw_dialhouse_k45_whole_splitting_holds : PySem.Challenge.rw_dialhouse_k45_whole_splitting.Holds := by
  w_on; o_law; k_head; (case hw => w_witness2)
  k_fill
  refine DH.walk_law (k := 7) (l := PySem.Challenge.rw_dialhouse_k45_whole_splitting) rfl rfl ⟨rfl, by decide, by decide⟩ (fun w h Y => PySem.W.kIn_of Y) ?F
  case F =>
    intro w mg fa h KX G hmg
    refine' K45.all_ok ?T ?d__law_row ?d__law_at ?d__law_steps ?d_TooMany ?d_check_steps ?d_Tariff___init__ ?d__law_first_fall ?d__law_use ?d__law_splits ?d_check_split ?d_check_use ?d_Tariff_charge ?d_extra_charge ?d_is_saving ?d_is_costly ?d__law_called ?d__law_refused ?d__law_cell ?d__law_is_whole ?d__law_told ?d__law_lines ?d__law_charge ?d__law_extra ?d__law_judged ?d_split_at ?d_split_saves ?d_split_costs ?d_law hmg ?hm
    case hm => exact K45.law_true
    case T =>
      refine' K45.Txt.mk ?b_bool ?b_int ?b_isinstance ?b_len ?b_max ?b_min ?b_range ?b_sorted ?b_sum ?b_tuple ?c_MOST_DAYS ?c_MOST_PRICE ?c_MOST_STEPS ?c_MOST_UNIT ?c_MOST_USE ?x_BadOrder ?x_Empty ?x_OutOfRange ?n_MeterError ?n_OutOfRange ?cl_Tariff ?sub
      · (refine' DH.none_mk KX G ?a_1; k_is)
      · (refine' DH.none_mk KX G ?a_2; k_is)
      · (refine' DH.none_mk KX G ?a_3; k_is)
      · (refine' DH.none_mk KX G ?a_4; k_is)
      · (refine' DH.none_mk KX G ?a_5; k_is)
      · (refine' DH.none_mk KX G ?a_6; k_is)
      · (refine' DH.none_mk KX G ?a_7; k_is)
      · (refine' DH.none_mk KX G ?a_8; k_is)
      · (refine' DH.none_mk KX G ?a_9; k_is)
      · (refine' DH.none_mk KX G ?a_10; k_is)
      · (refine' DH.int_mk KX G ?a_11; (case a_11 => k_is))
      · (refine' DH.int_mk KX G ?a_12; (case a_12 => k_is))
      · (refine' DH.int_mk KX G ?a_13; (case a_13 => k_is))
      · (refine' DH.int_mk KX G ?a_14; (case a_14 => k_is))
      · (refine' DH.int_mk KX G ?a_15; (case a_15 => k_is))
      · (refine' DH.x0_mk KX G ?a_16 ?e_16 ?k_16 ?s_16 ?t_16; (case a_16 => k_is); (case e_16 => k_exc); (case k_16 => k_is); (case s_16 => k_is); (case t_16 => k_is))
      · (refine' DH.x0_mk KX G ?a_17 ?e_17 ?k_17 ?s_17 ?t_17; (case a_17 => k_is); (case e_17 => k_exc); (case k_17 => k_is); (case s_17 => k_is); (case t_17 => k_is))
      · (refine' DH.x0_mk KX G ?a_18 ?e_18 ?k_18 ?s_18 ?t_18; (case a_18 => k_is); (case e_18 => k_exc); (case k_18 => k_is); (case s_18 => k_is); (case t_18 => k_is))
      · (refine' DH.nm_mk KX G ?a_19; (case a_19 => k_is))
      · (refine' DH.nm_mk KX G ?a_20; (case a_20 => k_is))
      · (refine' DH.cl_mk KX G ?a_21 ?pg_21 ?hd_21 ?po_21 ?sa_21 ?no_21; (case a_21 => k_is); (case pg_21 => k_is); (case hd_21 => k_is); (case po_21 => k_is); (case sa_21 => k_is); (case no_21 => (refine' List.forall_mem_cons.mpr ⟨?_, ?_⟩; k_is; refine' List.forall_mem_cons.mpr ⟨?_, ?_⟩; k_is; exact fun _ z => nomatch z)))
      · (refine' DH.tab_ok (DH.all_cons ?pp0 (DH.all_cons ?pp1 (DH.all_cons ?pp2 (DH.all_cons ?pp3 (DH.all_cons ?pp4 (DH.all_cons ?pp5 (DH.all_cons ?pp6 (DH.all_cons ?pp7 DH.all_nil)))))))); (case pp0 => (refine' DH.pair_mk KX G ?a_22 ?b_22 ?h1_22 ?h2_22 ?h3_22 ?h4_22; (case a_22 => k_is); (case b_22 => k_is); (case h1_22 => k_is); (case h2_22 => k_is); (case h3_22 => k_is); (case h4_22 => first | rfl | k_is))); (case pp1 => (refine' DH.pair_mk KX G ?a_23 ?b_23 ?h1_23 ?h2_23 ?h3_23 ?h4_23; (case a_23 => k_is); (case b_23 => k_is); (case h1_23 => k_is); (case h2_23 => k_is); (case h3_23 => k_is); (case h4_23 => first | rfl | k_is))); (case pp2 => (refine' DH.pair_mk KX G ?a_24 ?b_24 ?h1_24 ?h2_24 ?h3_24 ?h4_24; (case a_24 => k_is); (case b_24 => k_is); (case h1_24 => k_is); (case h2_24 => k_is); (case h3_24 => k_is); (case h4_24 => first | rfl | k_is))); (case pp3 => (refine' DH.pair_mk KX G ?a_25 ?b_25 ?h1_25 ?h2_25 ?h3_25 ?h4_25; (case a_25 => k_is); (case b_25 => k_is); (case h1_25 => k_is); (case h2_25 => k_is); (case h3_25 => k_is); (case h4_25 => first | rfl | k_is))); (case pp4 => (refine' DH.pair_mk KX G ?a_26 ?b_26 ?h1_26 ?h2_26 ?h3_26 ?h4_26; (case a_26 => k_is); (case b_26 => k_is); (case h1_26 => k_is); (case h2_26 => k_is); (case h3_26 => k_is); (case h4_26 => first | rfl | k_is))); (case pp5 => (refine' DH.pair_mk KX G ?a_27 ?b_27 ?h1_27 ?h2_27 ?h3_27 ?h4_27; (case a_27 => k_is); (case b_27 => k_is); (case h1_27 => k_is); (case h2_27 => k_is); (case h3_27 => k_is); (case h4_27 => first | rfl | k_is))); (case pp6 => (refine' DH.pair_mk KX G ?a_28 ?b_28 ?h1_28 ?h2_28 ?h3_28 ?h4_28; (case a_28 => k_is); (case b_28 => k_is); (case h1_28 => k_is); (case h2_28 => k_is); (case h3_28 => k_is); (case h4_28 => first | rfl | k_is))); (case pp7 => (refine' DH.pair_mk KX G ?a_29 ?b_29 ?h1_29 ?h2_29 ?h3_29 ?h4_29; (case a_29 => k_is); (case b_29 => k_is); (case h1_29 => k_is); (case h2_29 => k_is); (case h3_29 => k_is); (case h4_29 => first | rfl | k_is))))
    case d__law_row => (refine' DH.def_mk KX G ?a_30 ?l_30 ?c_30 ?k_30; (case a_30 => k_is); (case l_30 => k_is); (case c_30 => k_is); (case k_30 => k_is))
    case d__law_at => (refine' DH.def_mk KX G ?a_31 ?l_31 ?c_31 ?k_31; (case a_31 => k_is); (case l_31 => k_is); (case c_31 => k_is); (case k_31 => k_is))
    case d__law_steps => (refine' DH.def_mk KX G ?a_32 ?l_32 ?c_32 ?k_32; (case a_32 => k_is); (case l_32 => k_is); (case c_32 => k_is); (case k_32 => k_is))
    case d_TooMany => (refine' DH.xn_mk KX G ?a_33 ?xL_33 ?rb_33 ?sa_33 ?eC_33 ?tC_33 ?kC_33 ?no_33 ?a1_33 ?t1_33 ?l_33 ?c_33 ?k_33; (case a_33 => k_is); (case xL_33 => k_is); (case rb_33 => decide +kernel); (case sa_33 => k_is); (case eC_33 => k_is); (case tC_33 => k_is); (case kC_33 => k_is); (case no_33 => (refine' List.forall_mem_cons.mpr ⟨?_, ?_⟩; k_is; exact fun _ z => nomatch z)); (case a1_33 => k_is); (case t1_33 => k_is); (case l_33 => k_is); (case c_33 => k_is); (case k_33 => k_is))
    case d_check_steps => (refine' DH.def_mk KX G ?a_34 ?l_34 ?c_34 ?k_34; (case a_34 => k_is); (case l_34 => k_is); (case c_34 => k_is); (case k_34 => k_is))
    case d_Tariff___init__ => (refine' DH.ini_mk KX G ?aC_35 ?a_35 ?i_35 ?l_35 ?c_35 ?k_35 ?mk_35 ?kc_35; (case aC_35 => k_is); (case a_35 => k_is); (case i_35 => k_is); (case l_35 => k_is); (case c_35 => k_is); (case k_35 => k_is); (case mk_35 => k_is); (case kc_35 => k_is))
    case d__law_first_fall => (refine' DH.def_mk KX G ?a_36 ?l_36 ?c_36 ?k_36; (case a_36 => k_is); (case l_36 => k_is); (case c_36 => k_is); (case k_36 => k_is))
    case d__law_use => (refine' DH.def_mk KX G ?a_37 ?l_37 ?c_37 ?k_37; (case a_37 => k_is); (case l_37 => k_is); (case c_37 => k_is); (case k_37 => k_is))
    case d__law_splits => (refine' DH.def_mk KX G ?a_38 ?l_38 ?c_38 ?k_38; (case a_38 => k_is); (case l_38 => k_is); (case c_38 => k_is); (case k_38 => k_is))
    case d_check_split => (refine' DH.def_mk KX G ?a_39 ?l_39 ?c_39 ?k_39; (case a_39 => k_is); (case l_39 => k_is); (case c_39 => k_is); (case k_39 => k_is))
    case d_check_use => (refine' DH.def_mk KX G ?a_40 ?l_40 ?c_40 ?k_40; (case a_40 => k_is); (case l_40 => k_is); (case c_40 => k_is); (case k_40 => k_is))
    case d_Tariff_charge => (refine' DH.mth_mk KX G ?aC_41 ?a_41 ?i_41 ?l_41 ?c_41 ?k_41; (case aC_41 => k_is); (case a_41 => k_is); (case i_41 => k_is); (case l_41 => k_is); (case c_41 => k_is); (case k_41 => k_is))
    case d_extra_charge => (refine' DH.def_mk KX G ?a_42 ?l_42 ?c_42 ?k_42; (case a_42 => k_is); (case l_42 => k_is); (case c_42 => k_is); (case k_42 => k_is))
    case d_is_saving => (refine' DH.def_mk KX G ?a_43 ?l_43 ?c_43 ?k_43; (case a_43 => k_is); (case l_43 => k_is); (case c_43 => k_is); (case k_43 => k_is))
    case d_is_costly => (refine' DH.def_mk KX G ?a_44 ?l_44 ?c_44 ?k_44; (case a_44 => k_is); (case l_44 => k_is); (case c_44 => k_is); (case k_44 => k_is))
    case d__law_called => (refine' DH.def_mk KX G ?a_45 ?l_45 ?c_45 ?k_45; (case a_45 => k_is); (case l_45 => k_is); (case c_45 => k_is); (case k_45 => k_is))
    case d__law_refused => (refine' DH.def_mk KX G ?a_46 ?l_46 ?c_46 ?k_46; (case a_46 => k_is); (case l_46 => k_is); (case c_46 => k_is); (case k_46 => k_is))
    case d__law_cell => (refine' DH.def_mk KX G ?a_47 ?l_47 ?c_47 ?k_47; (case a_47 => k_is); (case l_47 => k_is); (case c_47 => k_is); (case k_47 => k_is))
    case d__law_is_whole => (refine' DH.def_mk KX G ?a_48 ?l_48 ?c_48 ?k_48; (case a_48 => k_is); (case l_48 => k_is); (case c_48 => k_is); (case k_48 => k_is))
    case d__law_told => (refine' DH.def_mk KX G ?a_49 ?l_49 ?c_49 ?k_49; (case a_49 => k_is); (case l_49 => k_is); (case c_49 => k_is); (case k_49 => k_is))
    case d__law_lines => (refine' DH.def_mk KX G ?a_50 ?l_50 ?c_50 ?k_50; (case a_50 => k_is); (case l_50 => k_is); (case c_50 => k_is); (case k_50 => k_is))
    case d__law_charge => (refine' DH.def_mk KX G ?a_51 ?l_51 ?c_51 ?k_51; (case a_51 => k_is); (case l_51 => k_is); (case c_51 => k_is); (case k_51 => k_is))
    case d__law_extra => (refine' DH.def_mk KX G ?a_52 ?l_52 ?c_52 ?k_52; (case a_52 => k_is); (case l_52 => k_is); (case c_52 => k_is); (case k_52 => k_is))
    case d__law_judged => (refine' DH.def_mk KX G ?a_53 ?l_53 ?c_53 ?k_53; (case a_53 => k_is); (case l_53 => k_is); (case c_53 => k_is); (case k_53 => k_is))
    case d_split_at => (refine' DH.def_mk KX G ?a_54 ?l_54 ?c_54 ?k_54; (case a_54 => k_is); (case l_54 => k_is); (case c_54 => k_is); (case k_54 => k_is))
    case d_split_saves => (refine' DH.def_mk KX G ?a_55 ?l_55 ?c_55 ?k_55; (case a_55 => k_is); (case l_55 => k_is); (case c_55 => k_is); (case k_55 => k_is))
    case d_split_costs => (refine' DH.def_mk KX G ?a_56 ?l_56 ?c_56 ?k_56; (case a_56 => k_is); (case l_56 => k_is); (case c_56 => k_is); (case k_56 => k_is))
    case d_law => (refine' DH.def_mk KX G ?a_57 ?l_57 ?c_57 ?k_57; (case a_57 => k_is); (case l_57 => k_is); (case c_57 => k_is); (case k_57 => k_is))
